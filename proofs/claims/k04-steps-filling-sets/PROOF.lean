import PyProof.Rows.All
import Wide.All
import OpenK.AllK
import Wide.FinOn
import HandS.ForMost
import HandS.Zip
import HandS.DictComp
import HandS.Style
import HandS.Flow
import HandS.Deep
import HandS.TupAny
import HandS.Conv
import HandS.IsInst
import HandS.TupLe
import KE.GoesEnum
import KE.GoesZip
import KE.GoesMore
import HandS.SortInts
import KE.KSortedM
import PyProof.TupleOfSeq
import PyProof.Rows.SortShellAny
import PyProof.P3Eq
import PySem.Challenge.RW_ebbledger_k04_whole_steps_filling_and_se
section
set_option Elab.async false
set_option linter.all false
set_option maxRecDepth 100000
set_option maxHeartbeats 2000000
/-! The by-value layer: what a piece of Python does, said of plain data (PyData), with lists that only the def itself may change. -/
namespace Dn
open PySem L2

abbrev PV := PyData
abbrev Own := Addr → Prop

def Ex (H H' : Hp) : Prop := ∀ a o, H a = some o → H' a = some o
theorem Ex.refl (H : Hp) : Ex H H := fun _ _ h => h
theorem Ex.trans {H H1 H2 : Hp} (a : Ex H H1) (b : Ex H1 H2) : Ex H H2 := fun x o h => b x o (a x o h)
theorem Ex.new {H : Hp} {p : Addr} {o : HO} (h : H p = none) : Ex H (upd H p o) := fun a u e => by
  rw [upd_ne (ne_of_none e h)]; exact e
theorem Ex.back {H H' : Hp} {p : Addr} (e : Ex H H') (h : H' p = none) : H p = none := by
  cases h1 : H p with
  | none => rfl
  | some o => rw [e p o h1] at h; cases h
theorem Ex.some {H H' : Hp} {p : Addr} (e : Ex H H') (h : H p ≠ none) : H' p ≠ none := by
  intro q; exact h (e.back q)

open Classical in
noncomputable def mask (H : Hp) (O : Own) : Hp := fun a => if O a then none else H a
theorem mask_some {H : Hp} {O : Own} {a : Addr} {o : HO} : mask H O a = some o ↔ ¬ O a ∧ H a = some o := by
  unfold mask
  by_cases h : O a
  · simp [h]
  · simp [h]
theorem mask_ex {H : Hp} {O : Own} : Ex (mask H O) H := fun a o e => (mask_some.mp e).2
theorem mask_mono {H H' : Hp} {O : Own} (e : Ex H H') : Ex (mask H O) (mask H' O) := fun a o h =>
  mask_some.mpr ⟨(mask_some.mp h).1, e a o (mask_some.mp h).2⟩
theorem mask_less {H : Hp} {O O' : Own} (e : ∀ a, O' a → O a) : Ex (mask H O) (mask H O') := fun a o h =>
  mask_some.mpr ⟨fun q => (mask_some.mp h).1 (e a q), (mask_some.mp h).2⟩
/-- masks over two heaps -/
theorem mask_to {H H' : Hp} {O O' : Own} (e : ∀ a o, ¬ O a → H a = some o → ¬ O' a ∧ H' a = some o) : Ex (mask H O) (mask H' O') := fun a o h =>
  let ⟨h1, h2⟩ := mask_some.mp h
  mask_some.mpr (e a o h1 h2)

theorem rd_ex {H H' : Hp} {a : Addr} {u : HO} (e : Ex H H') (h : Rd H a u) : Rd H' a u := by
  rcases h with h | ⟨o, h⟩
  · exact .inl (e a _ h)
  · exact .inr ⟨o, e a _ h⟩
theorem sl_ex {K : PySem.W.Frag} {H H' : Hp} {a : Addr} {xs : List V} (e : Ex H H') (h : SqL K H a xs) : SqL K H' a xs := by
  rcases h with h | h
  · exact .inl (rd_ex e h)
  · exact .inr h
theorem st_ex {K : PySem.W.Frag} {H H' : Hp} {a : Addr} {xs : List V} (e : Ex H H') (h : SqT K H a xs) : SqT K H' a xs := by
  rcases h with h | h
  · exact .inl (rd_ex e h)
  · exact .inr h
theorem sl_of {K : PySem.W.Frag} {H : Hp} {a : Addr} {xs : List V} (h : H a = some (.lst xs)) : SqL K H a xs := .inl (.inl h)
theorem st_of {K : PySem.W.Frag} {H : Hp} {a : Addr} {xs : List V} (h : H a = some (.tup xs)) : SqT K H a xs := .inl (.inl h)

section
variable {K : PySem.W.Frag} {H H' : Hp}
mutual
theorem dp_ex (e : Ex H H') : ∀ {v : V} {d : PyData}, Dp K H v d → Dp K H' v d
  | _, _, .non => .non
  | _, _, .bl b => .bl b
  | _, _, .int i => .int i
  | _, _, .str x => .str x
  | _, _, .lst h k => .lst (sl_ex e h) (dpa_ex e k)
  | _, _, .tup h k => .tup (st_ex e h) (dpa_ex e k)
theorem dpa_ex (e : Ex H H') : ∀ {vs : List V} {ds : List PyData}, DpAll K H vs ds → DpAll K H' vs ds
  | _, _, .nil => .nil
  | _, _, .cons h k => .cons (dp_ex e h) (dpa_ex e k)
end
theorem dpa_length : ∀ {vs : List V} {ds : List PyData}, DpAll K H vs ds → vs.length = ds.length
  | _, _, .nil => rfl
  | _, _, .cons _ k => congrArg (· + 1) (dpa_length k)
theorem dpa_get : ∀ {vs : List V} {ds : List PyData} {i : Nat} {d : PyData}, DpAll K H vs ds → ds[i]? = some d → ∃ v, vs[i]? = some v ∧ Dp K H v d
  | _, _, _, _, .nil, e => by simp at e
  | _, _, 0, _, .cons h _, e => by
    simp at e; subst e; exact ⟨_, rfl, h⟩
  | _, _, i + 1, _, .cons _ k, e => by
    obtain ⟨v, a, b⟩ := dpa_get (i := i) k (by simpa using e)
    exact ⟨v, by simpa using a, b⟩
theorem dpa_get' : ∀ {vs : List V} {ds : List PyData} {i : Nat} {v : V}, DpAll K H vs ds → vs[i]? = some v → ∃ d, ds[i]? = some d ∧ Dp K H v d
  | _, _, _, _, .nil, e => by simp at e
  | _, _, 0, _, .cons h _, e => by
    simp at e; subst e; exact ⟨_, rfl, h⟩
  | _, _, i + 1, _, .cons _ k, e => by
    obtain ⟨v, a, b⟩ := dpa_get' (i := i) k (by simpa using e)
    exact ⟨v, by simpa using a, b⟩
theorem dpa_append : ∀ {vs ws : List V} {ds es : List PyData}, DpAll K H vs ds → DpAll K H ws es → DpAll K H (vs ++ ws) (ds ++ es)
  | _, _, _, _, .nil, s => s
  | _, _, _, _, .cons h k, s => .cons h (dpa_append k s)
theorem dpa_snoc {vs : List V} {ds : List PyData} {v : V} {d : PyData} (h : DpAll K H vs ds) (k : Dp K H v d) : DpAll K H (vs ++ [v]) (ds ++ [d]) := dpa_append h (.cons k .nil)
theorem dpa_set : ∀ {vs : List V} {ds : List PyData} {v : V} {d : PyData} (i : Nat), DpAll K H vs ds → Dp K H v d → DpAll K H (vs.set i v) (ds.set i d)
  | _, _, _, _, _, .nil, _ => .nil
  | _, _, _, _, 0, .cons _ k, h => .cons h k
  | _, _, _, _, i + 1, .cons h k, h' => .cons h (dpa_set i k h')
theorem dpa_take : ∀ {vs : List V} {ds : List PyData} (n : Nat), DpAll K H vs ds → DpAll K H (vs.take n) (ds.take n)
  | _, _, 0, _ => .nil
  | _, _, _ + 1, .nil => .nil
  | _, _, n + 1, .cons h k => .cons h (dpa_take n k)
theorem dpa_drop : ∀ {vs : List V} {ds : List PyData} (n : Nat), DpAll K H vs ds → DpAll K H (vs.drop n) (ds.drop n)
  | _, _, 0, k => k
  | _, _, _ + 1, .nil => .nil
  | _, _, n + 1, .cons _ k => dpa_drop n k
theorem dpa_reverse : ∀ {vs : List V} {ds : List PyData}, DpAll K H vs ds → DpAll K H vs.reverse ds.reverse
  | _, _, .nil => .nil
  | _, _, .cons h k => by
    rw [List.reverse_cons, List.reverse_cons]; exact dpa_snoc (dpa_reverse k) h
theorem dpa_ints : ∀ {vs : List V} {ns : List Int}, DpAll K H vs (ns.map .int) → vs = ns.map .int
  | _, [], .nil => rfl
  | _, n :: ns, .cons h k => by
    cases h
    rw [List.map_cons, dpa_ints k]
theorem dpa_bls : ∀ {vs : List V} {ns : List Bool}, DpAll K H vs (ns.map .bool) → vs = ns.map .bl
  | _, [], .nil => rfl
  | _, n :: ns, .cons h k => by
    cases h
    rw [List.map_cons, dpa_bls k]
theorem dpa_strs : ∀ {vs : List V} {ns : List Str}, DpAll K H vs (ns.map .str) → vs = ns.map .str
  | _, [], .nil => rfl
  | _, n :: ns, .cons h k => by
    cases h
    rw [List.map_cons, dpa_strs k]
theorem dpa_of_ints : ∀ (ns : List Int), DpAll K H (ns.map .int) (ns.map .int)
  | [] => .nil
  | n :: ns => .cons (.int n) (dpa_of_ints ns)
theorem dpa_of_strs : ∀ (ns : List Str), DpAll K H (ns.map .str) (ns.map .str)
  | [] => .nil
  | n :: ns => .cons (.str n) (dpa_of_strs ns)
end

/-! ### the environment by values -/
/-- a slot: unassigned; a value that nobody changes; a list of the def's own; the same, its place told (an argument that is changed); a list of another's, read; a list of lists of one's own; a dict -/
inductive Sl where
  | un
  | fz (p : PV)
  | ol (l : List PV)
  | ox (l : List PV)
  | br (l : List PV)
  | oll (l : List (List PV))
  | fd (kvs : List (Key × PV))
abbrev En := List Sl

/-- lists at addresses -/
inductive LsR (K : PySem.W.Frag) (H F : Hp) : List (List PV) → List Addr → Prop
  | nil : LsR K H F [] []
  | cons {l : List PV} {ls : List (List PV)} {b : Addr} {bs : List Addr} {xs : List V} : H b = some (.lst xs) → DpAll K F xs l → LsR K H F ls bs → LsR K H F (l :: ls) (b :: bs)
inductive KvR (K : PySem.W.Frag) (F : Hp) : List (Key × PV) → List (Key × V) → Prop
  | nil : KvR K F [] []
  | cons {k : Key} {d : PV} {v : V} {ks : List (Key × PV)} {vs : List (Key × V)} : Dp K F v d → KvR K F ks vs → KvR K F ((k, d) :: ks) ((k, v) :: vs)

/-- what stands around a def's run: the heap at its entry, the addresses that are others', where borrowed lists stand -/
structure Fm where
  B : Hp
  O0 : Own
  Z : Nat → Option Addr
  P : Own
  Y : Nat → Option Addr
def own (f : Fm) (A : Nat → List Addr) : Own := fun a => f.O0 a ∨ ∃ i, a ∈ A i

def SlR (K : PySem.W.Frag) (f : Fm) (H F : Hp) (i : Nat) : Sl → Option (Option V) → List Addr → Prop
  | .un, _, as => as = []
  | .fz p, v, as => as = [] ∧ ∃ x, v = some (some x) ∧ Dp K F x p
  | .ol l, v, as => ∃ a xs, as = [a] ∧ v = some (some (.ref a)) ∧ H a = some (.lst xs) ∧ DpAll K F xs l
  | .ox l, v, as => ∃ a xs, as = [a] ∧ f.Y i = some a ∧ v = some (some (.ref a)) ∧ H a = some (.lst xs) ∧ DpAll K F xs l
  | .br l, v, as => ∃ a xs, as = [] ∧ f.Z i = some a ∧ v = some (some (.ref a)) ∧ f.O0 a ∧ f.B a = some (.lst xs) ∧ DpAll K F xs l
  | .oll ls, v, as => ∃ a bs, as = a :: bs ∧ v = some (some (.ref a)) ∧ H a = some (.lst (bs.map .ref)) ∧ LsR K H F ls bs
  | .fd kvs, v, as => as = [] ∧ ∃ a xs, v = some (some (.ref a)) ∧ F a = some (.dK xs) ∧ KvR K F kvs xs

structure RS (K : PySem.W.Frag) (f : Fm) (A : Nat → List Addr) (ρ : En) (σ : St) (H : Hp) : Prop where
  len : ρ.length = σ.length
  ext : Ex f.B H
  old : ∀ a, f.O0 a → H a ≠ none
  new : ∀ i a, a ∈ A i → f.B a = none ∧ ¬ f.O0 a
  nd : ∀ i, (A i).Nodup
  dis : ∀ i j a, a ∈ A i → a ∈ A j → i = j
  sl : ∀ i s, ρ[i]? = some s → SlR K f H (mask H (own f A)) i s σ[i]? (A i)
  out : ∀ i, ρ.length ≤ i → A i = []
  zi : ∀ i j a, f.Z i = some a → f.Z j = some a → i = j
  pk : ∀ a, f.P a → ∃ (i : Nat) (l : List PV), ρ[i]? = some (Sl.ox l) ∧ f.Y i = some a

section
variable {K : PySem.W.Frag} {f : Fm} {H H' F F' : Hp}
theorem LsR.ex (e : Ex H H') (f : Ex F F') : ∀ {ls : List (List PV)} {bs : List Addr}, LsR K H F ls bs → LsR K H' F' ls bs
  | _, _, .nil => .nil
  | _, _, .cons h k r => .cons (e _ _ h) (dpa_ex f k) (LsR.ex e f r)
theorem KvR.ex (f : Ex F F') : ∀ {ls : List (Key × PV)} {bs : List (Key × V)}, KvR K F ls bs → KvR K F' ls bs
  | _, _, .nil => .nil
  | _, _, .cons h r => .cons (dp_ex f h) (KvR.ex f r)
/-- what a slot says leans on its own addresses and on what is not owned -/
theorem SlR.stay {i : Nat} {s : Sl} {v : Option (Option V)} {as : List Addr} (e : ∀ a ∈ as, ∀ o, H a = some o → H' a = some o) (g : Ex F F') (h : SlR K f H F i s v as) : SlR K f H' F' i s v as := by
  cases s with
  | un => exact h
  | fz p => obtain ⟨h1, x, h2, h3⟩ := h; exact ⟨h1, x, h2, dp_ex g h3⟩
  | ol l => obtain ⟨a, xs, h1, h2, h3, h4⟩ := h; exact ⟨a, xs, h1, h2, e a (by rw [h1]; exact List.mem_singleton_self a) _ h3, dpa_ex g h4⟩
  | ox l => obtain ⟨a, xs, h1, hy, h2, h3, h4⟩ := h; exact ⟨a, xs, h1, hy, h2, e a (by rw [h1]; exact List.mem_singleton_self a) _ h3, dpa_ex g h4⟩
  | br l => obtain ⟨a, xs, h1, hz, h2, h3, h4, h5⟩ := h; exact ⟨a, xs, h1, hz, h2, h3, h4, dpa_ex g h5⟩
  | oll ls =>
    obtain ⟨a, bs, h1, h2, h3, h4⟩ := h
    subst h1
    refine ⟨a, bs, rfl, h2, e a List.mem_cons_self _ h3, ?_⟩
    have e' : ∀ b ∈ bs, ∀ o, H b = some o → H' b = some o := fun b hb => e b (List.mem_cons_of_mem _ hb)
    clear h2 h3 e
    induction h4 with
    | nil => exact .nil
    | cons x y z ih => exact .cons (e' _ List.mem_cons_self _ x) (dpa_ex g y) (ih fun b hb => e' b (List.mem_cons_of_mem _ hb))
  | fd kvs => obtain ⟨h1, a, xs, h2, h3, h4⟩ := h; exact ⟨h1, a, xs, h2, g _ _ h3, h4.ex g⟩
theorem SlR.ex {i : Nat} {s : Sl} {v : Option (Option V)} {as : List Addr} (e : Ex H H') (g : Ex F F') (h : SlR K f H F i s v as) : SlR K f H' F' i s v as := h.stay (fun a _ o q => e a o q) g
theorem LsR.there : ∀ {ls : List (List PV)} {bs : List Addr}, LsR K H F ls bs → ∀ b ∈ bs, H b ≠ none
  | _, _, .nil, _, hb => by cases hb
  | _, _, .cons h k r, b, hb => by
    rcases List.mem_cons.mp hb with e | hb
    · subst e; rw [h]; exact fun q => by cases q
    · exact LsR.there r b hb
theorem LsR.length : ∀ {ls : List (List PV)} {bs : List Addr}, LsR K H F ls bs → ls.length = bs.length
  | _, _, .nil => rfl
  | _, _, .cons _ _ r => congrArg (· + 1) (LsR.length r)
theorem LsR.get : ∀ {ls : List (List PV)} {bs : List Addr} {i : Nat} {l : List PV}, LsR K H F ls bs → ls[i]? = some l → ∃ b xs, bs[i]? = some b ∧ H b = some (.lst xs) ∧ DpAll K F xs l
  | _, _, _, _, .nil, e => by simp at e
  | _, _, 0, _, .cons h k _, e => by
    simp at e; subst e; exact ⟨_, _, rfl, h, k⟩
  | _, _, i + 1, _, .cons _ _ r, e => by
    obtain ⟨b, xs, h1, h2⟩ := LsR.get (i := i) r (by simpa using e)
    exact ⟨b, xs, by simpa using h1, h2⟩
/-- the owned addresses stand in the heap -/
theorem SlR.there {i : Nat} {s : Sl} {v : Option (Option V)} {as : List Addr} (h : SlR K f H F i s v as) : ∀ a ∈ as, H a ≠ none := by
  intro b hb
  cases s with
  | un => rw [show as = [] from h] at hb; cases hb
  | fz p => rw [h.1] at hb; cases hb
  | ol l => obtain ⟨a, xs, h1, h2, h3, h4⟩ := h; rw [h1] at hb; rw [List.mem_singleton.mp hb, h3]; exact fun q => by cases q
  | ox l => obtain ⟨a, xs, h1, _, h2, h3, h4⟩ := h; rw [h1] at hb; rw [List.mem_singleton.mp hb, h3]; exact fun q => by cases q
  | br l => obtain ⟨a, xs, h1, _⟩ := h; rw [h1] at hb; cases hb
  | oll ls =>
    obtain ⟨a, bs, h1, h2, h3, h4⟩ := h
    rw [h1] at hb
    rcases List.mem_cons.mp hb with e | hb
    · subst e; rw [h3]; exact fun q => by cases q
    · exact h4.there b hb
  | fd kvs => rw [h.1] at hb; cases hb
end
section
variable {K : PySem.W.Frag} {f : Fm} {H H' : Hp} {A : Nat → List Addr} {ρ : En} {σ : St}
theorem RS.there (r : RS K f A ρ σ H) {a : Addr} (h : own f A a) : H a ≠ none := by
  rcases h with h | ⟨i, h⟩
  · exact r.old a h
  · by_cases hi : i < ρ.length
    · exact (r.sl i ρ[i] (by simp [hi])).there a h
    · rw [r.out i (by omega)] at h; cases h
theorem RS.pown (r : RS K f A ρ σ H) {a : Addr} (h : f.P a) : own f A a := by
  obtain ⟨i, l, hi, hy⟩ := r.pk a h
  obtain ⟨b, xs, h1, hb, _⟩ := r.sl i _ hi
  have e : b = a := Option.some.inj (hb.symm.trans hy)
  exact .inr ⟨i, by rw [h1, e]; exact List.mem_singleton_self a⟩
theorem RS.fresh (r : RS K f A ρ σ H) {a : Addr} (h : H a = none) : ¬ own f A a := fun q => r.there q h
theorem RS.mono (r : RS K f A ρ σ H) (e : Ex H H') : RS K f A ρ σ H' :=
  ⟨r.len, r.ext.trans e, fun a h => e.some (r.old a h), r.new, r.nd, r.dis, fun i s h => (r.sl i s h).ex e (mask_mono e), r.out, r.zi, r.pk⟩
/-- a fresh list taken to those that one keeps apart (a comprehension's) -/
def Fm.aside (f : Fm) (p : Addr) : Fm := { f with O0 := fun a => f.O0 a ∨ a = p }
theorem own_aside {p a : Addr} : own (f.aside p) A a ↔ own f A a ∨ a = p := by
  constructor
  · rintro ((h | h) | h)
    · exact .inl (.inl h)
    · exact .inr h
    · exact .inl (.inr h)
  · rintro ((h | h) | h)
    · exact .inl (.inl h)
    · exact .inr h
    · exact .inl (.inr h)
theorem SlR.aside {F : Hp} {p : Addr} {i : Nat} {s : Sl} {v : Option (Option V)} {as : List Addr} (h : SlR K f H F i s v as) : SlR K (f.aside p) H F i s v as := by
  cases s with
  | br l => obtain ⟨a, xs, h1, hz, h2, h3, h4, h5⟩ := h; exact ⟨a, xs, h1, hz, h2, .inl h3, h4, h5⟩
  | _ => exact h
theorem RS.aside (r : RS K f A ρ σ H) {p : Addr} {o : HO} (hp : H p = none) : RS K (f.aside p) A ρ σ (upd H p o) := by
  have e : Ex H (upd H p o) := Ex.new hp
  refine ⟨r.len, r.ext.trans e, fun a h => ?_, fun i a h => ⟨(r.new i a h).1, fun q => ?_⟩, r.nd, r.dis, fun i s h => ((r.sl i s h).ex e (mask_to fun a o' h1 h2 => ⟨?_, e a _ h2⟩)).aside, r.out, r.zi, r.pk⟩
  · rcases h with h | h
    · exact e.some (r.old a h)
    · subst h; rw [upd_same]; exact fun q => by cases q
  · rcases q with q | q
    · exact (r.new i a h).2 q
    · subst q; exact r.there (Or.inr ⟨i, h⟩) hp
  · intro q
    rcases own_aside.mp q with q | q
    · exact h1 q
    · subst q; rw [hp] at h2; cases h2
/-- the list that was kept apart is written -/
theorem RS.asideW {p : Addr} {o : HO} (r : RS K (f.aside p) A ρ σ H) (hb : f.B p = none) (ha : ∀ i, p ∉ A i) : RS K (f.aside p) A ρ σ (upd H p o) := by
  have e : Ex (mask H (own (f.aside p) A)) (mask (upd H p o) (own (f.aside p) A)) := mask_to fun a o' h1 h2 => ⟨h1, by
    rw [upd_ne (fun q => h1 (own_aside.mpr (.inr q)))]; exact h2⟩
  refine ⟨r.len, fun a u h => ?_, fun a h => ?_, r.new, r.nd, r.dis, fun i s h => (r.sl i s h).stay (fun a q o' z => ?_) e, r.out, r.zi, r.pk⟩
  · rw [upd_ne (ne_of_none h hb)]; exact r.ext a u h
  · by_cases q : a = p
    · subst q; rw [upd_same]; exact fun q => by cases q
    · rw [upd_ne q]; exact r.old a h
  · rw [upd_ne (show a ≠ p from fun w => ha i (by rw [← w]; exact q))]; exact z
end
end Dn
end
section
set_option Elab.async false
set_option linter.all false
set_option maxRecDepth 100000
set_option maxHeartbeats 2000000
namespace Dn
open PySem L2

theorem pe_weak {X : Cx} {e : Expr} {t t' : TE} (h : PE X e t) (w : ∀ σ H Q, t' σ H Q → t σ H Q) : PE X e t' := ⟨fun pins s σ H Q I q => h.run pins s σ H Q I (w σ H Q q)⟩
theorem pt_weak {X : Cx} {e : Expr} {t t' : TT} (h : PT X e t) (w : ∀ σ H Q, t' σ H Q → t σ H Q) : PT X e t' := ⟨fun pins s σ H Q I q => h.run pins s σ H Q I (w σ H Q q)⟩
theorem pw_weak {X : Cx} {e : Expr} {t t' : TT} (h : PW X e t) (w : ∀ σ H Q, t' σ H Q → t σ H Q) : PW X e t' := ⟨fun wh pins s σ H Q I q => h.run wh pins s σ H Q I (w σ H Q q)⟩
theorem pa_weak {X : Cx} {e : List Expr} {t t' : TA} (h : PA X e t) (w : ∀ σ H Q, t' σ H Q → t σ H Q) : PA X e t' := ⟨fun pos pins s σ H Q I q => h.run pos pins s σ H Q I (w σ H Q q)⟩

abbrev DPv := En → Option PV
abbrev DQv := En → Option (List PV)
abbrev DTv := En → Option Bool

/-! ### what an expression does, by values; nothing that was there is changed -/
/-- a value that leans on nothing that is owned -/
def tP (K : PySem.W.Frag) (d : DPv) : TE := fun σ H Q => ∃ f A ρ p, RS K f A ρ σ H ∧ d ρ = some p ∧ ∀ v H1, Ex H H1 → Dp K (mask H1 (own f A)) v p → Q v H1
/-- a list or tuple, whose items lean on nothing that is owned -/
def tQ (K : PySem.W.Frag) (d : DQv) : TE := fun σ H Q => ∃ f A ρ l, RS K f A ρ σ H ∧ d ρ = some l ∧ ∀ a xs H1, Ex H H1 → (SqL K H1 a xs ∨ SqT K H1 a xs) → DpAll K (mask H1 (own f A)) xs l → Q (.ref a) H1
/-- a new list -/
def tL (K : PySem.W.Frag) (d : DQv) : TE := fun σ H Q => ∃ f A ρ l, RS K f A ρ σ H ∧ d ρ = some l ∧ ∀ a xs H1, H a = none → Ex H H1 → H1 a = some (.lst xs) → DpAll K (mask H1 (fun b => own f A b ∨ b = a)) xs l → Q (.ref a) H1
def tT (K : PySem.W.Frag) (d : DTv) : TT := fun σ H Q => ∃ f A ρ b, RS K f A ρ σ H ∧ d ρ = some b ∧ ∀ H1, Ex H H1 → Q b H1
def tA (K : PySem.W.Frag) (d : DQv) : TA := fun σ H Q => ∃ f A ρ l, RS K f A ρ σ H ∧ d ρ = some l ∧ ∀ vs H1, Ex H H1 → DpAll K (mask H1 (own f A)) vs l → Q vs H1

structure DP (X : Cx) (e : Expr) (d : DPv) : Prop where pe : PE X e (tP X.K d)
structure DQ (X : Cx) (e : Expr) (d : DQv) : Prop where pe : PE X e (tQ X.K d)
structure DL (X : Cx) (e : Expr) (d : DQv) : Prop where pe : PE X e (tL X.K d)
structure DT (X : Cx) (e : Expr) (d : DTv) : Prop where pt : PT X e (tT X.K d)
structure DW (X : Cx) (e : Expr) (d : DTv) : Prop where pw : PW X e (tT X.K d)
structure DA (X : Cx) (es : List Expr) (d : DQv) : Prop where pa : PA X es (tA X.K d)

/-! ### names, constants -/
def dVar (i : Nat) : DPv := fun ρ => match ρ[i]? with
  | some (.fz p) => some p
  | _ => none
def dC (p : PV) : DPv := fun _ => some p
/-- a list of one's own, or borrowed, under its name -/
def dOwn (i : Nat) : DQv := fun ρ => match ρ[i]? with
  | some (.ol l) => some l
  | some (.ox l) => some l
  | some (.br l) => some l
  | _ => none
def asSeq : PV → Option (List PV)
  | .list l => some l
  | .tuple l => some l
  | _ => none
def asBool : PV → Option Bool
  | .bool b => some b
  | _ => none
def asInt : PV → Option Int
  | .int b => some b
  | _ => none

section
variable {X : Cx} {e a b : Expr} {da db : DPv} {pos : Pos}
theorem dp_var {i : Nat} (h : PE X e (tVar i)) : DP X e (dVar i) := ⟨pe_weak h fun σ H Q ⟨f, A, ρ, p, R, hd, q⟩ => by
  unfold dVar at hd
  split at hd
  · rename_i p' hp
    cases hd
    obtain ⟨_, x, h2, h3⟩ := R.sl i _ hp
    exact ⟨x, h2, q x H (Ex.refl H) h3⟩
  · cases hd⟩
theorem dp_c {v : V} {p : PV} (h : PE X e (tC v)) (hp : ∀ F, Dp X.K F v p) : DP X e (dC p) := ⟨pe_weak h fun σ H Q ⟨f, A, ρ, p, R, hd, q⟩ => by
  cases hd
  exact q v H (Ex.refl H) (hp _)⟩
theorem dp_int {i j} : DP X (.Constant (.int i) j pos) (dC (.int i)) := dp_c pe_int fun _ => .int i
theorem dp_bl {i j} : DP X (.Constant (.bool i) j pos) (dC (.bool i)) := dp_c pe_bl fun _ => .bl i
theorem dp_non {j} : DP X (.Constant .none j pos) (dC .none) := dp_c pe_non fun _ => .non
theorem dp_str {x j} : DP X (.Constant (.str x) j pos) (dC (.str x)) := dp_c pe_str fun _ => .str x

/-! ### sequences -/
theorem dq_own {i : Nat} (h : PE X e (tVar i)) : DQ X e (dOwn i) := ⟨pe_weak h fun σ H Q ⟨f, A, ρ, p, R, hd, q⟩ => by
  unfold dOwn at hd
  split at hd
  · rename_i p' hp
    cases hd
    obtain ⟨a, xs, _, h2, h3, h4⟩ := R.sl i _ hp
    exact ⟨_, h2, q a xs H (Ex.refl H) (.inl (sl_of h3)) h4⟩
  · rename_i p' hp
    cases hd
    obtain ⟨a, xs, _, _, h2, h3, h4⟩ := R.sl i _ hp
    exact ⟨_, h2, q a xs H (Ex.refl H) (.inl (sl_of h3)) h4⟩
  · rename_i p' hp
    cases hd
    obtain ⟨a, xs, _, _, h2, h3, h4, h5⟩ := R.sl i _ hp
    exact ⟨_, h2, q _ xs H (Ex.refl H) (.inl (sl_of (R.ext _ _ h4))) h5⟩
  · cases hd⟩
def dS (da : DPv) : DQv := fun ρ => (da ρ).bind asSeq
theorem seq_of {K : PySem.W.Frag} {H : Hp} {O : Own} {v : V} {p : PV} {l : List PV} (h : Dp K (mask H O) v p) (hl : asSeq p = some l) : ∃ a xs, v = .ref a ∧ (SqL K H a xs ∨ SqT K H a xs) ∧ DpAll K (mask H O) xs l := by
  cases p with
  | list l' =>
    cases hl
    cases h with
    | lst h1 h2 => exact ⟨_, _, rfl, .inl (sl_ex mask_ex h1), h2⟩
  | tuple l' =>
    cases hl
    cases h with
    | tup h1 h2 => exact ⟨_, _, rfl, .inr (st_ex mask_ex h1), h2⟩
  | _ => cases hl
theorem dq_p (h : DP X e da) : DQ X e (dS da) := ⟨pe_weak h.pe fun σ H Q ⟨f, A, ρ, l, R, hd, q⟩ => by
  unfold dS at hd
  obtain ⟨p, hp, hl⟩ := Option.bind_eq_some_iff.mp hd
  refine ⟨f, A, ρ, p, R, hp, fun v H1 e1 r1 => ?_⟩
  obtain ⟨a, xs, rfl, hs, hx⟩ := seq_of r1 hl
  exact q a xs H1 e1 hs hx⟩
theorem dq_l {dl : DQv} (h : DL X e dl) : DQ X e dl := ⟨pe_weak h.pe fun σ H Q ⟨f, A, ρ, l, R, hd, q⟩ =>
  ⟨f, A, ρ, l, R, hd, fun a xs H1 _ e1 ha hx => q a xs H1 e1 (.inl (sl_of ha)) (dpa_ex (mask_less fun b hb => .inl hb) hx)⟩⟩
/-- a new list as a value -/
def dFz (dl : DQv) : DPv := fun ρ => (dl ρ).map .list
theorem fresh_dp {K : PySem.W.Frag} {H1 : Hp} {O : Own} {a : Addr} {xs : List V} {l : List PV} (ho : ¬ O a) (ha : H1 a = some (.lst xs)) (hx : DpAll K (mask H1 (fun b => O b ∨ b = a)) xs l) : Dp K (mask H1 O) (.ref a) (.list l) :=
  .lst (sl_of (mask_some.mpr ⟨ho, ha⟩)) (dpa_ex (mask_less fun b hb => .inl hb) hx)
theorem dp_l {dl : DQv} (h : DL X e dl) : DP X e (dFz dl) := ⟨pe_weak h.pe fun σ H Q ⟨f, A, ρ, p, R, hd, q⟩ => by
  unfold dFz at hd
  obtain ⟨l, hl, rfl⟩ := Option.map_eq_some_iff.mp hd
  exact ⟨f, A, ρ, l, R, hl, fun a xs H1 hn e1 ha hx => q _ H1 e1 (fresh_dp (R.fresh hn) ha hx)⟩⟩

/-! ### operators -/
def OpS (K : PySem.W.Frag) (r : R2) (g : PV → PV → Option PV) : Prop := ∀ (H : Hp) (O : Own) (x y : PV) (v w : V) (z : PV) (Q : VK), (∀ a, H a = none → ¬ O a) →
  Dp K (mask H O) v x → Dp K (mask H O) w y → g x y = some z → (∀ u H1, Ex H H1 → Dp K (mask H1 O) u z → Q u H1) → r v w H Q
def dB (g : PV → PV → Option PV) (da db : DPv) : DPv := fun ρ => (da ρ).bind fun x => (db ρ).bind fun y => g x y
def dU (g : PV → Option PV) (da : DPv) : DPv := fun ρ => (da ρ).bind g
theorem binw {K : PySem.W.Frag} {r : R2} {g : PV → PV → Option PV} (hs : OpS K r g) {σ : St} {H : Hp} {Q : VK} (h : tP K (dB g da db) σ H Q) : tOp r (tP K da) (tP K db) σ H Q := by
  obtain ⟨f, A, ρ, z, R, hd, q⟩ := h
  unfold dB at hd
  obtain ⟨x, hx, hd⟩ := Option.bind_eq_some_iff.mp hd
  obtain ⟨y, hy, hz⟩ := Option.bind_eq_some_iff.mp hd
  refine ⟨f, A, ρ, x, R, hx, fun v H1 e1 r1 => ⟨f, A, ρ, y, R.mono e1, hy, fun w H2 e2 r2 => ?_⟩⟩
  exact hs H2 (own f A) x y v w z Q (fun a ha => (R.mono (e1.trans e2)).fresh ha) (dp_ex (mask_mono e2) r1) r2 hz fun u H3 e3 r3 => q u H3 (e1.trans (e2.trans e3)) r3
theorem dp_op {op : Operator} {r : R2} {g : PV → PV → Option PV} (ho : OpR X (binaryOp op) r) (hs : OpS X.K r g) (ha : DP X a da) (hb : DP X b db) : DP X (.BinOp a op b pos) (dB g da db) :=
  ⟨pe_weak (pe_op ho ha.pe hb.pe) fun σ H Q h => binw hs h⟩
theorem dp_cmp {op : CmpOp} {r : R2} {g : PV → PV → Option PV} (ho : OpR X (compareOp op) r) (hs : OpS X.K r g) (ha : DP X a da) (hb : DP X b db) (hm : behindInMarks op b = false) : DP X (.Compare a [op] [b] pos) (dB g da db) :=
  ⟨pe_weak (pe_cmpR ho ha.pe hb.pe hm) fun σ H Q h => binw hs h⟩
def dTst (da : DPv) : DTv := fun ρ => (da ρ).bind asBool
theorem tstw {K : PySem.W.Frag} {σ : St} {H : Hp} {Q : Bool → Hp → Prop} (h : tT K (dTst da) σ H Q) : tP K da σ H fun x H' => ∃ k, x = .bl k ∧ Q k H' := by
  obtain ⟨f, A, ρ, k, R, hd, q⟩ := h
  unfold dTst at hd
  obtain ⟨p, hp, hk⟩ := Option.bind_eq_some_iff.mp hd
  refine ⟨f, A, ρ, p, R, hp, fun v H1 e1 r1 => ⟨k, ?_, q H1 e1⟩⟩
  cases p with
  | bool b => cases hk; cases r1; rfl
  | _ => cases hk
theorem dt_cmp {op : CmpOp} {r : R2} {g : PV → PV → Option PV} (ho : OpR X (compareOp op) r) (hs : OpS X.K r g) (ha : DP X a da) (hb : DP X b db) (hm : behindInMarks op b = false) : DT X (.Compare a [op] [b] pos) (dTst (dB g da db)) :=
  ⟨pt_weak (pt_cmpR ho ha.pe hb.pe hm) fun σ H Q h => by
    show tOp r (tP X.K da) (tP X.K db) σ H fun x H' => ∃ k, x = .bl k ∧ Q k H'
    exact binw hs (tstw h)⟩
theorem dp_un {op : UnaryOp} {g : PV → Option PV} {r : V → Hp → VK → Prop} (ho : UnR X (unaryOp op) r)
    (hs : ∀ (H : Hp) (O : Own) (x : PV) (v : V) (z : PV) (Q : VK), Dp X.K (mask H O) v x → g x = some z → (∀ u H1, Ex H H1 → Dp X.K (mask H1 O) u z → Q u H1) → r v H Q) (ha : DP X a da) : DP X (.UnaryOp op a pos) (dU g da) :=
  ⟨pe_weak (pe_un ho ha.pe) fun σ H Q ⟨f, A, ρ, z, R, hd, q⟩ => by
    unfold dU at hd
    obtain ⟨x, hx, hz⟩ := Option.bind_eq_some_iff.mp hd
    exact ⟨f, A, ρ, x, R, hx, fun v H1 e1 r1 => hs H1 (own f A) x v z Q r1 hz fun u H2 e2 r2 => q u H2 (e1.trans e2) r2⟩⟩
end

/-! ### the operators of ints, texts, tuples -/
theorem OpR.or {X : Cx} {g : Value → Value → Sem Value} {r r' : R2} (h : OpR X g r) (h' : OpR X g r') : OpR X g (fun x y H Q => r x y H Q ∨ r' x y H Q) := by
  intro pins s σ H x y v u Q I rx ry q
  rcases q with q | q
  · exact h pins s σ H x y v u Q I rx ry q
  · exact h' pins s σ H x y v u Q I rx ry q
def pII (g : Int → Int → PV) : PV → PV → Option PV
  | .int i, .int j => some (g i j)
  | _, _ => none
theorem ops_II {K : PySem.W.Frag} {g : Int → Int → V} {g' : Int → Int → PV} (hg : ∀ i j F, Dp K F (g i j) (g' i j)) : OpS K (rI0 g) (pII g') := by
  intro H O x y v w z Q _ rx ry hz q
  cases x with
  | int i =>
    cases y with
    | int j =>
      cases hz; cases rx; cases ry
      exact ⟨i, j, rfl, rfl, q _ H (Ex.refl H) (hg i j _)⟩
    | _ => cases hz
  | _ => cases hz
def pIIc (C : Int → Int → Prop) [∀ i j, Decidable (C i j)] (g : Int → Int → PV) : PV → PV → Option PV
  | .int i, .int j => if C i j then some (g i j) else none
  | _, _ => none
theorem ops_IIc {K : PySem.W.Frag} {C : Int → Int → Prop} [∀ i j, Decidable (C i j)] {C' : Int → Int → Prop} {g : Int → Int → V} {g' : Int → Int → PV} (hc : ∀ i j, C i j → C' i j) (hg : ∀ i j F, Dp K F (g i j) (g' i j)) : OpS K (rI C' g) (pIIc C g') := by
  intro H O x y v w z Q _ rx ry hz q
  cases x with
  | int i =>
    cases y with
    | int j =>
      replace hz : (if C i j then some (g' i j) else none) = some z := hz
      split at hz
      · rename_i hcij
        cases hz; cases rx; cases ry
        exact ⟨i, j, rfl, rfl, hc i j hcij, q _ H (Ex.refl H) (hg i j _)⟩
      · cases hz
    | _ => cases hz
  | _ => cases hz
def pAdd : PV → PV → Option PV
  | .int i, .int j => some (.int (i + j))
  | .str x, .str y => if x.length + y.length ≤ 16777216 then some (.str (x ++ y)) else none
  | .tuple x, .tuple y => if x.length + y.length ≤ 16777216 then some (.tuple (x ++ y)) else none
  | _, _ => none
abbrev rAddAll (K : PySem.W.Frag) : R2 := fun x y H Q => rI0 (fun i j => .int (i + j)) x y H Q ∨ ((∃ i j, x = .str i ∧ y = .str j ∧ i.length + j.length ≤ sizeLine ∧ Q (.str (i ++ j)) H) ∨ rCatA K x y H Q)
theorem op_addAll {X : Cx} : OpR X (binaryOp .Add) (rAddAll X.K) := OpR.or op_add (OpR.or op_add_str op_catA)
theorem ops_add {K : PySem.W.Frag} : OpS K (rAddAll K) pAdd := by
  intro H O x y v w z Q hO rx ry hz q
  cases x with
  | int i =>
    cases y with
    | int j =>
      cases hz; cases rx; cases ry
      exact .inl ⟨i, j, rfl, rfl, q _ H (Ex.refl H) (.int _)⟩
    | _ => cases hz
  | str i =>
    cases y with
    | str j =>
      replace hz : (if i.length + j.length ≤ 16777216 then some (PyData.str (i ++ j)) else none) = some z := hz
      split at hz
      · rename_i hc
        cases hz; cases rx; cases ry
        exact .inr (.inl ⟨i, j, rfl, rfl, by rw [sizeLine_eq]; exact hc, q _ H (Ex.refl H) (.str _)⟩)
      · cases hz
    | _ => cases hz
  | tuple i =>
    cases y with
    | tuple j =>
      replace hz : (if i.length + j.length ≤ 16777216 then some (PyData.tuple (i ++ j)) else none) = some z := hz
      split at hz
      · rename_i hc
        cases hz
        cases rx with
        | tup hx kx =>
          cases ry with
          | tup hy ky =>
            rename_i a xs b ys
            have lx := dpa_length kx
            have ly := dpa_length ky
            refine .inr (.inr ⟨a, b, xs, ys, rfl, rfl, st_ex mask_ex hx, st_ex mask_ex hy, by rw [sizeLine_eq]; omega, fun e => ?_, fun e e' => ?_, fun e e' p hp => ?_⟩)
            · subst e
              have : i = [] := List.length_eq_zero_iff.mp lx.symm
              subst this
              exact q _ H (Ex.refl H) (.tup hy ky)
            · subst e'
              have : j = [] := List.length_eq_zero_iff.mp ly.symm
              subst this
              rw [List.append_nil] at q
              exact q _ H (Ex.refl H) (.tup hx kx)
            · have ex : Ex H (upd H p (.tup (xs ++ ys))) := Ex.new hp
              exact q _ _ ex (.tup (st_of (mask_some.mpr ⟨hO p hp, upd_same⟩)) (dpa_append (dpa_ex (mask_mono ex) kx) (dpa_ex (mask_mono ex) ky)))
      · cases hz
    | _ => cases hz
  | _ => cases hz
section
variable {X : Cx} {a b : Expr} {da db : DPv} {pos : Pos}
theorem dp_add (ha : DP X a da) (hb : DP X b db) : DP X (.BinOp a .Add b pos) (dB pAdd da db) := dp_op op_addAll ops_add ha hb
abbrev pSub := pII fun i j => .int (i - j)
theorem dp_sub (ha : DP X a da) (hb : DP X b db) : DP X (.BinOp a .Sub b pos) (dB pSub da db) := dp_op op_sub (ops_II fun _ _ _ => .int _) ha hb
abbrev smallI (i : Int) : Prop := -18446744073709551616 < i ∧ i < 18446744073709551616
abbrev pMul := pIIc (fun i j => smallI i ∨ smallI j) fun i j => .int (i * j)
theorem dp_mul (ha : DP X a da) (hb : DP X b db) : DP X (.BinOp a .Mult b pos) (dB pMul da db) := dp_op op_mul (ops_IIc (fun i j h => by unfold CMul; exact h) fun _ _ _ => .int _) ha hb
abbrev pMod := pIIc (fun _ j => 0 < j) fun i j => .int (i % j)
theorem dp_mod (ha : DP X a da) (hb : DP X b db) : DP X (.BinOp a .Mod b pos) (dB pMod da db) := dp_op op_mod (ops_IIc (fun i j h => h) fun _ _ _ => .int _) ha hb
abbrev pFdiv := pIIc (fun _ j => 0 < j ∧ j < 1073741824) fun i j => .int (i / j)
theorem dp_fdiv (ha : DP X a da) (hb : DP X b db) : DP X (.BinOp a .FloorDiv b pos) (dB pFdiv da db) := dp_op op_fdiv (ops_IIc (fun i j h => h) fun _ _ _ => .int _) ha hb
abbrev pPow := pIIc (fun i j => 0 ≤ j ∧ j ≤ 1000000 ∧ i.natAbs < 2 ^ 64) fun i j => .int (i ^ j.toNat)
theorem dp_pow (ha : DP X a da) (hb : DP X b db) : DP X (.BinOp a .Pow b pos) (dB pPow da db) := dp_op op_pow (ops_IIc (fun i j h => h) fun _ _ _ => .int _) ha hb
def pNeg : PV → Option PV
  | .int i => some (.int (-i))
  | _ => none
theorem dp_neg (ha : DP X a da) : DP X (.UnaryOp .USub a pos) (dU pNeg da) := dp_un un_neg (fun H O x v z Q r hz q => by
  cases x with
  | int i => cases hz; cases r; exact ⟨i, rfl, q _ H (Ex.refl H) (.int _)⟩
  | _ => cases hz) ha

/-! ### comparisons -/
abbrev pLt := pII fun i j => .bool (decide (i < j))
abbrev pLe := pII fun i j => .bool (decide (i ≤ j))
abbrev pGt := pII fun i j => .bool (decide (j < i))
abbrev pGe := pII fun i j => .bool (decide (j ≤ i))
theorem dp_lt (ha : DP X a da) (hb : DP X b db) : DP X (.Compare a [.Lt] [b] pos) (dB pLt da db) := dp_cmp op_lt (ops_II fun _ _ _ => .bl _) ha hb (nomark _)
theorem dp_le (ha : DP X a da) (hb : DP X b db) : DP X (.Compare a [.LtE] [b] pos) (dB pLe da db) := dp_cmp op_le (ops_II fun _ _ _ => .bl _) ha hb (nomark _)
theorem dp_gt (ha : DP X a da) (hb : DP X b db) : DP X (.Compare a [.Gt] [b] pos) (dB pGt da db) := dp_cmp op_gt (ops_II fun _ _ _ => .bl _) ha hb (nomark _)
theorem dp_ge (ha : DP X a da) (hb : DP X b db) : DP X (.Compare a [.GtE] [b] pos) (dB pGe da db) := dp_cmp op_ge (ops_II fun _ _ _ => .bl _) ha hb (nomark _)
theorem dt_lt (ha : DP X a da) (hb : DP X b db) : DT X (.Compare a [.Lt] [b] pos) (dTst (dB pLt da db)) := dt_cmp op_lt (ops_II fun _ _ _ => .bl _) ha hb (nomark _)
theorem dt_le (ha : DP X a da) (hb : DP X b db) : DT X (.Compare a [.LtE] [b] pos) (dTst (dB pLe da db)) := dt_cmp op_le (ops_II fun _ _ _ => .bl _) ha hb (nomark _)
theorem dt_gt (ha : DP X a da) (hb : DP X b db) : DT X (.Compare a [.Gt] [b] pos) (dTst (dB pGt da db)) := dt_cmp op_gt (ops_II fun _ _ _ => .bl _) ha hb (nomark _)
theorem dt_ge (ha : DP X a da) (hb : DP X b db) : DT X (.Compare a [.GtE] [b] pos) (dTst (dB pGe da db)) := dt_cmp op_ge (ops_II fun _ _ _ => .bl _) ha hb (nomark _)
def shp (x y : PV) : Bool := SeqAt.shaped x && SeqAt.shaped y
def pEq : PV → PV → Option PV := fun x y => if shp x y = true then some (.bool (PyData.eqv x y)) else none
def pNe : PV → PV → Option PV := fun x y => if shp x y = true then some (.bool (!PyData.eqv x y)) else none
theorem ops_eq {K : PySem.W.Frag} : OpS K (rEqD K) pEq := by
  intro H O x y v w z Q _ rx ry hz q
  unfold pEq at hz
  split at hz
  · rename_i h
    cases hz
    obtain ⟨h1, h2⟩ := Bool.and_eq_true_iff.mp h
    exact ⟨x, y, dp_ex mask_ex rx, dp_ex mask_ex ry, h1, h2, q _ H (Ex.refl H) (.bl _)⟩
  · cases hz
theorem ops_ne {K : PySem.W.Frag} : OpS K (rNeD K) pNe := by
  intro H O x y v w z Q _ rx ry hz q
  unfold pNe at hz
  split at hz
  · rename_i h
    cases hz
    obtain ⟨h1, h2⟩ := Bool.and_eq_true_iff.mp h
    exact ⟨x, y, dp_ex mask_ex rx, dp_ex mask_ex ry, h1, h2, q _ H (Ex.refl H) (.bl _)⟩
  · cases hz
theorem dp_eq (hu : X.A.units + 64 < cLine) (ha : DP X a da) (hb : DP X b db) : DP X (.Compare a [.Eq] [b] pos) (dB pEq da db) := dp_cmp (op_eqD hu) ops_eq ha hb (nomark _)
theorem dp_ne (hu : X.A.units + 64 < cLine) (ha : DP X a da) (hb : DP X b db) : DP X (.Compare a [.NotEq] [b] pos) (dB pNe da db) := dp_cmp (op_neD hu) ops_ne ha hb (nomark _)
theorem dt_eq (hu : X.A.units + 64 < cLine) (ha : DP X a da) (hb : DP X b db) : DT X (.Compare a [.Eq] [b] pos) (dTst (dB pEq da db)) := dt_cmp (op_eqD hu) ops_eq ha hb (nomark _)
theorem dt_ne (hu : X.A.units + 64 < cLine) (ha : DP X a da) (hb : DP X b db) : DT X (.Compare a [.NotEq] [b] pos) (dTst (dB pNe da db)) := dt_cmp (op_neD hu) ops_ne ha hb (nomark _)
/-- is None -/
def isN : PV → Bool
  | .none => true
  | _ => false
def pIsN : PV → PV → Option PV
  | x, .none => some (.bool (isN x))
  | _, _ => none
def pNotN : PV → PV → Option PV
  | x, .none => some (.bool (!isN x))
  | _, _ => none
theorem isN_dp {K : PySem.W.Frag} {F : Hp} {v : V} {x : PV} (h : Dp K F v x) : decide (v = .non) = isN x := by
  cases h <;> rfl
theorem ops_isN {K : PySem.W.Frag} : OpS K (fun x y H Q => y = .non ∧ Q (.bl (decide (x = .non))) H) pIsN := by
  intro H O x y v w z Q _ rx ry hz q
  cases y with
  | none =>
    cases hz; cases ry
    refine ⟨rfl, ?_⟩
    rw [isN_dp rx]
    exact q _ H (Ex.refl H) (.bl _)
  | _ => cases hz
theorem ops_notN {K : PySem.W.Frag} : OpS K (fun x y H Q => y = .non ∧ Q (.bl (!decide (x = .non))) H) pNotN := by
  intro H O x y v w z Q _ rx ry hz q
  cases y with
  | none =>
    cases hz; cases ry
    refine ⟨rfl, ?_⟩
    rw [isN_dp rx]
    exact q _ H (Ex.refl H) (.bl _)
  | _ => cases hz
theorem dp_isN (ha : DP X a da) (hb : DP X b db) : DP X (.Compare a [.Is] [b] pos) (dB pIsN da db) := dp_cmp op_isN ops_isN ha hb (nomark _)
theorem dp_notN (ha : DP X a da) (hb : DP X b db) : DP X (.Compare a [.IsNot] [b] pos) (dB pNotN da db) := dp_cmp op_notN ops_notN ha hb (nomark _)
theorem dt_isN (ha : DP X a da) (hb : DP X b db) : DT X (.Compare a [.Is] [b] pos) (dTst (dB pIsN da db)) := dt_cmp op_isN ops_isN ha hb (nomark _)
theorem dt_notN (ha : DP X a da) (hb : DP X b db) : DT X (.Compare a [.IsNot] [b] pos) (dTst (dB pNotN da db)) := dt_cmp op_notN ops_notN ha hb (nomark _)
end
end Dn
end
section
set_option Elab.async false
set_option linter.all false
set_option maxRecDepth 100000
set_option maxHeartbeats 2000000
namespace Dn
open PySem L2

/-! ### is True -/
def isB (b : Bool) : V → Bool
  | .bl c => c == b
  | _ => false
section
variable {M : Model} {A : Around} {E : Value → Shared → Prop} {s : Shared} {Q : Value → Shared → Prop}
theorem is_bool_gen {v : Value} {b : Bool} (hv : ∀ n, v ≠ .builtin n) (h : Q (.bool (v == .bool b)) s) : wpAny M A (compareOp .Is v (.bool b)) Q E s := by
  cases v <;> first | exact wpAny_pure h | exact absurd rfl (hv _)
theorem isnot_bool_gen {v : Value} {b : Bool} (hv : ∀ n, v ≠ .builtin n) (h : Q (.bool (!(v == .bool b))) s) : wpAny M A (compareOp .IsNot v (.bool b)) Q E s := by
  cases v <;> first | exact wpAny_pure h | exact absurd rfl (hv _)
end
theorem rel_nb {x : V} {v : Value} (r : RelV x v) : ∀ n, v ≠ .builtin n := by
  intro n e
  subst e
  cases x <;> first | (obtain ⟨t, h⟩ := r; cases h) | cases r
theorem rel_isB {x : V} {v : Value} {b : Bool} (r : RelV x v) : (v == Value.bool b) = isB b x := by
  cases x with
  | bl c =>
    cases r
    show (Value.bool c == Value.bool b) = (c == b)
    cases c <;> cases b <;> rfl
  | non => cases r; rfl
  | int _ => obtain ⟨t, rfl⟩ := r; rfl
  | str _ => obtain ⟨t, rfl⟩ := r; rfl
  | byt _ => obtain ⟨t, rfl⟩ := r; rfl
  | flt _ => obtain ⟨t, rfl⟩ := r; rfl
  | ref _ => cases r; rfl
  | ty _ => cases r; rfl
theorem op_isB {X : Cx} : OpR X (compareOp .Is) (fun x y H Q => ∃ b, y = .bl b ∧ Q (.bl (isB b x)) H) := by
  intro pins s σ H x y v u Q I rx ry h
  obtain ⟨b, rfl, q⟩ := h
  cases ry
  exact is_bool_gen (rel_nb rx) ⟨.bl _, H, I, by rw [rel_isB rx]; rfl, q⟩
theorem op_notB {X : Cx} : OpR X (compareOp .IsNot) (fun x y H Q => ∃ b, y = .bl b ∧ Q (.bl (!isB b x)) H) := by
  intro pins s σ H x y v u Q I rx ry h
  obtain ⟨b, rfl, q⟩ := h
  cases ry
  exact isnot_bool_gen (rel_nb rx) ⟨.bl _, H, I, by rw [rel_isB rx]; rfl, q⟩
def isBp (b : Bool) : PV → Bool
  | .bool c => c == b
  | _ => false
theorem isB_dp {K : PySem.W.Frag} {F : Hp} {v : V} {x : PV} {b : Bool} (h : Dp K F v x) : isB b v = isBp b x := by
  cases h <;> rfl
def pIsB : PV → PV → Option PV
  | x, .bool b => some (.bool (isBp b x))
  | _, _ => none
def pNotB : PV → PV → Option PV
  | x, .bool b => some (.bool (!isBp b x))
  | _, _ => none
theorem ops_isB {K : PySem.W.Frag} : OpS K (fun x y H Q => ∃ b, y = .bl b ∧ Q (.bl (isB b x)) H) pIsB := by
  intro H O x y v w z Q _ rx ry hz q
  cases y with
  | bool b =>
    cases hz; cases ry
    refine ⟨b, rfl, ?_⟩
    rw [isB_dp rx]
    exact q _ H (Ex.refl H) (.bl _)
  | _ => cases hz
theorem ops_notB {K : PySem.W.Frag} : OpS K (fun x y H Q => ∃ b, y = .bl b ∧ Q (.bl (!isB b x)) H) pNotB := by
  intro H O x y v w z Q _ rx ry hz q
  cases y with
  | bool b =>
    cases hz; cases ry
    refine ⟨b, rfl, ?_⟩
    rw [isB_dp rx]
    exact q _ H (Ex.refl H) (.bl _)
  | _ => cases hz

/-! ### truth -/
def tru : PV → Option Bool
  | .none => some false
  | .bool b => some b
  | .int i => some (i != 0)
  | .list l => some (!l.isEmpty)
  | .tuple l => some (!l.isEmpty)
  | _ => none
theorem isEmpty_dpa {K : PySem.W.Frag} {F : Hp} {xs : List V} {l : List PV} (h : DpAll K F xs l) : l.isEmpty = xs.isEmpty := by
  cases h <;> rfl
theorem tru_dp {K : PySem.W.Frag} {H : Hp} {O : Own} {v : V} {p : PV} {b : Bool} (h : Dp K (mask H O) v p) (hb : tru p = some b) : TruV K v H b := by
  cases p with
  | none => cases hb; cases h; rfl
  | bool c => cases hb; cases h; rfl
  | int c => cases hb; cases h; rfl
  | str c => cases hb
  | list c =>
    cases hb
    cases h with
    | lst h1 h2 => exact .inl ⟨_, sl_ex mask_ex h1, by rw [isEmpty_dpa h2]⟩
  | tuple c =>
    cases hb
    cases h with
    | tup h1 h2 => exact .inr (.inl ⟨_, st_ex mask_ex h1, by rw [isEmpty_dpa h2]⟩)
  | dict c => cases hb

section
variable {X : Cx} {e a b c : Expr} {rest : List Expr} {da db : DPv} {pos : Pos} {ta tb : DTv} {qa : DQv}
theorem dp_isB (ha : DP X a da) (hb : DP X b db) : DP X (.Compare a [.Is] [b] pos) (dB pIsB da db) := dp_cmp op_isB ops_isB ha hb (nomark _)
theorem dp_notB (ha : DP X a da) (hb : DP X b db) : DP X (.Compare a [.IsNot] [b] pos) (dB pNotB da db) := dp_cmp op_notB ops_notB ha hb (nomark _)
theorem dt_isB (ha : DP X a da) (hb : DP X b db) : DT X (.Compare a [.Is] [b] pos) (dTst (dB pIsB da db)) := dt_cmp op_isB ops_isB ha hb (nomark _)
theorem dt_notB (ha : DP X a da) (hb : DP X b db) : DT X (.Compare a [.IsNot] [b] pos) (dTst (dB pNotB da db)) := dt_cmp op_notB ops_notB ha hb (nomark _)
def dTru (da : DPv) : DTv := fun ρ => (da ρ).bind tru
theorem dt_tru (ha : DP X a da) (he : ∀ whole, isTrue a X.env whole = (do let v ← whole; standAt a.pos; holding [v] (truthy v)) := by intro _; rfl) : DT X a (dTru da) :=
  ⟨pt_weak (pt_truth ha.pe he) fun σ H Q ⟨f, A, ρ, b, R, hd, q⟩ => by
    unfold dTru at hd
    obtain ⟨p, hp, hb⟩ := Option.bind_eq_some_iff.mp hd
    exact ⟨f, A, ρ, p, R, hp, fun v H1 e1 r1 => ⟨b, tru_dp r1 hb, q H1 e1⟩⟩⟩
def dNonE (qa : DQv) : DTv := fun ρ => (qa ρ).map fun l => !l.isEmpty
theorem dt_seq (ha : DQ X a qa) (he : ∀ whole, isTrue a X.env whole = (do let v ← whole; standAt a.pos; holding [v] (truthy v)) := by intro _; rfl) : DT X a (dNonE qa) :=
  ⟨pt_weak (pt_truth ha.pe he) fun σ H Q ⟨f, A, ρ, b, R, hd, q⟩ => by
    unfold dNonE at hd
    obtain ⟨l, hl, rfl⟩ := Option.map_eq_some_iff.mp hd
    refine ⟨f, A, ρ, l, R, hl, fun a xs H1 e1 hs hx => ⟨_, ?_, q H1 e1⟩⟩
    rcases hs with hs | hs
    · exact .inl ⟨xs, hs, by rw [isEmpty_dpa hx]⟩
    · exact .inr (.inl ⟨xs, hs, by rw [isEmpty_dpa hx]⟩)⟩
/-! ### and, or, not, if .. else -/
def dAnd (ta tb : DTv) : DTv := fun ρ => (ta ρ).bind fun x => if x = true then tb ρ else some false
def dOr (ta tb : DTv) : DTv := fun ρ => (ta ρ).bind fun x => if x = true then some true else tb ρ
def dNot (ta : DTv) : DTv := fun ρ => (ta ρ).map fun x => !x
theorem dt_w (h : DW X a ta) : DT X a ta := ⟨h.pw.pt⟩
theorem dw_and1 (ha : DT X a ta) : DW X (.BoolOp .And [a] pos) ta := ⟨pw_and1 ha.pt⟩
theorem dw_or1 (ha : DT X a ta) : DW X (.BoolOp .Or [a] pos) ta := ⟨pw_or1 ha.pt⟩
theorem dw_and (ha : DT X a ta) (hb : DW X (.BoolOp .And (b :: rest) pos) tb) : DW X (.BoolOp .And (a :: b :: rest) pos) (dAnd ta tb) :=
  ⟨pw_weak (pw_and ha.pt hb.pw) fun σ H Q ⟨f, A, ρ, k, R, hd, q⟩ => by
    unfold dAnd at hd
    obtain ⟨x, hx, hk⟩ := Option.bind_eq_some_iff.mp hd
    refine ⟨f, A, ρ, x, R, hx, fun H1 e1 => ?_⟩
    cases x with
    | true => exact ⟨f, A, ρ, k, R.mono e1, by simpa using hk, fun H2 e2 => q H2 (e1.trans e2)⟩
    | false =>
      have : false = k := by simpa using hk
      subst this
      exact q H1 e1⟩
theorem dw_or (ha : DT X a ta) (hb : DW X (.BoolOp .Or (b :: rest) pos) tb) : DW X (.BoolOp .Or (a :: b :: rest) pos) (dOr ta tb) :=
  ⟨pw_weak (pw_or ha.pt hb.pw) fun σ H Q ⟨f, A, ρ, k, R, hd, q⟩ => by
    unfold dOr at hd
    obtain ⟨x, hx, hk⟩ := Option.bind_eq_some_iff.mp hd
    refine ⟨f, A, ρ, x, R, hx, fun H1 e1 => ?_⟩
    cases x with
    | false => exact ⟨f, A, ρ, k, R.mono e1, by simpa using hk, fun H2 e2 => q H2 (e1.trans e2)⟩
    | true =>
      have : true = k := by simpa using hk
      subst this
      exact q H1 e1⟩
theorem dt_not (ha : DT X a ta) : DT X (.UnaryOp .Not a pos) (dNot ta) :=
  ⟨pt_weak (pt_not ha.pt) fun σ H Q ⟨f, A, ρ, k, R, hd, q⟩ => by
    unfold dNot at hd
    obtain ⟨x, hx, rfl⟩ := Option.map_eq_some_iff.mp hd
    exact ⟨f, A, ρ, x, R, hx, fun H1 e1 => q H1 e1⟩⟩
def dAndV (da db : DPv) : DPv := fun ρ => (da ρ).bind fun x => (asBool x).bind fun k => if k = true then db ρ else some (.bool false)
def dOrV (da db : DPv) : DPv := fun ρ => (da ρ).bind fun x => (asBool x).bind fun k => if k = true then some (.bool true) else db ρ
def dNotV (da : DPv) : DPv := fun ρ => (da ρ).bind fun x => (asBool x).map fun k => .bool (!k)
theorem as_bl {K : PySem.W.Frag} {F : Hp} {v : V} {p : PV} {k : Bool} (h : Dp K F v p) (hk : asBool p = some k) : v = .bl k := by
  cases p with
  | bool b => cases hk; cases h; rfl
  | _ => cases hk
theorem as_int {K : PySem.W.Frag} {F : Hp} {v : V} {p : PV} {k : Int} (h : Dp K F v p) (hk : asInt p = some k) : v = .int k := by
  cases p with
  | int b => cases hk; cases h; rfl
  | _ => cases hk
theorem dp_one {op} (ha : DP X a da) : DP X (.BoolOp op [a] pos) da := ⟨pe_one ha.pe⟩
theorem dp_and (ha : DP X a da) (hb : DP X (.BoolOp .And (b :: rest) pos) db) : DP X (.BoolOp .And (a :: b :: rest) pos) (dAndV da db) :=
  ⟨pe_weak (pe_and ha.pe hb.pe) fun σ H Q ⟨f, A, ρ, p, R, hd, q⟩ => by
    unfold dAndV at hd
    obtain ⟨x, hx, hd⟩ := Option.bind_eq_some_iff.mp hd
    obtain ⟨k, hk, hd⟩ := Option.bind_eq_some_iff.mp hd
    refine ⟨f, A, ρ, x, R, hx, fun v H1 e1 r1 => ⟨k, as_bl r1 hk, ?_⟩⟩
    cases k with
    | true => exact ⟨f, A, ρ, p, R.mono e1, by simpa using hd, fun u H2 e2 r2 => q u H2 (e1.trans e2) r2⟩
    | false =>
      have : PyData.bool false = p := by simpa using hd
      subst this
      exact q _ H1 e1 (.bl _)⟩
theorem dp_or (ha : DP X a da) (hb : DP X (.BoolOp .Or (b :: rest) pos) db) : DP X (.BoolOp .Or (a :: b :: rest) pos) (dOrV da db) :=
  ⟨pe_weak (pe_or ha.pe hb.pe) fun σ H Q ⟨f, A, ρ, p, R, hd, q⟩ => by
    unfold dOrV at hd
    obtain ⟨x, hx, hd⟩ := Option.bind_eq_some_iff.mp hd
    obtain ⟨k, hk, hd⟩ := Option.bind_eq_some_iff.mp hd
    refine ⟨f, A, ρ, x, R, hx, fun v H1 e1 r1 => ⟨k, as_bl r1 hk, ?_⟩⟩
    cases k with
    | false => exact ⟨f, A, ρ, p, R.mono e1, by simpa using hd, fun u H2 e2 r2 => q u H2 (e1.trans e2) r2⟩
    | true =>
      have : PyData.bool true = p := by simpa using hd
      subst this
      exact q _ H1 e1 (.bl _)⟩
theorem dp_not (ha : DP X a da) : DP X (.UnaryOp .Not a pos) (dNotV da) :=
  ⟨pe_weak (pe_not ha.pe) fun σ H Q ⟨f, A, ρ, p, R, hd, q⟩ => by
    unfold dNotV at hd
    obtain ⟨x, hx, hd⟩ := Option.bind_eq_some_iff.mp hd
    obtain ⟨k, hk, rfl⟩ := Option.map_eq_some_iff.mp hd
    exact ⟨f, A, ρ, x, R, hx, fun v H1 e1 r1 => ⟨k, as_bl r1 hk, q _ H1 e1 (.bl _)⟩⟩⟩
/-- a or b, by truth -/
def dOrT (da db : DPv) : DPv := fun ρ => (da ρ).bind fun x => (tru x).bind fun k => if k = true then some x else db ρ
theorem dp_orT (ha : DP X a da) (hb : DP X (.BoolOp .Or (b :: rest) pos) db) : DP X (.BoolOp .Or (a :: b :: rest) pos) (dOrT da db) :=
  ⟨pe_weak (pe_orT ha.pe hb.pe) fun σ H Q ⟨f, A, ρ, p, R, hd, q⟩ => by
    unfold dOrT at hd
    obtain ⟨x, hx, hd⟩ := Option.bind_eq_some_iff.mp hd
    obtain ⟨k, hk, hd⟩ := Option.bind_eq_some_iff.mp hd
    refine ⟨f, A, ρ, x, R, hx, fun v H1 e1 r1 => ⟨k, tru_dp r1 hk, ?_⟩⟩
    cases k with
    | false => exact ⟨f, A, ρ, p, R.mono e1, by simpa using hd, fun u H2 e2 r2 => q u H2 (e1.trans e2) r2⟩
    | true =>
      have : x = p := by simpa using hd
      subst this
      exact q _ H1 e1 r1⟩
def dIf (tc : DTv) (da db : DPv) : DPv := fun ρ => (tc ρ).bind fun k => if k = true then da ρ else db ρ
theorem dp_if {tc : DTv} (hc : DT X c tc) (ha : DP X a da) (hb : DP X b db) : DP X (.IfExp c a b pos) (dIf tc da db) :=
  ⟨pe_weak (pe_ifExp hc.pt ha.pe hb.pe) fun σ H Q ⟨f, A, ρ, p, R, hd, q⟩ => by
    unfold dIf at hd
    obtain ⟨k, hk, hd⟩ := Option.bind_eq_some_iff.mp hd
    refine ⟨f, A, ρ, k, R, hk, fun H1 e1 => ?_⟩
    cases k with
    | true => exact ⟨f, A, ρ, p, R.mono e1, by simpa using hd, fun u H2 e2 r2 => q u H2 (e1.trans e2) r2⟩
    | false => exact ⟨f, A, ρ, p, R.mono e1, by simpa using hd, fun u H2 e2 r2 => q u H2 (e1.trans e2) r2⟩⟩

/-! ### items, slices -/
def dIx (qa : DQv) (db : DPv) : DPv := fun ρ => (qa ρ).bind fun l => (db ρ).bind fun y => (asInt y).bind fun i => atI l i
theorem atI_dpa {K : PySem.W.Frag} {F : Hp} {xs : List V} {l : List PV} {i : Int} {p : PV} (h : DpAll K F xs l) (hp : atI l i = some p) : ∃ v, atI xs i = some v ∧ Dp K F v p := by
  unfold atI at hp ⊢
  rw [dpa_length h]
  obtain ⟨j, hj, hp⟩ := Option.bind_eq_some_iff.mp hp
  obtain ⟨v, hv, r⟩ := dpa_get h hp
  exact ⟨v, by rw [hj]; exact hv, r⟩
theorem dp_ix (ha : DQ X a qa) (hb : DP X b db) (hs : PlainIx b) : DP X (.Subscript a b pos) (dIx qa db) :=
  ⟨pe_weak (pe_ix (ix_list.or ix_tup) ha.pe hb.pe hs) fun σ H Q ⟨f, A, ρ, p, R, hd, q⟩ => by
    unfold dIx at hd
    obtain ⟨l, hl, hd⟩ := Option.bind_eq_some_iff.mp hd
    obtain ⟨y, hy, hd⟩ := Option.bind_eq_some_iff.mp hd
    obtain ⟨i, hi, hp⟩ := Option.bind_eq_some_iff.mp hd
    refine ⟨f, A, ρ, l, R, hl, fun a xs H1 e1 hs hx => ⟨f, A, ρ, y, R.mono e1, hy, fun w H2 e2 r2 => ?_⟩⟩
    cases as_int r2 hi
    obtain ⟨v, hv, r⟩ := atI_dpa (dpa_ex (mask_mono e2) hx) hp
    rcases hs with hs | hs
    · exact .inl ⟨a, xs, i, v, rfl, rfl, sl_ex e2 hs, hv, q v H2 (e1.trans e2) r⟩
    · exact .inr ⟨a, xs, i, v, rfl, rfl, st_ex e2 hs, hv, q v H2 (e1.trans e2) r⟩⟩
end
/-- a list: owned or not -/
def tQl (K : PySem.W.Frag) (d : DQv) : TE := fun σ H Q => ∃ f A ρ l, RS K f A ρ σ H ∧ d ρ = some l ∧ ∀ a xs H1, Ex H H1 → SqL K H1 a xs → DpAll K (mask H1 (own f A)) xs l → Q (.ref a) H1
structure DQl (X : Cx) (e : Expr) (d : DQv) : Prop where pe : PE X e (tQl X.K d)
def asList : PV → Option (List PV)
  | .list l => some l
  | _ => none
def asTup : PV → Option (List PV)
  | .tuple l => some l
  | _ => none
def dLs (da : DPv) : DQv := fun ρ => (da ρ).bind asList
/-- a slice's part -/
abbrev DOv := En → Option (Option Int)
def tOp' (K : PySem.W.Frag) (d : DOv) : TO := fun σ H Q => ∃ f A ρ o, RS K f A ρ σ H ∧ d ρ = some o ∧ ∀ H1, Ex H H1 → Q o H1
structure DO (X : Cx) (e : Option Expr) (d : DOv) : Prop where po : PO X e (tOp' X.K d)
theorem po_weak {X : Cx} {e : Option Expr} {t t' : TO} (h : PO X e t) (w : ∀ σ H Q, t' σ H Q → t σ H Q) : PO X e t' := ⟨fun pins s σ H Q I q => h.run pins s σ H Q I (w σ H Q q)⟩
def cutP (xs : List PV) (lo hi : Option Int) : List PV := (xs.drop (HT.sIx xs.length 0 lo)).take (HT.sIx xs.length xs.length hi - HT.sIx xs.length 0 lo)
theorem cut_dpa {K : PySem.W.Frag} {F : Hp} {xs : List V} {l : List PV} (h : DpAll K F xs l) (lo hi : Option Int) : DpAll K F (cutV xs lo hi) (cutP l lo hi) := by
  unfold cutV cutP
  rw [dpa_length h]
  exact dpa_take _ (dpa_drop _ h)
section
variable {X : Cx} {e a b c : Expr} {es : List Expr} {da db : DPv} {pos : Pos} {qa : DQv} {lo hi : Option Expr} {dl dh : DOv}
theorem dql_own {i : Nat} (h : PE X e (tVar i)) : DQl X e (dOwn i) := ⟨pe_weak h fun σ H Q ⟨f, A, ρ, p, R, hd, q⟩ => by
  unfold dOwn at hd
  split at hd
  · rename_i p' hp
    cases hd
    obtain ⟨a, xs, _, h2, h3, h4⟩ := R.sl i _ hp
    exact ⟨_, h2, q a xs H (Ex.refl H) (sl_of h3) h4⟩
  · rename_i p' hp
    cases hd
    obtain ⟨a, xs, _, _, h2, h3, h4⟩ := R.sl i _ hp
    exact ⟨_, h2, q a xs H (Ex.refl H) (sl_of h3) h4⟩
  · rename_i p' hp
    cases hd
    obtain ⟨a, xs, _, _, h2, h3, h4, h5⟩ := R.sl i _ hp
    exact ⟨_, h2, q _ xs H (Ex.refl H) (sl_of (R.ext _ _ h4)) h5⟩
  · cases hd⟩
theorem dql_p (h : DP X e da) : DQl X e (dLs da) := ⟨pe_weak h.pe fun σ H Q ⟨f, A, ρ, l, R, hd, q⟩ => by
  unfold dLs at hd
  obtain ⟨p, hp, hl⟩ := Option.bind_eq_some_iff.mp hd
  refine ⟨f, A, ρ, p, R, hp, fun v H1 e1 r1 => ?_⟩
  cases p with
  | list l' =>
    cases hl
    cases r1 with
    | lst h1 h2 => exact q _ _ H1 e1 (sl_ex mask_ex h1) h2
  | _ => cases hl⟩
theorem dql_l (h : DL X e qa) : DQl X e qa := ⟨pe_weak h.pe fun σ H Q ⟨f, A, ρ, l, R, hd, q⟩ =>
  ⟨f, A, ρ, l, R, hd, fun a xs H1 _ e1 ha hx => q a xs H1 e1 (sl_of ha) (dpa_ex (mask_less fun b hb => .inl hb) hx)⟩⟩
theorem dq_ql (h : DQl X e qa) : DQ X e qa := ⟨pe_weak h.pe fun σ H Q ⟨f, A, ρ, l, R, hd, q⟩ =>
  ⟨f, A, ρ, l, R, hd, fun a xs H1 e1 ha hx => q a xs H1 e1 (.inl ha) hx⟩⟩
def dNoPart : DOv := fun _ => some none
def dPart (da : DPv) : DOv := fun ρ => (da ρ).bind fun p => (asInt p).map some
theorem do_none : DO X none dNoPart := ⟨po_weak po_none fun σ H Q ⟨f, A, ρ, o, R, hd, q⟩ => by
  cases hd; exact q H (Ex.refl H)⟩
theorem do_some (h : DP X e da) : DO X (some e) (dPart da) := ⟨po_weak (po_some h.pe) fun σ H Q ⟨f, A, ρ, o, R, hd, q⟩ => by
  unfold dPart at hd
  obtain ⟨p, hp, hd⟩ := Option.bind_eq_some_iff.mp hd
  obtain ⟨i, hi, rfl⟩ := Option.map_eq_some_iff.mp hd
  exact ⟨f, A, ρ, p, R, hp, fun v H1 e1 r1 => ⟨i, as_int r1 hi, q H1 e1⟩⟩⟩
def dSlice (qa : DQv) (dl dh : DOv) : DQv := fun ρ => (qa ρ).bind fun l => (dl ρ).bind fun x => (dh ρ).map fun y => cutP l x y
theorem dl_slice {p2 : Pos} (ha : DQl X a qa) (hl : DO X lo dl) (hh : DO X hi dh) : DL X (.Subscript a (.Slice lo hi none p2) pos) (dSlice qa dl dh) :=
  ⟨pe_weak (pe_slice sl_list ha.pe hl.po hh.po) fun σ H Q ⟨f, A, ρ, z, R, hd, q⟩ => by
    unfold dSlice at hd
    obtain ⟨l, hl, hd⟩ := Option.bind_eq_some_iff.mp hd
    obtain ⟨x, hx, hd⟩ := Option.bind_eq_some_iff.mp hd
    obtain ⟨y, hy, rfl⟩ := Option.map_eq_some_iff.mp hd
    refine ⟨f, A, ρ, l, R, hl, fun a xs H1 e1 hs hxs => ⟨f, A, ρ, x, R.mono e1, hx, fun H2 e2 => ⟨f, A, ρ, y, R.mono (e1.trans e2), hy, fun H3 e3 => ?_⟩⟩⟩
    refine ⟨a, xs, rfl, sl_ex (e2.trans e3) hs, fun p hp => ?_⟩
    have e4 : Ex H3 (upd H3 p (.lst (cutV xs x y))) := Ex.new hp
    have eall : Ex H H3 := e1.trans (e2.trans e3)
    refine q p _ _ (eall.back hp) (eall.trans e4) upd_same (dpa_ex (mask_to fun b o h1 h2 => ⟨?_, (e2.trans (e3.trans e4)) b o h2⟩) (cut_dpa hxs x y))
    rintro (w | w)
    · exact h1 w
    · subst w; rw [(e2.trans e3).back hp] at h2; cases h2⟩
def dRev (qa : DQv) : DQv := fun ρ => (qa ρ).map List.reverse
theorem dl_rev {k : Nat} {p1 p2 p3 : Pos} (ha : DQl X a qa) : DL X (.Subscript a (.Slice none none (some (.UnaryOp .USub (.Constant (.int 1) k p1) p2)) p3) pos) (dRev qa) :=
  ⟨pe_weak (pe_revL ha.pe) fun σ H Q ⟨f, A, ρ, z, R, hd, q⟩ => by
    unfold dRev at hd
    obtain ⟨l, hl, rfl⟩ := Option.map_eq_some_iff.mp hd
    refine ⟨f, A, ρ, l, R, hl, fun a xs H1 e1 hs hxs => ⟨a, xs, rfl, hs, fun p hp => ?_⟩⟩
    have e4 : Ex H1 (upd H1 p (.lst xs.reverse)) := Ex.new hp
    refine q p _ _ (e1.back hp) (e1.trans e4) upd_same (dpa_ex (mask_to fun b o h1 h2 => ⟨?_, e4 b o h2⟩) (dpa_reverse hxs))
    rintro (w | w)
    · exact h1 w
    · subst w; rw [hp] at h2; cases h2⟩
def dSliceT (da : DPv) (dl dh : DOv) : DPv := fun ρ => ((da ρ).bind asTup).bind fun l => (dl ρ).bind fun x => (dh ρ).map fun y => .tuple (cutP l x y)
theorem cutP_all {l : List PV} {lo hi : Option Int} (h : HT.sIx l.length 0 lo = 0 ∧ HT.sIx l.length l.length hi = l.length) : cutP l lo hi = l := by
  unfold cutP
  rw [h.1, h.2, List.drop_zero, Nat.sub_zero, List.take_length]
theorem dp_sliceT {p2 : Pos} (ha : DP X a da) (hl : DO X lo dl) (hh : DO X hi dh) : DP X (.Subscript a (.Slice lo hi none p2) pos) (dSliceT da dl dh) :=
  ⟨pe_weak (pe_slice sl_tupA ha.pe hl.po hh.po) fun σ H Q ⟨f, A, ρ, z, R, hd, q⟩ => by
    unfold dSliceT at hd
    obtain ⟨l, hl, hd⟩ := Option.bind_eq_some_iff.mp hd
    obtain ⟨p, hp, hl⟩ := Option.bind_eq_some_iff.mp hl
    obtain ⟨x, hx, hd⟩ := Option.bind_eq_some_iff.mp hd
    obtain ⟨y, hy, rfl⟩ := Option.map_eq_some_iff.mp hd
    refine ⟨f, A, ρ, p, R, hp, fun v H1 e1 r1 => ⟨f, A, ρ, x, R.mono e1, hx, fun H2 e2 => ⟨f, A, ρ, y, R.mono (e1.trans e2), hy, fun H3 e3 => ?_⟩⟩⟩
    have eall : Ex H H3 := e1.trans (e2.trans e3)
    cases p with
    | tuple l' =>
      cases hl
      cases dp_ex (mask_mono (e2.trans e3)) r1 with
      | tup h1 h2 =>
        rename_i a xs
        refine ⟨a, xs, rfl, st_ex mask_ex h1, fun w => ?_, fun _ p hp => ?_⟩
        · rw [dpa_length h2] at w
          rw [cutP_all w] at q
          exact q _ H3 eall (.tup h1 h2)
        · have e4 : Ex H3 (upd H3 p (.tup (cutV xs x y))) := Ex.new hp
          exact q _ _ (eall.trans e4) (.tup (st_of (mask_some.mpr ⟨(R.mono eall).fresh hp, upd_same⟩)) (dpa_ex (mask_mono e4) (cut_dpa h2 x y)))
    | _ => cases hl⟩

/-! ### argument lists, displays -/
def dNil : DQv := fun _ => some []
def dCons (da : DPv) (dr : DQv) : DQv := fun ρ => (da ρ).bind fun x => (dr ρ).map fun r => x :: r
theorem da_nil : DA X [] dNil := ⟨pa_weak pa_nil fun σ H Q ⟨f, A, ρ, l, R, hd, q⟩ => by
  cases hd; exact q [] H (Ex.refl H) .nil⟩
theorem da_cons {dr : DQv} (ha : DP X e da) (hr : DA X es dr) (hs : starEach (e :: es) X.env = (false, eval e X.env) :: starEach es X.env := by rfl) : DA X (e :: es) (dCons da dr) :=
  ⟨pa_weak (pa_cons ha.pe hr.pa hs) fun σ H Q ⟨f, A, ρ, l, R, hd, q⟩ => by
    unfold dCons at hd
    obtain ⟨x, hx, hd⟩ := Option.bind_eq_some_iff.mp hd
    obtain ⟨r, hr, rfl⟩ := Option.map_eq_some_iff.mp hd
    exact ⟨f, A, ρ, x, R, hx, fun v H1 e1 r1 => ⟨f, A, ρ, r, R.mono e1, hr, fun vs H2 e2 r2 => q _ H2 (e1.trans e2) (.cons (dp_ex (mask_mono e2) r1) r2)⟩⟩⟩
def lim (l : List PV) : Option (List PV) := if l.length ≤ 16777216 then some l else none
def dTup (dr : DQv) : DPv := fun ρ => ((dr ρ).bind lim).map .tuple
theorem lim_some {l l' : List PV} (h : lim l = some l') : l' = l ∧ l.length ≤ 16777216 := by
  unfold lim at h
  split at h
  · rename_i h'; cases h; exact ⟨rfl, h'⟩
  · cases h
theorem dp_tup {x1} {dr : DQv} (hr : DA X es dr) : DP X (.Tuple es x1 pos) (dTup dr) :=
  ⟨pe_weak (pe_tup hr.pa) fun σ H Q ⟨f, A, ρ, p, R, hd, q⟩ => by
    unfold dTup at hd
    obtain ⟨l, hl, rfl⟩ := Option.map_eq_some_iff.mp hd
    obtain ⟨l', hl', hl⟩ := Option.bind_eq_some_iff.mp hl
    obtain ⟨rfl, hz⟩ := lim_some hl
    refine ⟨f, A, ρ, l, R, hl', fun vs H1 e1 r1 => ⟨by rw [sizeLine_eq, dpa_length r1]; exact hz, fun p hp => ?_⟩⟩
    have e2 : Ex H1 (upd H1 p (.tup vs)) := Ex.new hp
    exact q _ _ (e1.trans e2) (.tup (st_of (mask_some.mpr ⟨(R.mono e1).fresh hp, upd_same⟩)) (dpa_ex (mask_mono e2) r1))⟩
/-- a new list stands apart from what was -/
theorem apart {K : PySem.W.Frag} {H1 : Hp} {O : Own} {p : Addr} {xs ys : List V} {l : List PV} (hp : H1 p = none) (h : DpAll K (mask H1 O) xs l) : DpAll K (mask (upd H1 p (.lst ys)) (fun b => O b ∨ b = p)) xs l :=
  dpa_ex (mask_to fun b o h1 h2 => ⟨fun w => (by
    rcases w with w | w
    · exact h1 w
    · subst w; rw [hp] at h2; cases h2), (Ex.new hp) b o h2⟩) h
def dLst (dr : DQv) : DQv := fun ρ => (dr ρ).bind lim
theorem dl_lst {dr : DQv} (hr : DA X es dr) : DL X (.List es pos) (dLst dr) :=
  ⟨pe_weak (pe_lst hr.pa) fun σ H Q ⟨f, A, ρ, p, R, hd, q⟩ => by
    unfold dLst at hd
    obtain ⟨l', hl', hl⟩ := Option.bind_eq_some_iff.mp hd
    obtain ⟨rfl, hz⟩ := lim_some hl
    refine ⟨f, A, ρ, p, R, hl', fun vs H1 e1 r1 => ⟨by rw [sizeLine_eq, dpa_length r1]; exact hz, fun a ha => ?_⟩⟩
    exact q a _ _ (e1.back ha) (e1.trans (Ex.new ha)) upd_same (apart ha r1)⟩
end
end Dn
end
section
set_option Elab.async false
set_option linter.all false
set_option maxRecDepth 100000
set_option maxHeartbeats 2000000
/-! enumerate and zip over lists and tuples alike -/
namespace Dn
open PySem L2 PySem.Spec PyProof.Rows

/-- true: a tuple; false: a list -/
def SqK (K : PySem.W.Frag) (b : Bool) (H : Hp) (a : Addr) (xs : List V) : Prop := match b with
  | true => SqT K H a xs
  | false => SqL K H a xs
def AtK (b : Bool) (h : Heap) (a : Addr) (its : Array Value) : Prop := match b with
  | true => h.IsTuple a its
  | false => h.IsList a its
def ItK (b : Bool) (h : Heap) (it a : Addr) (i : Nat) : Prop := match b with
  | true => h.IsTupleIter it a i
  | false => h.IsListIter it a i
theorem ItK.ob {b : Bool} {h : Heap} {it a : Addr} {i : Nat} (x : ItK b h it a i) : ∃ o, h.get? it = some o ∧ ∀ v, o.data ≠ .cell v := by
  cases b with
  | true => obtain ⟨o, ho, _, hd⟩ := x; exact ⟨o, ho, fun v q => by rw [hd] at q; cases q⟩
  | false => obtain ⟨o, ho, _, hd⟩ := x; exact ⟨o, ho, fun v q => by rw [hd] at q; cases q⟩
theorem ItK.at {b : Bool} {h h' : Heap} {it a : Addr} {i : Nat} (x : ItK b h it a i) (k : ∀ o, h.get? it = some o → h'.get? it = some o) : ItK b h' it a i := by
  cases b with
  | true => exact Heap.IsTupleIter.at x k
  | false => exact Heap.IsListIter.at x k
theorem sqk_at {X : Cx} {pins : List (Addr × Obj)} {σ : L2.St} {H : Hp} {s : Shared} {b : Bool} {a : Addr} {xs : List V} (I : Inv X pins σ H s) (h : SqK X.K b H a xs) : ∃ its : List Value, Vals xs its ∧ AtK b s.heap a its.toArray := by
  cases b with
  | true => obtain ⟨its, r, p, _⟩ := I.tuple h; exact ⟨its, r, p⟩
  | false => obtain ⟨its, r, p, _⟩ := I.list h; exact ⟨its, r, p.isList⟩
theorem sqk_inj {X : Cx} {pins : List (Addr × Obj)} {σ : L2.St} {H : Hp} {s : Shared} {b : Bool} {a : Addr} {xs ys : List V} (I : Inv X pins σ H s) (h : SqK X.K b H a xs) (h' : SqK X.K b H a ys) : xs = ys := by
  cases b with
  | true => exact I.tuple_inj h h'
  | false => exact I.list_inj h h'
theorem sqk_ne {X : Cx} {pins : List (Addr × Obj)} {σ : L2.St} {H : Hp} {s : Shared} {b : Bool} {a e : Addr} {xs : List V} (I : Inv X pins σ H s) (h : SqK X.K b H a xs) (f : FpOk X pins H e) : a ≠ e := by
  intro q
  subst q
  have kcase : ∀ o, X.K.lookup a = some o → False := fun o hk => by
    have hb : X.base.get? a = some o := I.ok.mod.kin a o hk
    rcases f.2.2.2.1 with z | z
    · exact I.ok.noex a o hb z
    · exact absurd (Nat.lt_of_lt_of_le (Heap.lt_size (I.ok.bs a o hb).1) z) (Nat.lt_irrefl _)
  have hcase : ∀ u, Rd H a u → False := fun u r => by
    rcases r with r | ⟨o, r⟩
    · rw [f.1] at r; cases r
    · rw [f.1] at r; cases r
  cases b with
  | true =>
    rcases h with h | ⟨o, _, _, hk, _⟩
    · exact hcase _ h
    · exact kcase o hk
  | false =>
    rcases h with h | ⟨o, _, _, hk, _⟩
    · exact hcase _ h
    · exact kcase o hk
theorem drawsK {prog : Program} {w : World} {A : Around} (hh : A.handled = none) (b : Bool) (it t : Addr) (hne : t ≠ it) (items : Array Value) :
    Draws prog w A it [it, t] items.size (fun i v => items[i]? = some v) (fun i h => ItK b h it t i ∧ AtK b h t items) := by
  cases b with
  | true => exact Draws.tuple hh it t hne items
  | false => exact Draws.list hh it t hne items
def newIt (b : Bool) (a : Addr) : Obj := match b with
  | true => { cls := .type "tuple_iterator", data := .fields #[.ref a, .int 0 0] }
  | false => { cls := .type "list_iterator", data := .fields #[.ref a, .int 0 0] }
theorem beginsK (b : Bool) (a : Addr) (items : Array Value) : Begins (.ref a) (newIt b a) fun h => AtK b h a items := by
  cases b with
  | true => exact begins_tuple a items
  | false => exact begins_list a items
theorem newIt_at {b : Bool} {a it : Addr} {h : Heap} (e : h.get? it = some (newIt b a)) : ItK b h it a 0 := by
  cases b with
  | true => exact ⟨_, e, rfl, rfl⟩
  | false => exact ⟨_, e, rfl, rfl⟩

/-! ### enumerate -/
theorem meets_enum1B {v : Value} {o : Obj} {H : Heap → Prop} (B : Begins v o H) :
    Meets (Builtin.«enumerate.__new__» ⟨[.type "enumerate", v], []⟩) (fun _ R s => H s.heap ∧
      R (.ok (.ret (.ref (s.heap.push o).objs.size))) { s with heap := (s.heap.push o).push { cls := .type "enumerate", data := .fields #[.none, .bool false, .ref s.heap.objs.size, rawInt 0, .none, .none] } }) :=
  .of_wp fun prog w A R s h => by
    obtain ⟨hp, g, d, tk, os⟩ := s; obtain ⟨h1, h⟩ := h
    have hsub := sub_enumerate
    have q1 : ∀ {A' : Around} {E : Value → Shared → Prop} {Q : Value → Shared → Prop}, Q (.ref hp.objs.size) ⟨hp.push o, g, d, tk, os⟩ → wpAny (model prog w) A' (pyIter v) Q E ⟨hp, g, d, tk, os⟩ :=
      fun q => B.iter prog w _ _ ⟨hp, g, d, tk, os⟩ _ h1 q
    wp_walk using q1
    refine wpAny_stack_any fun st => wpAny_pure ?_
    split
    · rename_i c _ _ _ _ _
      cases (c == Value.type "enumerate")
      · wp_walk using q1
        exact ⟨_, rfl, h⟩
      · wp_walk using q1
        exact ⟨_, rfl, h⟩
    · wp_walk using q1
      exact ⟨_, rfl, h⟩
section
variable {prog : Program} {w : World} {A : Around} {E : Value → Shared → Prop} {s : Shared}
theorem enum_begins1 {v : Value} {o : Obj} {H : Heap → Prop} {Q : Value → Shared → Prop} (B : Begins v o H) (h1 : H s.heap)
    (h : ∀ h', IsEnum h' (s.heap.objs.size + 1) s.heap.objs.size 0 .none → h'.get? s.heap.objs.size = some o → h'.objs.size = s.heap.objs.size + 2 →
      (∀ b o, s.heap.get? b = some o → h'.get? b = some o) → Q (.ref (s.heap.objs.size + 1)) { s with heap := h' }) :
    wpAny (model prog w) A (call (.type "enumerate") [v]) Q E s := by
  refine callType_new F.called_enumerate (by decide) (F.typeCall_enumerate_1 _) (F.newCall_enumerate_1 _) (fun obj => F.args_object_init_2 obj _) F.entry_enumerate_new
    (meets_enum1B B) ⟨h1, ?_⟩
  have hz : (s.heap.push o).objs.size = s.heap.objs.size + 1 := Heap.size_push ..
  show _ ∧ _
  rw [hz]
  have he : IsEnum ((s.heap.push o).push { cls := .type "enumerate", data := .fields #[.none, .bool false, .ref s.heap.objs.size, rawInt 0, .none, .none] }) (s.heap.objs.size + 1) s.heap.objs.size 0 .none := by
    have := Heap.get?_push_size (s.heap.push o) (o := { cls := .type "enumerate", data := .fields #[.none, .bool false, .ref s.heap.objs.size, rawInt 0, .none, .none] }) rfl
    rw [hz] at this; exact this
  refine ⟨⟨_, he, rfl⟩, h _ he (Heap.get?_push_of_some _ (Heap.get?_push_size _ B.free)) (by rw [Heap.size_push, hz]) fun b o x => Heap.get?_push_of_some _ (Heap.get?_push_of_some _ x)⟩
end
def IteK (K : PySem.W.Frag) (b : Bool) (a : Addr) : It :=
  ⟨fun i H => ∃ (xs : List V) (x : V), SqK K b H a xs ∧ xs[i]? = some x, fun i H v H' => ∃ T x, v = .ref T ∧ H T = none ∧ H' = upd H T (.tup [.int (i : Nat), x]) ∧ ∀ xs, SqK K b H a xs → xs[i]? = some x, fun i H => ∃ xs : List V, SqK K b H a xs ∧ xs.length = i⟩
theorem turn_enumK {P : Program} {w : World} {K : PySem.W.Frag} {elts : List Expr} {kk : Nat} {tpos : Pos} (b : Bool) (a e it : Addr) :
    Turn P w K (.Tuple elts kk tpos) (IteK K b a) [e, it] e (fun i h => (∃ old, IsEnum h e it ((i : Nat) : Int) old) ∧ ItK b h it a i ∧ e ≠ it) where
  mem := by simp
  obj := fun i h st c hc => by
    obtain ⟨⟨old, he⟩, hi, _⟩ := st
    have e' : c = e ∨ c = it := by simpa using hc
    rcases e' with z | z
    · rw [z]; exact ⟨_, he, fun v q => nomatch q⟩
    · rw [z]; exact hi.ob
  keep := fun i h h' st k => let ⟨⟨old, he⟩, hi, hne⟩ := st; ⟨⟨old, k e (by simp) _ he⟩, hi.at fun o q => k it (by simp) o q, hne⟩
  item := by
    intro X hP hw hK hc i pins s σ H E I hf st hg
    subst hP hw hK
    obtain ⟨⟨old, he⟩, hit, hne⟩ := st
    obtain ⟨xs, x, hq, hx⟩ := hg
    obtain ⟨its, rv, p⟩ := sqk_at I hq
    obtain ⟨u, hu, ru⟩ := rv.get hx
    have ae : a ≠ e := sqk_ne I hq (hf e (by simp))
    have ai : a ≠ it := sqk_ne I hq (hf it (by simp))
    have hel : e < s.heap.objs.size := Heap.lt_size he
    have hil : it < s.heap.objs.size := by obtain ⟨_, q, _⟩ := hit.ob; exact Heap.lt_size q
    have hlt : i < its.toArray.size := by
      have := (List.getElem?_eq_some_iff.mp hu).1
      simpa using this
    have hef : e ∉ [it, a] := by
      intro z
      rcases (by simpa using z : e = it ∨ e = a) with z | z
      · exact hne z
      · exact ae z.symm
    refine wpAny_pyNext_enum_itemD (drawsK (prog := X.prog) (w := X.w) (A := X.A.in1) (I.ok.hd hc) b it a ai its.toArray) he ⟨hit, p⟩ hlt hne hef fun y h' tk hy ho hst' hT hsz hk => ?_
    have ey : y = u := by
      have hu' : its.toArray[i]? = some u := by simpa using hu
      have := hy.symm.trans hu'
      exact Option.some.inj this
    subst ey
    obtain ⟨hit', p'⟩ := hst'
    refine ⟨_, rfl, wpAny_letOwnedTupleGo_enum (s := { s with heap := h', toks := tk + 1 }) ho fun h'' he' sb => ?_⟩
    have hT2 : h''.get? s.heap.objs.size = some { cls := .type "tuple", data := .seq #[.int i tk, y] } := (sb.2 _ (Nat.ne_of_gt hel)).trans hT
    have new : ObjOk X.prog X.w (upd H s.heap.objs.size (.tup [.int (i : Nat), x])) h'' s.heap.objs.size (.tup [.int (i : Nat), x]) :=
      ⟨by show 2 ≤ sizeLine; decide, [.int i tk, y], .cons ⟨_, rfl⟩ (.cons ru .nil), ⟨_, hT2, rfl, _, rfl⟩⟩
    have I1 : Inv X pins σ (upd H s.heap.objs.size (.tup [.int (i : Nat), x])) { s with heap := h'', toks := tk + 1 } :=
      I.turnedNew (ch := [e, it]) (fun c ob hb q => (sb.2 c (fun z => hb (by simp [z]))).trans (hk c ob (fun z => hb (by simp [z])) (fun z => hb (by simp [z])) q)) hf (Nat.le_refl _) new
    refine ⟨.ref s.heap.objs.size, _, I1, rfl, ⟨_, x, rfl, I.hok.fresh (Nat.le_refl _), rfl, fun ys hy => by rw [sqk_inj I hy hq]; exact hx⟩, ⟨⟨y, ?_⟩, hit'.at fun o q => (sb.2 it (Ne.symm hne)).trans q, hne⟩, fun c hcm => ?_⟩
    · have e1 : ((i + 1 : Nat) : Int) = (i : Int) + 1 := by omega
      rw [e1]; exact he'
    · have hb' : c < s.heap.objs.size := by
        have e' : c = e ∨ c = it := by simpa using hcm
        rcases e' with z | z
        · rw [z]; exact hel
        · rw [z]; exact hil
      rw [upd_ne (Nat.ne_of_lt hb')]
      exact (hf c hcm).1
  done := by
    intro X hP hw hK hc i pins s σ H E I hf st hg
    subst hP hw hK
    obtain ⟨⟨old, he⟩, hit, hne⟩ := st
    obtain ⟨xs, hq, hx⟩ := hg
    obtain ⟨its, rv, p⟩ := sqk_at I hq
    have ai : a ≠ it := sqk_ne I hq (hf it (by simp))
    obtain ⟨f0, f1, f2, f3, f4, f5⟩ := hf it (by simp)
    have hl := rv.length
    have ei : i = its.toArray.size := by simp; omega
    refine wpAny_pyNext_enum_endD (drawsK (prog := X.prog) (w := X.w) (A := X.A.in1) (I.ok.hd hc) b it a ai its.toArray) he ⟨ei ▸ hit, p⟩ fun h' eb => ⟨rfl, I.turned (t' := s.toks) (fun b o hb q => eb b o hb q) f0 f1 f3 f4 f5⟩
  self := fun A i s Q E st h => let ⟨⟨_, he⟩, _⟩ := st; wpAny_pyIter_enum he h
def iEnumK (K : PySem.W.Frag) (te : TE) : TI := fun σ H R => te σ H fun v H1 => ∃ b a xs, v = .ref a ∧ SqK K b H1 a xs ∧ R (IteK K b a) H1
theorem pi_enumK {X : Cx} {e : Expr} {te : TE} {p pos tpos : Pos} {elts : List Expr} {kk : Nat} (hg : Gl X "enumerate") (hm : X.mg "enumerate" = none) (he : PE X e te) (hs : starEach [e] X.env = [(false, eval e X.env)] := by rfl) :
    PI X (.Tuple elts kk tpos) (.Call (.Name "enumerate" p) [e] [] pos) (iEnumK X.K te) := by
  have ha : PA X [e] (tCons te tNil) := pa_cons he pa_nil hs
  refine ⟨fun pins s σ H R I h => ?_⟩
  refine Call_ (ld_blt I hg hm boot_enumerate (PyProof.Rows.callWith_type1 (thn (ha.run pos pins s σ H (fun vs H1 => ∃ v, vs = [v] ∧ ∃ b a xs, v = .ref a ∧ SqK X.K b H1 a xs ∧ R (IteK X.K b a) H1) I (by
    have mono : ∀ σ H, te σ H (fun v H1 => ∃ b a xs, v = .ref a ∧ SqK X.K b H1 a xs ∧ R (IteK X.K b a) H1) → True := fun _ _ _ => trivial
    show te σ H fun x H1 => ∃ v, [x] = [v] ∧ ∃ b a xs, v = .ref a ∧ SqK X.K b H1 a xs ∧ R (IteK X.K b a) H1
    have e : (fun (x : V) (H1 : Hp) => ∃ v, [x] = [v] ∧ ∃ b a xs, v = .ref a ∧ SqK X.K b H1 a xs ∧ R (IteK X.K b a) H1) = fun v H1 => ∃ b a xs, v = .ref a ∧ SqK X.K b H1 a xs ∧ R (IteK X.K b a) H1 := by
      funext x H1
      apply propext
      constructor
      · rintro ⟨v, e, h⟩
        cases e
        exact h
      · intro h
        exact ⟨x, rfl, h⟩
    rw [e]
    exact h)) fun us s1 ⟨vs, H1, I1, r1, q1⟩ => ?_) hs rfl))
  obtain ⟨v, ex, b, a, xs, ev, hq, q⟩ := q1
  subst ex ev
  cases r1 with
  | cons r rr =>
    cases rr
    cases r
    obtain ⟨its, rv, p'⟩ := sqk_at I1 hq
    refine enum_begins1 (beginsK b a its.toArray) p' fun h' he hit hsz hk => wpAny_pyIter_enum he ?_
    have I2 : Inv X pins σ H1 { s1 with heap := h' } := I1.kept (t' := s1.toks) hk
    refine ⟨s1.heap.objs.size + 1, [s1.heap.objs.size + 1, s1.heap.objs.size], _, _, H1, rfl, I2, turn_enumK b a (s1.heap.objs.size + 1) s1.heap.objs.size, ⟨⟨.none, he⟩, newIt_at hit, Nat.succ_ne_self _⟩, fun c hcm => ?_, q⟩
    have e' : c = s1.heap.objs.size + 1 ∨ c = s1.heap.objs.size := by simpa using hcm
    have hle : s1.heap.objs.size ≤ c := by
      rcases e' with z | z
      · rw [z]; exact Nat.le_add_right _ _
      · rw [z]; exact Nat.le_refl _
    exact I1.fpOk hle (I1.hok.fresh hle)

/-! ### zip -/
def ItzK (K : PySem.W.Frag) (b1 b2 : Bool) (a c : Addr) : It :=
  ⟨fun i H => ∃ (xs ys : List V) (x y : V), SqK K b1 H a xs ∧ SqK K b2 H c ys ∧ xs[i]? = some x ∧ ys[i]? = some y,
    fun i H v H' => ∃ T x y, v = .ref T ∧ H T = none ∧ H' = upd H T (.tup [x, y]) ∧ (∀ xs, SqK K b1 H a xs → xs[i]? = some x) ∧ ∀ ys, SqK K b2 H c ys → ys[i]? = some y,
    fun i H => ∃ xs ys : List V, SqK K b1 H a xs ∧ SqK K b2 H c ys ∧ i ≤ xs.length ∧ i ≤ ys.length ∧ (i = xs.length ∨ i = ys.length)⟩
theorem turn_zipK {P : Program} {w : World} {K : PySem.W.Frag} {elts : List Expr} {kk : Nat} {tpos : Pos} {b1 b2 : Bool} {a c z TI TO i1 i2 : Addr} (D : ZipSep2 z TI TO i1 i2 [i1, a] [i2, c]) :
    Turn P w K (.Tuple elts kk tpos) (ItzK K b1 b2 a c) [z, TI, TO, i1, i2] z (fun i h => IsZip h z TI TO .none ∧ IsTupOf2 h TI (.ref i1) (.ref i2) ∧ (∃ x y, IsTupOf2 h TO x y) ∧ ItK b1 h i1 a i ∧ ItK b2 h i2 c i) where
  mem := by simp
  obj := fun i h st e hc => by
    obtain ⟨hz, hTI, ⟨x, y, hTO⟩, h1, h2⟩ := st
    have e' : e = z ∨ e = TI ∨ e = TO ∨ e = i1 ∨ e = i2 := by simpa using hc
    rcases e' with q | q | q | q | q
    · rw [q]; exact ⟨_, hz, fun v q => nomatch q⟩
    · rw [q]; exact ⟨_, hTI, fun v q => nomatch q⟩
    · rw [q]; exact ⟨_, hTO, fun v q => nomatch q⟩
    · rw [q]; exact h1.ob
    · rw [q]; exact h2.ob
  keep := fun i h h' st k => by
    obtain ⟨hz, hTI, ⟨x, y, hTO⟩, h1, h2⟩ := st
    exact ⟨k z (by simp) _ hz, k TI (by simp) _ hTI, ⟨x, y, k TO (by simp) _ hTO⟩, h1.at fun o q => k i1 (by simp) o q, h2.at fun o q => k i2 (by simp) o q⟩
  item := by
    intro X hP hw hK hc i pins s σ H E I hf st hg
    subst hP hw hK
    obtain ⟨hz, hTI, ⟨x0, y0, hTO⟩, h1, h2⟩ := st
    obtain ⟨xs, ys, x, y, hqx, hqy, hx, hy⟩ := hg
    obtain ⟨its, rv, p⟩ := sqk_at I hqx
    obtain ⟨its2, rv2, p2⟩ := sqk_at I hqy
    obtain ⟨u, hu, ru⟩ := rv.get hx
    obtain ⟨u2, hu2, ru2⟩ := rv2.get hy
    have a1 : a ≠ i1 := sqk_ne I hqx (hf i1 (by simp))
    have c2 : c ≠ i2 := sqk_ne I hqy (hf i2 (by simp))
    have hzl : z < s.heap.objs.size := Heap.lt_size hz
    have hl1 : i < its.toArray.size := by have := (List.getElem?_eq_some_iff.mp hu).1; simpa using this
    have hl2 : i < its2.toArray.size := by have := (List.getElem?_eq_some_iff.mp hu2).1; simpa using this
    refine wpAny_pyNext_zipD2_item D (drawsK (prog := X.prog) (w := X.w) (A := X.A.in1) (I.ok.hd hc) b1 i1 a a1 its.toArray) (drawsK (prog := X.prog) (w := X.w) (A := X.A.in1) (I.ok.hd hc) b2 i2 c c2 its2.toArray) hz hTI hTO ⟨h1, p⟩ ⟨h2, p2⟩ hl1 hl2 fun v1 v2 h' tk e1 e2 z' TO' st1 st2 hT hsz hk => ?_
    have ev1 : v1 = u := Option.some.inj (e1.symm.trans (by simpa using hu))
    have ev2 : v2 = u2 := Option.some.inj (e2.symm.trans (by simpa using hu2))
    subst ev1 ev2
    obtain ⟨h1', _⟩ := st1
    obtain ⟨h2', _⟩ := st2
    refine ⟨_, rfl, wpAny_letOwnedTupleGo_zip (s := { s with heap := h', toks := tk }) z' fun h'' z'' sb => ?_⟩
    have hT2 : h''.get? s.heap.objs.size = some { cls := .type "tuple", data := .seq #[v1, v2] } := (sb.2 _ (Nat.ne_of_gt hzl)).trans hT
    have new : ObjOk X.prog X.w (upd H s.heap.objs.size (.tup [x, y])) h'' s.heap.objs.size (.tup [x, y]) :=
      ⟨by show 2 ≤ sizeLine; decide, [v1, v2], .cons ru (.cons ru2 .nil), ⟨_, hT2, rfl, _, rfl⟩⟩
    have I1 : Inv X pins σ (upd H s.heap.objs.size (.tup [x, y])) { s with heap := h'', toks := tk } :=
      I.turnedNew (t' := tk) (ch := [z, TI, TO, i1, i2]) (fun e o hb q => (sb.2 e (fun q' => hb (by simp [q']))).trans (hk e o (fun q' => hb (by simp [q'])) (fun q' => hb (by simp [q'])) (fun q' => hb (by simp [q'])) (fun q' => hb (by simp [q'])) q)) hf (Nat.le_refl _) new
    have hTIk : h'.get? TI = some { cls := .type "tuple", data := .seq #[.ref i1, .ref i2] } := hk _ _ D.TIz D.TITO D.TIi1 D.TIi2 hTI
    refine ⟨.ref s.heap.objs.size, _, I1, rfl, ⟨_, x, y, rfl, I.hok.fresh (Nat.le_refl _), rfl, fun l hl => by rw [sqk_inj I hl hqx]; exact hx, fun l hl => by rw [sqk_inj I hl hqy]; exact hy⟩, ⟨z'', ?_, ⟨v1, v2, ?_⟩, ?_, ?_⟩, fun e hcm => ?_⟩
    · exact (sb.2 _ D.TIz).trans hTIk
    · exact (sb.2 _ D.TOz).trans TO'
    · exact h1'.at fun o q => (sb.2 _ D.zi1.symm).trans q
    · exact h2'.at fun o q => (sb.2 _ D.zi2.symm).trans q
    · have hlt : e < s.heap.objs.size := by
        have e' : e = z ∨ e = TI ∨ e = TO ∨ e = i1 ∨ e = i2 := by simpa using hcm
        rcases e' with q | q | q | q | q
        · rw [q]; exact hzl
        · rw [q]; exact Heap.lt_size hTI
        · rw [q]; exact Heap.lt_size hTO
        · rw [q]; obtain ⟨_, e1, _⟩ := h1.ob; exact Heap.lt_size e1
        · rw [q]; obtain ⟨_, e2, _⟩ := h2.ob; exact Heap.lt_size e2
      rw [upd_ne (Nat.ne_of_lt hlt)]
      exact (hf e hcm).1
  done := by
    intro X hP hw hK hc i pins s σ H E I hf st hg
    subst hP hw hK
    obtain ⟨hz, hTI, ⟨x0, y0, hTO⟩, h1, h2⟩ := st
    obtain ⟨xs, ys, hqx, hqy, l1, l2, hend⟩ := hg
    obtain ⟨its, rv, p⟩ := sqk_at I hqx
    obtain ⟨its2, rv2, p2⟩ := sqk_at I hqy
    have a1 : a ≠ i1 := sqk_ne I hqx (hf i1 (by simp))
    have c2 : c ≠ i2 := sqk_ne I hqy (hf i2 (by simp))
    have k1 := rv.length
    have k2 := rv2.length
    refine wpAny_pyNext_zipD2_end D (drawsK (prog := X.prog) (w := X.w) (A := X.A.in1) (I.ok.hd hc) b1 i1 a a1 its.toArray) (drawsK (prog := X.prog) (w := X.w) (A := X.A.in1) (I.ok.hd hc) b2 i2 c c2 its2.toArray) hz hTI hTO ⟨h1, p⟩ ⟨h2, p2⟩ (by simp; omega) (by simp; omega) (by simp; omega) fun h' tk hk => ⟨rfl, I.turnedL (t' := tk) (ch := [z, TI, TO, i1, i2]) (fun e o hb q =>
      hk e o (fun q' => hb (by simp [q'])) (fun q' => hb (by simp [q'])) (fun q' => hb (by simp [q'])) (fun q' => hb (by simp [q'])) q) hf⟩
  self := fun A i s Q E st h => wpAny_pyIter_zip st.1 h
end Dn
end
section
set_option Elab.async false
set_option linter.all false
set_option maxRecDepth 100000
set_option maxHeartbeats 2000000
namespace Dn
open PySem L2 PySem.Spec PyProof.Rows

def iZipK (K : PySem.W.Frag) (ta : TA) : TI := fun σ H R => ta σ H fun vs H1 => ∃ b1 b2 a c xs ys, vs = [.ref a, .ref c] ∧ SqK K b1 H1 a xs ∧ SqK K b2 H1 c ys ∧ R (ItzK K b1 b2 a c) H1
theorem pi_zipK {X : Cx} {e e2 : Expr} {ta : TA} {p pos tpos : Pos} {elts : List Expr} {kk : Nat} (hg : Gl X "zip") (hm : X.mg "zip" = none) (ha : PA X [e, e2] ta)
    (hs : starEach [e, e2] X.env = (false, eval e X.env) :: starEach [e2] X.env := by rfl) (hpl : (backTo pos (starEach [e2] X.env)).any (·.1) = false := by rfl) :
    PI X (.Tuple elts kk tpos) (.Call (.Name "zip" p) [e, e2] [] pos) (iZipK X.K ta) := by
  refine ⟨fun pins s σ H R I h => ?_⟩
  refine Call_ (ld_blt I hg hm PyProof.Rows.boot_zip (PyProof.Rows.callWith_type1 (thn (ha.run pos pins s σ H _ I h) fun us s1 ⟨vs, H1, I1, r1, q1⟩ => ?_) hs hpl))
  obtain ⟨b1, b2, a, c, xs, ys, ex, hqx, hqy, q⟩ := q1
  subst ex
  cases r1 with
  | cons r rr =>
    cases rr with
    | cons r' rr =>
      cases rr
      cases r
      cases r'
      obtain ⟨its, rv, p1⟩ := sqk_at I1 hqx
      obtain ⟨its2, rv2, p2⟩ := sqk_at I1 hqy
      have la : a < s1.heap.objs.size := by
        cases b1 with
        | true => obtain ⟨o, e, _⟩ := p1; exact Heap.lt_size e
        | false => obtain ⟨o, e, _⟩ := p1; exact Heap.lt_size e
      have lc : c < s1.heap.objs.size := by
        cases b2 with
        | true => obtain ⟨o, e, _⟩ := p2; exact Heap.lt_size e
        | false => obtain ⟨o, e, _⟩ := p2; exact Heap.lt_size e
      refine zip_begins2 (beginsK b1 a its.toArray) (beginsK b2 c its2.toArray) p1 p2 fun h' hz hTI hTO g1 g2 hsz hk => wpAny_pyIter_zip hz ?_
      have I2 : Inv X pins σ H1 { s1 with heap := h' } := I1.kept (t' := s1.toks) hk
      refine ⟨s1.heap.objs.size + 4, [s1.heap.objs.size + 4, s1.heap.objs.size + 2, s1.heap.objs.size + 3, s1.heap.objs.size, s1.heap.objs.size + 1], _, _, H1, rfl, I2,
        turn_zipK (zip_sep2 (N := s1.heap.objs.size) (fp1 := [a]) (fp2 := [c]) (by simpa using la) (by simpa using lc)), ⟨hz, hTI, ⟨_, _, hTO⟩, newIt_at g1, newIt_at g2⟩, fun e hcm => ?_, q⟩
      have e' : e = s1.heap.objs.size + 4 ∨ e = s1.heap.objs.size + 2 ∨ e = s1.heap.objs.size + 3 ∨ e = s1.heap.objs.size ∨ e = s1.heap.objs.size + 1 := by simpa using hcm
      have hle : s1.heap.objs.size ≤ e := by
        rcases e' with z | z | z | z | z
        · rw [z]; exact Nat.le_add_right _ _
        · rw [z]; exact Nat.le_add_right _ _
        · rw [z]; exact Nat.le_add_right _ _
        · rw [z]; exact Nat.le_refl _
        · rw [z]; exact Nat.le_add_right _ _
      exact I1.fpOk hle (I1.hok.fresh hle)
theorem pi_weak {X : Cx} {tg e : Expr} {t t' : TI} (h : PI X tg e t) (w : ∀ σ H R, t' σ H R → t σ H R) : PI X tg e t' := ⟨fun pins s σ H R I q => h.run pins s σ H R I (w σ H R q)⟩

/-! ### what is walked -/
/-- J yields the items l while what G says stands; the items lean on F -/
def Walk (K : PySem.W.Frag) (G F : Hp) (J : It) (l : List PV) : Prop := ∀ i H2, Ex G H2 → (i = l.length → J.stop i H2) ∧ (∀ d, l[i]? = some d → J.go i H2 ∧ ∀ x H3, J.yld i H2 x H3 → Ex H2 H3 ∧ ∀ O : Own, (∀ a, H2 a = none → ¬ O a) → Ex F (mask H2 O) → Dp K (mask H3 O) x d)
theorem sqk_ex {K : PySem.W.Frag} {b : Bool} {H H' : Hp} {a : Addr} {xs : List V} (e : Ex H H') (h : SqK K b H a xs) : SqK K b H' a xs := by
  cases b with
  | true => exact st_ex e h
  | false => exact sl_ex e h
section
variable {K : PySem.W.Frag} {G F : Hp} {a c : Addr} {xs ys : List V} {l m : List PV}
theorem walk_list (h : SqL K G a xs) (hx : DpAll K F xs l) : Walk K G F (Itl K a) l := fun i H2 e => ⟨fun hi => ⟨xs, sl_ex e h, by rw [dpa_length hx]; omega⟩, fun d hd => by
  obtain ⟨v, hv, r⟩ := dpa_get hx hd
  refine ⟨⟨xs, v, sl_ex e h, hv⟩, fun x H3 ⟨e3, y⟩ => ?_⟩
  subst e3
  have ev := Option.some.inj ((y xs (sl_ex e h)).symm.trans hv)
  subst ev
  exact ⟨Ex.refl _, fun O _ ef => dp_ex ef r⟩⟩
theorem walk_tup (h : SqT K G a xs) (hx : DpAll K F xs l) : Walk K G F (Itt K a) l := fun i H2 e => ⟨fun hi => ⟨xs, st_ex e h, by rw [dpa_length hx]; omega⟩, fun d hd => by
  obtain ⟨v, hv, r⟩ := dpa_get hx hd
  refine ⟨⟨xs, v, st_ex e h, hv⟩, fun x H3 ⟨e3, y⟩ => ?_⟩
  subst e3
  have ev := Option.some.inj ((y xs (st_ex e h)).symm.trans hv)
  subst ev
  exact ⟨Ex.refl _, fun O _ ef => dp_ex ef r⟩⟩
/-- the pairs of enumerate, from a number on -/
def enumP : Nat → List PV → List PV
  | _, [] => []
  | n, p :: l => .tuple [.int (n : Nat), p] :: enumP (n + 1) l
theorem enumP_length : ∀ (n : Nat) (l : List PV), (enumP n l).length = l.length
  | _, [] => rfl
  | n, _ :: l => by rw [enumP, List.length_cons, List.length_cons, enumP_length]
theorem enumP_get : ∀ (n : Nat) (l : List PV) (i : Nat), (enumP n l)[i]? = l[i]?.map fun p => .tuple [.int ((n + i : Nat) : Int), p]
  | _, [], _ => by simp [enumP]
  | n, p :: l, 0 => by simp [enumP]
  | n, p :: l, i + 1 => by
    rw [enumP, List.getElem?_cons_succ, enumP_get (n + 1) l i, List.getElem?_cons_succ]
    congr 2
    funext q
    congr 4
    omega
theorem walk_enum {b : Bool} (h : SqK K b G a xs) (hx : DpAll K F xs l) : Walk K G F (IteK K b a) (enumP 0 l) := fun i H2 e => ⟨fun hi => ⟨xs, sqk_ex e h, by rw [dpa_length hx, hi, enumP_length]⟩, fun d hd => by
  rw [enumP_get] at hd
  obtain ⟨p, hp, rfl⟩ := Option.map_eq_some_iff.mp hd
  obtain ⟨v, hv, r⟩ := dpa_get hx hp
  refine ⟨⟨xs, v, sqk_ex e h, hv⟩, fun x H3 ⟨T, y, ex, hT, e3, hy⟩ => ?_⟩
  subst ex e3
  have ev := Option.some.inj ((hy xs (sqk_ex e h)).symm.trans hv)
  subst ev
  refine ⟨Ex.new hT, fun O hO ef => .tup (st_of (mask_some.mpr ⟨hO T hT, upd_same⟩)) ?_⟩
  have eq : ((0 + i : Nat) : Int) = (i : Nat) := by rw [Nat.zero_add]
  rw [eq]
  exact .cons (.int _) (.cons (dp_ex (ef.trans (mask_mono (Ex.new hT))) r) .nil)⟩
def zipP : List PV → List PV → List PV
  | p :: l, q :: m => .tuple [p, q] :: zipP l m
  | _, _ => []
theorem zipP_length : ∀ (l m : List PV), (zipP l m).length = min l.length m.length
  | [], m => by simp [zipP]
  | p :: l, [] => by simp [zipP]
  | p :: l, q :: m => by rw [zipP, List.length_cons, List.length_cons, List.length_cons, zipP_length]; omega
theorem zipP_get : ∀ (l m : List PV) (i : Nat) (d : PV), (zipP l m)[i]? = some d → ∃ p q, l[i]? = some p ∧ m[i]? = some q ∧ d = .tuple [p, q]
  | [], m, i, d, h => by simp [zipP] at h
  | p :: l, [], i, d, h => by simp [zipP] at h
  | p :: l, q :: m, 0, d, h => ⟨p, q, rfl, rfl, by simpa [zipP] using h.symm⟩
  | p :: l, q :: m, i + 1, d, h => by
    rw [zipP, List.getElem?_cons_succ] at h
    obtain ⟨p', q', h1, h2, h3⟩ := zipP_get l m i d h
    exact ⟨p', q', by simpa using h1, by simpa using h2, h3⟩
theorem walk_zip {b1 b2 : Bool} (h : SqK K b1 G a xs) (hx : DpAll K F xs l) (h2 : SqK K b2 G c ys) (hy : DpAll K F ys m) : Walk K G F (ItzK K b1 b2 a c) (zipP l m) := fun i H2 e => ⟨fun hi => by
    rw [zipP_length] at hi
    refine ⟨xs, ys, sqk_ex e h, sqk_ex e h2, ?_, ?_, ?_⟩
    · rw [dpa_length hx]; omega
    · rw [dpa_length hy]; omega
    · rw [dpa_length hx, dpa_length hy]; omega, fun d hd => by
  obtain ⟨p, q, hp, hq, rfl⟩ := zipP_get l m i d hd
  obtain ⟨v, hv, r⟩ := dpa_get hx hp
  obtain ⟨w, hw, r2⟩ := dpa_get hy hq
  refine ⟨⟨xs, ys, v, w, sqk_ex e h, sqk_ex e h2, hv, hw⟩, fun x H3 ⟨T, y1, y2, ex, hT, e3, f1, f2⟩ => ?_⟩
  subst ex e3
  have ev := Option.some.inj ((f1 xs (sqk_ex e h)).symm.trans hv)
  have ew := Option.some.inj ((f2 ys (sqk_ex e h2)).symm.trans hw)
  subst ev ew
  refine ⟨Ex.new hT, fun O hO ef => .tup (st_of (mask_some.mpr ⟨hO T hT, upd_same⟩)) ?_⟩
  have ef' := ef.trans (mask_mono (O := O) (Ex.new (o := .tup [y1, y2]) hT))
  exact .cons (dp_ex ef' r) (.cons (dp_ex ef' r2) .nil)⟩
/-- lo, lo + 1, .. -/
def rngP : Int → Nat → List PV
  | _, 0 => []
  | lo, n + 1 => .int lo :: rngP (lo + 1) n
theorem rngP_length : ∀ (lo : Int) (n : Nat), (rngP lo n).length = n
  | _, 0 => rfl
  | lo, n + 1 => by rw [rngP, List.length_cons, rngP_length]
theorem rngP_get : ∀ (lo : Int) (n i : Nat), (rngP lo n)[i]? = if i < n then some (.int (lo + (i : Int))) else none
  | _, 0, i => by simp [rngP]
  | lo, n + 1, 0 => by simp [rngP]
  | lo, n + 1, i + 1 => by
    rw [rngP, List.getElem?_cons_succ, rngP_get (lo + 1) n i]
    by_cases h : i < n
    · rw [if_pos h, if_pos (by omega)]
      congr 2
      omega
    · rw [if_neg h, if_neg (by omega)]
theorem walk_rng {lo : Int} {n : Nat} : Walk K G F (Itr lo n) (rngP lo n) := fun i H2 e => ⟨fun hi => by
    rw [rngP_length] at hi
    show n ≤ i
    omega, fun d hd => by
  rw [rngP_get] at hd
  split at hd
  · rename_i hi
    cases hd
    refine ⟨hi, fun x H3 ⟨e3, ex⟩ => ?_⟩
    subst e3 ex
    exact ⟨Ex.refl _, fun O _ _ => .int _⟩
  · cases hd⟩
end

/-- for a for: what is walked stands for good -/
def tIs (K : PySem.W.Frag) (d : DQv) : TI := fun σ H R => ∃ f A ρ l, RS K f A ρ σ H ∧ d ρ = some l ∧ ∀ J H1, Ex H H1 → Walk K (mask H1 (own f A)) (mask H1 (own f A)) J l → R J H1
/-- for a comprehension -/
def tIc (K : PySem.W.Frag) (d : DQv) : TI := fun σ H R => ∃ f A ρ l, RS K f A ρ σ H ∧ d ρ = some l ∧ ∀ J H1, Ex H H1 → Walk K H1 (mask H1 (own f A)) J l → R J H1
structure DI (X : Cx) (tg iter : Expr) (d : DQv) : Prop where pi : PI X tg iter (tIs X.K d)
structure DC (X : Cx) (tg iter : Expr) (d : DQv) : Prop where pi : PI X tg iter (tIc X.K d)
theorem dc_i {X : Cx} {tg iter : Expr} {d : DQv} (h : DI X tg iter d) : DC X tg iter d := ⟨pi_weak h.pi fun σ H R ⟨f, A, ρ, l, R', hd, q⟩ =>
  ⟨f, A, ρ, l, R', hd, fun J H1 e1 w => q J H1 e1 fun i H2 e2 => w i H2 (mask_ex.trans e2)⟩⟩
def dEnum (q : DQv) : DQv := fun ρ => (q ρ).map (enumP 0)
def dZip (q r : DQv) : DQv := fun ρ => (q ρ).bind fun l => (r ρ).map fun m => zipP l m
section
variable {X : Cx} {tg e e2 : Expr} {da db : DPv} {qa qb : DQv} {p pos tpos : Pos} {elts : List Expr} {kk : Nat}
theorem sqk_of {K : PySem.W.Frag} {H : Hp} {a : Addr} {xs : List V} (h : SqL K H a xs ∨ SqT K H a xs) : ∃ b, SqK K b H a xs := by
  rcases h with h | h
  · exact ⟨false, h⟩
  · exact ⟨true, h⟩
/-- a value that is a list, in the part that is not owned -/
theorem seqF {K : PySem.W.Frag} {F : Hp} {v : V} {p : PV} {l : List PV} (h : Dp K F v p) (hl : asSeq p = some l) : ∃ b a xs, v = .ref a ∧ SqK K b F a xs ∧ DpAll K F xs l := by
  cases p with
  | list l' =>
    cases hl
    cases h with
    | lst h1 h2 => exact ⟨false, _, _, rfl, h1, h2⟩
  | tuple l' =>
    cases hl
    cases h with
    | tup h1 h2 => exact ⟨true, _, _, rfl, h1, h2⟩
  | _ => cases hl
theorem di_list (h : DP X e da) : DI X tg e (dLs da) := ⟨pi_weak (pi_list h.pe) fun σ H R ⟨f, A, ρ, l, R', hd, q⟩ => by
  unfold dLs at hd
  obtain ⟨x, hx, hl⟩ := Option.bind_eq_some_iff.mp hd
  refine ⟨f, A, ρ, x, R', hx, fun v H1 e1 r1 => ?_⟩
  cases x with
  | list l' =>
    cases hl
    cases r1 with
    | lst h1 h2 => exact ⟨_, rfl, ⟨_, sl_ex mask_ex h1⟩, q _ H1 e1 (walk_list h1 h2)⟩
  | _ => cases hl⟩
def dTs (da : DPv) : DQv := fun ρ => (da ρ).bind asTup
theorem di_tup (h : DP X e da) : DI X tg e (dTs da) := ⟨pi_weak (pi_tup h.pe) fun σ H R ⟨f, A, ρ, l, R', hd, q⟩ => by
  unfold dTs at hd
  obtain ⟨x, hx, hl⟩ := Option.bind_eq_some_iff.mp hd
  refine ⟨f, A, ρ, x, R', hx, fun v H1 e1 r1 => ?_⟩
  cases x with
  | tuple l' =>
    cases hl
    cases r1 with
    | tup h1 h2 => exact ⟨_, rfl, ⟨_, st_ex mask_ex h1⟩, q _ H1 e1 (walk_tup h1 h2)⟩
  | _ => cases hl⟩
/-- a list just made -/
theorem di_l (h : DL X e qa) : DI X tg e qa := ⟨pi_weak (pi_list h.pe) fun σ H R ⟨f, A, ρ, l, R', hd, q⟩ =>
  ⟨f, A, ρ, l, R', hd, fun a xs H1 hn e1 ha hx => ⟨a, rfl, ⟨xs, sl_of ha⟩, q _ H1 e1 (walk_list (sl_of (mask_some.mpr ⟨R'.fresh hn, ha⟩)) (dpa_ex (mask_less fun b hb => .inl hb) hx))⟩⟩⟩
theorem dc_list (h : DQl X e qa) : DC X tg e qa := ⟨pi_weak (pi_list h.pe) fun σ H R ⟨f, A, ρ, l, R', hd, q⟩ =>
  ⟨f, A, ρ, l, R', hd, fun a xs H1 e1 ha hx => ⟨a, rfl, ⟨xs, ha⟩, q _ H1 e1 (walk_list ha hx)⟩⟩⟩
theorem di_enum (hg : Gl X "enumerate") (hm : X.mg "enumerate" = none) (h : DP X e da) (hs : starEach [e] X.env = [(false, eval e X.env)] := by rfl) : DI X (.Tuple elts kk tpos) (.Call (.Name "enumerate" p) [e] [] pos) (dEnum (dS da)) :=
  ⟨pi_weak (pi_enumK hg hm h.pe hs) fun σ H R ⟨f, A, ρ, l, R', hd, q⟩ => by
    unfold dEnum dS at hd
    obtain ⟨m, hm, rfl⟩ := Option.map_eq_some_iff.mp hd
    obtain ⟨x, hx, hl⟩ := Option.bind_eq_some_iff.mp hm
    refine ⟨f, A, ρ, x, R', hx, fun v H1 e1 r1 => ?_⟩
    obtain ⟨b, a, xs, rfl, h1, h2⟩ := seqF r1 hl
    exact ⟨b, a, xs, rfl, sqk_ex mask_ex h1, q _ H1 e1 (walk_enum h1 h2)⟩⟩
theorem di_enumL (hg : Gl X "enumerate") (hm : X.mg "enumerate" = none) (h : DL X e qa) (hs : starEach [e] X.env = [(false, eval e X.env)] := by rfl) : DI X (.Tuple elts kk tpos) (.Call (.Name "enumerate" p) [e] [] pos) (dEnum qa) :=
  ⟨pi_weak (pi_enumK hg hm h.pe hs) fun σ H R ⟨f, A, ρ, l, R', hd, q⟩ => by
    unfold dEnum at hd
    obtain ⟨m, hm, rfl⟩ := Option.map_eq_some_iff.mp hd
    refine ⟨f, A, ρ, m, R', hm, fun a xs H1 hn e1 ha hx => ?_⟩
    have hs' : SqK X.K false (mask H1 (own f A)) a xs := sl_of (mask_some.mpr ⟨R'.fresh hn, ha⟩)
    exact ⟨false, a, xs, rfl, sl_of ha, q _ H1 e1 (walk_enum hs' (dpa_ex (mask_less fun b hb => .inl hb) hx))⟩⟩
theorem dc_enum (hg : Gl X "enumerate") (hm : X.mg "enumerate" = none) (h : DQ X e qa) (hs : starEach [e] X.env = [(false, eval e X.env)] := by rfl) : DC X (.Tuple elts kk tpos) (.Call (.Name "enumerate" p) [e] [] pos) (dEnum qa) :=
  ⟨pi_weak (pi_enumK hg hm h.pe hs) fun σ H R ⟨f, A, ρ, l, R', hd, q⟩ => by
    unfold dEnum at hd
    obtain ⟨m, hm, rfl⟩ := Option.map_eq_some_iff.mp hd
    refine ⟨f, A, ρ, m, R', hm, fun a xs H1 e1 hq hx => ?_⟩
    obtain ⟨b, hb⟩ := sqk_of hq
    exact ⟨b, a, xs, rfl, hb, q _ H1 e1 (walk_enum hb hx)⟩⟩
theorem di_zip (hg : Gl X "zip") (hm : X.mg "zip" = none) (ha : DP X e da) (hb : DP X e2 db)
    (hs : starEach [e, e2] X.env = (false, eval e X.env) :: starEach [e2] X.env := by rfl) (hpl : (backTo pos (starEach [e2] X.env)).any (·.1) = false := by rfl) (hs2 : starEach [e2] X.env = (false, eval e2 X.env) :: starEach [] X.env := by rfl) :
    DI X (.Tuple elts kk tpos) (.Call (.Name "zip" p) [e, e2] [] pos) (dZip (dS da) (dS db)) :=
  ⟨pi_weak (pi_zipK hg hm (pa_cons ha.pe (pa_cons hb.pe pa_nil hs2) hs) hs hpl) fun σ H R ⟨f, A, ρ, l, R', hd, q⟩ => by
    unfold dZip dS at hd
    obtain ⟨l1, h1, hd⟩ := Option.bind_eq_some_iff.mp hd
    obtain ⟨l2, h2, rfl⟩ := Option.map_eq_some_iff.mp hd
    obtain ⟨x, hx, hl1⟩ := Option.bind_eq_some_iff.mp h1
    obtain ⟨y, hy, hl2⟩ := Option.bind_eq_some_iff.mp h2
    refine ⟨f, A, ρ, x, R', hx, fun v H1 e1 r1 => ⟨f, A, ρ, y, R'.mono e1, hy, fun w H2 e2 r2 => ?_⟩⟩
    obtain ⟨b1, a, xs, rfl, q1, q2⟩ := seqF (dp_ex (mask_mono e2) r1) hl1
    obtain ⟨b2, c, ys, rfl, q3, q4⟩ := seqF r2 hl2
    exact ⟨b1, b2, a, c, xs, ys, rfl, sqk_ex mask_ex q1, sqk_ex mask_ex q3, q _ H2 (e1.trans e2) (walk_zip q1 q2 q3 q4)⟩⟩
theorem dc_zip (hg : Gl X "zip") (hm : X.mg "zip" = none) (ha : DQ X e qa) (hb : DQ X e2 qb)
    (hs : starEach [e, e2] X.env = (false, eval e X.env) :: starEach [e2] X.env := by rfl) (hpl : (backTo pos (starEach [e2] X.env)).any (·.1) = false := by rfl) (hs2 : starEach [e2] X.env = (false, eval e2 X.env) :: starEach [] X.env := by rfl) :
    DC X (.Tuple elts kk tpos) (.Call (.Name "zip" p) [e, e2] [] pos) (dZip qa qb) :=
  ⟨pi_weak (pi_zipK hg hm (pa_cons ha.pe (pa_cons hb.pe pa_nil hs2) hs) hs hpl) fun σ H R ⟨f, A, ρ, l, R', hd, q⟩ => by
    unfold dZip at hd
    obtain ⟨l1, h1, hd⟩ := Option.bind_eq_some_iff.mp hd
    obtain ⟨l2, h2, rfl⟩ := Option.map_eq_some_iff.mp hd
    refine ⟨f, A, ρ, l1, R', h1, fun a xs H1 e1 s1 x1 => ⟨f, A, ρ, l2, R'.mono e1, h2, fun c ys H2 e2 s2 x2 => ?_⟩⟩
    obtain ⟨b1, k1⟩ := sqk_of s1
    obtain ⟨b2, k2⟩ := sqk_of s2
    exact ⟨b1, b2, a, c, xs, ys, rfl, sqk_ex e2 k1, k2, q _ H2 (e1.trans e2) (walk_zip (sqk_ex e2 k1) (dpa_ex (mask_mono e2) x1) k2 x2)⟩⟩
def big62 (j : Int) : Prop := -4611686018427387904 ≤ j ∧ j < 4611686018427387904
instance (j : Int) : Decidable (big62 j) := by unfold big62; infer_instance
def rng1 : PV → Option (List PV)
  | .int j => if big62 j then some (rngP 0 j.toNat) else none
  | _ => none
def rng2 : PV → PV → Option (List PV)
  | .int i, .int j => if big62 i ∧ big62 j then some (rngP i (j - i).toNat) else none
  | _, _ => none
def dRng1 (da : DPv) : DQv := fun ρ => (da ρ).bind rng1
def dRng2 (da db : DPv) : DQv := fun ρ => (da ρ).bind fun x => (db ρ).bind fun y => rng2 x y
theorem di_rng1 (hg : Gl X "range") (hm : X.mg "range" = none) (h : DP X e da) (hs : starEach [e] X.env = [(false, eval e X.env)] := by rfl) : DI X tg (.Call (.Name "range" p) [e] [] pos) (dRng1 da) :=
  ⟨pi_weak (pi_range1 hg hm (pa_cons h.pe pa_nil hs) hs) fun σ H R ⟨f, A, ρ, l, R', hd, q⟩ => by
    unfold dRng1 at hd
    obtain ⟨x, hx, hl⟩ := Option.bind_eq_some_iff.mp hd
    refine ⟨f, A, ρ, x, R', hx, fun v H1 e1 r1 => ?_⟩
    cases x with
    | int j =>
      replace hl : (if big62 j then some (rngP 0 j.toNat) else none) = some l := hl
      split at hl
      · rename_i hj
        cases hl
        cases r1
        exact ⟨j, rfl, hj.1, hj.2, q _ H1 e1 walk_rng⟩
      · cases hl
    | _ => cases hl⟩
theorem di_rng2 (hg : Gl X "range") (hm : X.mg "range" = none) (h : DP X e da) (h2 : DP X e2 db) (hs : starEach [e, e2] X.env = [(false, eval e X.env), (false, eval e2 X.env)] := by rfl) (hs2 : starEach [e2] X.env = [(false, eval e2 X.env)] := by rfl) : DI X tg (.Call (.Name "range" p) [e, e2] [] pos) (dRng2 da db) :=
  ⟨pi_weak (pi_range2 hg hm (pa_cons h.pe (pa_cons h2.pe pa_nil hs2) (by rw [hs, hs2])) hs hs2) fun σ H R ⟨f, A, ρ, l, R', hd, q⟩ => by
    unfold dRng2 at hd
    obtain ⟨x, hx, hd⟩ := Option.bind_eq_some_iff.mp hd
    obtain ⟨y, hy, hl⟩ := Option.bind_eq_some_iff.mp hd
    refine ⟨f, A, ρ, x, R', hx, fun v H1 e1 r1 => ⟨f, A, ρ, y, R'.mono e1, hy, fun w H2 e2 r2 => ?_⟩⟩
    cases x with
    | int i =>
      cases y with
      | int j =>
        replace hl : (if big62 i ∧ big62 j then some (rngP i (j - i).toNat) else none) = some l := hl
        split at hl
        · rename_i hj
          cases hl
          cases r1
          cases r2
          exact ⟨i, j, rfl, ⟨hj.1.1, hj.1.2, hj.2.1, hj.2.2⟩, q _ H2 (e1.trans e2) walk_rng⟩
        · cases hl
      | _ => cases hl
    | _ => cases hl⟩
end
end Dn
end
section
set_option Elab.async false
set_option linter.all false
set_option maxRecDepth 100000
set_option maxHeartbeats 2000000
namespace Dn
open PySem L2

/-! ### storing -/
def setS (ρ : En) (i : Nat) (s : Sl) : Option En := match ρ[i]? with
  | none => none
  | some (.br _) => none
  | some (.ox _) => none
  | some _ => some (ρ.set i s)
theorem setS_some {ρ ρ' : En} {i : Nat} {s : Sl} (h : setS ρ i s = some ρ') : ρ' = ρ.set i s ∧ i < ρ.length ∧ ∀ (l : List PV), ρ[i]? ≠ some (Sl.ox l) := by
  unfold setS at h
  cases hs : ρ[i]? with
  | none => rw [hs] at h; cases h
  | some t =>
    rw [hs] at h
    have hl := (List.getElem?_eq_some_iff.mp hs).1
    cases t with
    | br l => cases h
    | ox l => cases h
    | _ => cases h; exact ⟨rfl, hl, fun l e => by cases e⟩
open Classical in
noncomputable def dropA (A : Nat → List Addr) (s : List Nat) : Nat → List Addr := fun j => if j ∈ s then [] else A j
def putA (A : Nat → List Addr) (i : Nat) (as : List Addr) : Nat → List Addr := fun j => if j = i then as else A j
theorem dropA_mem {A : Nat → List Addr} {s : List Nat} {j : Nat} {a : Addr} (h : a ∈ dropA A s j) : a ∈ A j ∧ j ∉ s := by
  unfold dropA at h
  split at h
  · cases h
  · rename_i hj
    exact ⟨h, hj⟩
theorem dropA_own {f : Fm} {A : Nat → List Addr} {s : List Nat} {a : Addr} (h : own f (dropA A s) a) : own f A a := by
  rcases h with h | ⟨i, h⟩
  · exact .inl h
  · exact .inr ⟨i, (dropA_mem h).1⟩
theorem dropA_ex {H : Hp} {f : Fm} {A : Nat → List Addr} {s : List Nat} : Ex (mask H (own f A)) (mask H (own f (dropA A s))) := mask_less fun a h => dropA_own h
theorem dropA_nil {A : Nat → List Addr} : dropA A [] = A := by
  funext j; unfold dropA; simp
theorem dropA_app {A : Nat → List Addr} {s t : List Nat} : dropA (dropA A s) t = dropA A (s ++ t) := by
  funext j
  unfold dropA
  by_cases h1 : j ∈ s <;> by_cases h2 : j ∈ t <;> simp [h1, h2]
theorem dropA_same {A : Nat → List Addr} {s : List Nat} (h : ∀ j ∈ s, A j = []) : dropA A s = A := by
  funext j
  unfold dropA
  split
  · rename_i hj; exact (h j hj).symm
  · rfl
section
variable {K : PySem.W.Frag} {f : Fm} {H H' : Hp} {A : Nat → List Addr} {ρ ρ' : En} {σ : St}
theorem pk_set {ρ : En} {i : Nat} {s : Sl} {f : Fm} (hx : ∀ (l : List PV), ρ[i]? ≠ some (Sl.ox l)) (pk : ∀ a, f.P a → ∃ (i : Nat) (l : List PV), ρ[i]? = some (Sl.ox l) ∧ f.Y i = some a) : ∀ a, f.P a → ∃ (j : Nat) (l : List PV), (ρ.set i s)[j]? = some (Sl.ox l) ∧ f.Y j = some a := fun a h => by
  obtain ⟨j, l, hj, hy⟩ := pk a h
  have : i ≠ j := fun e => hx l (by rw [e]; exact hj)
  exact ⟨j, l, by rw [List.getElem?_set_ne this]; exact hj, hy⟩
theorem RS.drop (r : RS K f A ρ σ H) {i : Nat} {s : Sl} {v : Option V} (hx : ∀ (l : List PV), ρ[i]? ≠ some (Sl.ox l)) (hs : SlR K f H (mask H (own f A)) i s (some v) []) : RS K f (dropA A [i]) (ρ.set i s) (σ.set i v) H := by
  refine ⟨by rw [List.length_set, List.length_set]; exact r.len, r.ext, r.old, fun j a h => r.new j a (dropA_mem h).1, fun j => ?_, fun j k a h h' => r.dis j k a (dropA_mem h).1 (dropA_mem h').1, fun j t ht => ?_, fun j h => ?_, r.zi, pk_set hx r.pk⟩
  · unfold dropA
    split
    · exact List.nodup_nil
    · exact r.nd j
  · by_cases hj : j = i
    · subst hj
      have hlt : j < ρ.length := by
        have := (List.getElem?_eq_some_iff.mp ht).1
        rwa [List.length_set] at this
      rw [List.getElem?_set_self hlt] at ht
      cases ht
      rw [List.getElem?_set_self (by rw [← r.len]; exact hlt)]
      have e : dropA A [j] j = [] := by unfold dropA; simp
      rw [e]
      exact hs.stay (fun _ h => by cases h) dropA_ex
    · rw [List.getElem?_set_ne (Ne.symm hj)] at ht
      rw [List.getElem?_set_ne (Ne.symm hj)]
      have e : dropA A [i] j = A j := by unfold dropA; rw [if_neg (by simpa using hj)]
      rw [e]
      exact (r.sl j t ht).stay (fun _ _ _ q => q) dropA_ex
  · rw [List.length_set] at h
    unfold dropA
    split
    · rfl
    · exact r.out j h
theorem RS.setFz (r : RS K f A ρ σ H) {i : Nat} {v : V} {p : PV} (hx : ∀ (l : List PV), ρ[i]? ≠ some (Sl.ox l)) (h : Dp K (mask H (own f A)) v p) : RS K f (dropA A [i]) (ρ.set i (.fz p)) (σ.set i (some v)) H := r.drop hx ⟨rfl, v, rfl, h⟩
theorem RS.setUn (r : RS K f A ρ σ H) {i : Nat} {v : Option V} (hx : ∀ (l : List PV), ρ[i]? ≠ some (Sl.ox l)) : RS K f (dropA A [i]) (ρ.set i .un) (σ.set i v) H := r.drop hx (show ([] : List Addr) = [] from rfl)
/-- a new list becomes the slot's own -/
theorem RS.setOl {H0 : Hp} (r : RS K f A ρ σ H0) (e0 : Ex H0 H) {i : Nat} {a : Addr} {xs : List V} {l : List PV} (hi : i < ρ.length) (hx : ∀ (l : List PV), ρ[i]? ≠ some (Sl.ox l)) (hn0 : H0 a = none) (ha : H a = some (.lst xs)) (hxs : DpAll K (mask H (fun b => own f A b ∨ b = a)) xs l) :
    RS K f (putA A i [a]) (ρ.set i (.ol l)) (σ.set i (some (.ref a))) H := by
  have hn : ¬ own f A a := r.fresh hn0
  have hb : f.B a = none := r.ext.back hn0
  have ow : ∀ b, own f (putA A i [a]) b → own f A b ∨ b = a := fun b h => by
    rcases h with h | ⟨j, h⟩
    · exact .inl (.inl h)
    · unfold putA at h
      split at h
      · exact .inr (List.mem_singleton.mp h)
      · exact .inl (.inr ⟨j, h⟩)
  refine ⟨by rw [List.length_set, List.length_set]; exact r.len, r.ext.trans e0, fun b h => e0.some (r.old b h), fun j b h => ?_, fun j => ?_, fun j k b h h' => ?_, fun j t ht => ?_, fun j h => ?_, r.zi, pk_set hx r.pk⟩
  · unfold putA at h
    split at h
    · cases List.mem_singleton.mp h; exact ⟨hb, fun q => hn (.inl q)⟩
    · exact r.new j b h
  · unfold putA
    split
    · simp
    · exact r.nd j
  · unfold putA at h h'
    split at h
    · split at h'
      · rename_i e e'; rw [e, e']
      · cases List.mem_singleton.mp h; exact absurd (.inr ⟨k, h'⟩) hn
    · split at h'
      · cases List.mem_singleton.mp h'; exact absurd (.inr ⟨j, h⟩) hn
      · exact r.dis j k b h h'
  · by_cases hj : j = i
    · subst hj
      rw [List.getElem?_set_self hi] at ht
      cases ht
      rw [List.getElem?_set_self (by rw [← r.len]; exact hi)]
      exact ⟨a, xs, by unfold putA; rw [if_pos rfl], rfl, ha, dpa_ex (mask_less ow) hxs⟩
    · rw [List.getElem?_set_ne (Ne.symm hj)] at ht
      rw [List.getElem?_set_ne (Ne.symm hj)]
      have e : putA A i [a] j = A j := by unfold putA; rw [if_neg hj]
      rw [e]
      refine (r.sl j t ht).stay (fun b _ o q => e0 b o q) (mask_to fun b o h1 h2 => ⟨fun w => ?_, e0 b o h2⟩)
      rcases ow b w with w | w
      · exact h1 w
      · subst w; rw [hn0] at h2; cases h2
  · rw [List.length_set] at h
    unfold putA
    rw [if_neg (by omega)]
    exact r.out j h
/-- what is not owned stays not owned when a new list is taken -/
theorem putA_ex {H0 : Hp} (e0 : Ex H0 H) {i : Nat} {a : Addr} (hn0 : H0 a = none) : Ex (mask H0 (own f A)) (mask H (own f (putA A i [a]))) := mask_to fun b o h1 h2 => ⟨fun w => by
    rcases w with w | ⟨j, w⟩
    · exact h1 (.inl w)
    · unfold putA at w
      split at w
      · cases List.mem_singleton.mp w; rw [hn0] at h2; cases h2
      · exact h1 (.inr ⟨j, w⟩), e0 b o h2⟩
end

/-! ### targets -/
inductive Tg where
  | nm (i : Nat)
  | tp (l : List Tg)
mutual
def tgB : Tg → PV → En → Option En
  | .nm i, p, ρ => setS ρ i (.fz p)
  | .tp ts, .tuple ps, ρ => tgBs ts ps ρ
  | .tp _, _, _ => none
def tgBs : List Tg → List PV → En → Option En
  | [], [], ρ => some ρ
  | t :: ts, p :: ps, ρ => (tgB t p ρ).bind fun ρ1 => tgBs ts ps ρ1
  | _, _, _ => none
end
mutual
def tgS : Tg → List Nat
  | .nm i => [i]
  | .tp l => tgSs l
def tgSs : List Tg → List Nat
  | [] => []
  | t :: ts => tgS t ++ tgSs ts
end
def tG (K : PySem.W.Frag) (b : PV → En → Option En) (s : List Nat) : TG := fun v σ H Q => ∃ f A ρ p ρ', RS K f A ρ σ H ∧ Dp K (mask H (own f A)) v p ∧ b p ρ = some ρ' ∧
  ∀ σ', RS K f (dropA A s) ρ' σ' H → (∀ j, j ∉ s → σ'[j]? = σ[j]?) → Q σ' H
def tGs (K : PySem.W.Frag) (b : List PV → En → Option En) (s : List Nat) : TGs := fun vs σ H Q => ∃ f A ρ p ρ', RS K f A ρ σ H ∧ DpAll K (mask H (own f A)) vs p ∧ b p ρ = some ρ' ∧
  ∀ σ', RS K f (dropA A s) ρ' σ' H → (∀ j, j ∉ s → σ'[j]? = σ[j]?) → Q σ' H
structure DG (X : Cx) (e : Expr) (t : Tg) : Prop where pg : PG X e (tG X.K (tgB t) (tgS t))
structure DGs (X : Cx) (es : List Expr) (ts : List Tg) : Prop where pgs : PGs X es (tGs X.K (tgBs ts) (tgSs ts))
theorem pg_weak {X : Cx} {e : Expr} {t t' : TG} (h : PG X e t) (w : ∀ v σ H Q, t' v σ H Q → t v σ H Q) : PG X e t' := ⟨fun pins s σ H v u Q I r q => h.run pins s σ H v u Q I r (w v σ H Q q)⟩
theorem pgs_weak {X : Cx} {e : List Expr} {t t' : TGs} (h : PGs X e t) (w : ∀ v σ H Q, t' v σ H Q → t v σ H Q) : PGs X e t' := ⟨fun pins s σ H v u Q I r q => h.run pins s σ H v u Q I r (w v σ H Q q)⟩
section
variable {X : Cx} {e : Expr} {es : List Expr} {pos : Pos}
theorem dg_nm {i : Nat} (h : PG X e (gName i)) : DG X e (.nm i) := ⟨pg_weak h fun v σ H Q ⟨f, A, ρ, p, ρ', R, hv, hb, q⟩ => by
  obtain ⟨e1, _, hx⟩ := setS_some (show setS ρ i (.fz p) = some ρ' from hb)
  subst e1
  exact q _ (R.setFz hx hv) fun j hj => List.getElem?_set_ne (fun w => hj (by rw [← w]; exact List.mem_singleton_self i))⟩
theorem dgs_nil : DGs X [] [] := ⟨pgs_weak pgs_nil fun vs σ H Q ⟨f, A, ρ, p, ρ', R, hv, hb, q⟩ => by
  cases p with
  | nil =>
    cases hv
    have e1 : ρ = ρ' := Option.some.inj hb
    subst e1
    exact ⟨rfl, q σ (by rw [show tgSs [] = [] from rfl, dropA_nil]; exact R) fun _ _ => rfl⟩
  | cons _ _ => cases hb⟩
theorem dgs_cons {t : Tg} {ts : List Tg} (h1 : DG X e t) (h2 : DGs X es ts) (hs : (assignEach (e :: es) X.env).map (·.2) = assign e X.env :: (assignEach es X.env).map (·.2) := by rfl) : DGs X (e :: es) (t :: ts) :=
  ⟨pgs_weak (pgs_cons h1.pg h2.pgs hs) fun vs σ H Q ⟨f, A, ρ, p, ρ', R, hv, hb, q⟩ => by
    cases p with
    | nil => cases hb
    | cons p ps =>
      cases hv with
      | cons hv hvs =>
        obtain ⟨ρ1, hb1, hb2⟩ := Option.bind_eq_some_iff.mp (show (tgB t p ρ).bind (fun ρ1 => tgBs ts ps ρ1) = some ρ' from hb)
        refine ⟨_, _, rfl, f, A, ρ, p, ρ1, R, hv, hb1, fun σ1 R1 k1 => ⟨f, _, ρ1, ps, ρ', R1, dpa_ex dropA_ex hvs, hb2, fun σ2 R2 k2 => q σ2 (by rw [← show dropA (dropA A (tgS t)) (tgSs ts) = dropA A (tgSs (t :: ts)) from dropA_app]; exact R2) fun j hj => ?_⟩⟩
        have hj' : j ∉ tgS t ++ tgSs ts := hj
        rw [List.mem_append, not_or] at hj'
        exact (k2 j hj'.2).trans (k1 j hj'.1)⟩
theorem dg_tp {k : Nat} {ts : List Tg} {n : Nat} (hc : X.calm = true) (h : DGs X es ts) (hn : (assignEach es X.env).length = n := by rfl) (hl : ts.length = n := by rfl) (hst : (assignEach es X.env).findIdx? (·.1) = none := by rfl) : DG X (.Tuple es k pos) (.tp ts) :=
  ⟨pg_weak (pg_tup hc h.pgs hn hst) fun v σ H Q ⟨f, A, ρ, p, ρ', R, hv, hb, q⟩ => by
    cases p with
    | tuple ps =>
      cases hv with
      | @tup a xs _ h1 h2 =>
        have hb' : tgBs ts ps ρ = some ρ' := hb
        have lens : ∀ (ts : List Tg) (ps : List PV) (ρ ρ' : En), tgBs ts ps ρ = some ρ' → ts.length = ps.length := by
          intro ts
          induction ts with
          | nil =>
            intro ps ρ ρ' h
            cases ps with
            | nil => rfl
            | cons _ _ => cases h
          | cons t ts ih =>
            intro ps ρ ρ' h
            cases ps with
            | nil => cases h
            | cons p ps =>
              obtain ⟨ρ1, _, h2⟩ := Option.bind_eq_some_iff.mp (show (tgB t p ρ).bind (fun ρ1 => tgBs ts ps ρ1) = some ρ' from h)
              rw [List.length_cons, List.length_cons, ih ps ρ1 ρ' h2]
        exact ⟨a, xs, rfl, st_ex mask_ex h1, by rw [dpa_length h2, ← lens ts ps ρ ρ' hb', hl], f, A, ρ, ps, ρ', R, h2, hb', q⟩
    | _ => cases hb⟩
end
end Dn
end
section
set_option Elab.async false
set_option linter.all false
set_option maxRecDepth 100000
set_option maxHeartbeats 2000000
namespace Dn
open PySem L2

structure DTs (X : Cx) (ifs : List Expr) (d : DTv) : Prop where pts : PTs X ifs (tT X.K d)
theorem pts_weak {X : Cx} {e : List Expr} {t t' : TT} (h : PTs X e t) (w : ∀ σ H Q, t' σ H Q → t σ H Q) : PTs X e t' := ⟨fun pins s σ H Q I q => h.run pins s σ H Q I (w σ H Q q)⟩
def dYes : DTv := fun _ => some true
theorem dts_nil {X : Cx} : DTs X [] dYes := ⟨pts_weak pts_nil fun σ H Q ⟨f, A, ρ, b, R, hd, q⟩ => by
  cases hd; exact q H (Ex.refl H)⟩
theorem dts_one {X : Cx} {c : Expr} {d : DTv} (h : DT X c d) : DTs X [c] d := ⟨pts_one h.pt⟩

def wipe1 (v : Nat) (ρ : En) : Option En := match ρ[v]? with
  | some .un => some (ρ.set v .un)
  | some (.fz _) => some (ρ.set v .un)
  | _ => none
def wipeE (ρ : En) : List Nat → Option En
  | [] => some ρ
  | v :: vs => (wipeE ρ vs).bind (wipe1 v)
section
variable {K : PySem.W.Frag} {f : Fm} {H H' : Hp} {A : Nat → List Addr} {ρ ρ' : En} {σ : St}
theorem RS.wipe1 (r : RS K f A ρ σ H) {v : Nat} (h : wipe1 v ρ = some ρ') : RS K f A ρ' (σ.set v none) H ∧ A v = [] := by
  unfold Dn.wipe1 at h
  have key : ∀ s, ρ[v]? = some s → ρ' = ρ.set v .un → A v = [] → (∀ l, s ≠ .ox l) → RS K f A ρ' (σ.set v none) H ∧ A v = [] := fun s hs e ha hno => by
    subst e
    refine ⟨?_, ha⟩
    have q := r.setUn (i := v) (v := none) (fun l w => by rw [hs] at w; cases w; exact hno _ rfl)
    rw [dropA_same (by simpa using ha)] at q
    exact q
  split at h
  · rename_i hs
    cases h
    exact key _ hs rfl (r.sl v _ hs) (fun l w => by cases w)
  · rename_i p hs
    cases h
    exact key _ hs rfl (r.sl v _ hs).1 (fun l w => by cases w)
  · cases h
theorem RS.wipe : ∀ {vs : List Nat} {ρ' : En}, RS K f A ρ σ H → wipeE ρ vs = some ρ' → RS K f A ρ' (wipe σ vs) H ∧ ∀ j ∈ vs, A j = []
  | [], _, r, h => by
    cases h
    exact ⟨r, fun j hj => by cases hj⟩
  | v :: vs, ρ', r, h => by
    obtain ⟨ρ1, h1, h2⟩ := Option.bind_eq_some_iff.mp (show (wipeE ρ vs).bind (Dn.wipe1 v) = some ρ' from h)
    obtain ⟨r1, a1⟩ := RS.wipe (vs := vs) r h1
    obtain ⟨r2, a2⟩ := r1.wipe1 h2
    refine ⟨r2, fun j hj => ?_⟩
    rcases List.mem_cons.mp hj with e | hj
    · rw [e]; exact a2
    · exact a1 j hj
theorem wipe_get : ∀ (vs : List Nat) (σ : St) (j : Nat), (wipe σ vs)[j]? = if j ∈ vs ∧ j < σ.length then some none else σ[j]?
  | [], σ, j => by simp [L2.wipe]
  | v :: vs, σ, j => by
    show ((L2.wipe σ vs).set v none)[j]? = _
    by_cases e : v = j
    · subst e
      by_cases hl : v < σ.length
      · rw [List.getElem?_set_self (by rw [wipe_length]; exact hl), if_pos ⟨List.mem_cons_self, hl⟩]
      · rw [List.getElem?_eq_none (by rw [List.length_set, wipe_length]; omega), if_neg (fun w => hl w.2), List.getElem?_eq_none (by omega)]
    · rw [List.getElem?_set_ne e, wipe_get vs σ j]
      have : (j ∈ v :: vs) ↔ j ∈ vs := by
        rw [List.mem_cons]
        constructor
        · rintro (h | h)
          · exact absurd h.symm e
          · exact h
        · exact .inr
      simp only [this]
theorem wipe_same {vs : List Nat} {σ σ2 : St} (hl : σ2.length = σ.length) (h : ∀ j, j ∉ vs → σ2[j]? = (wipe σ vs)[j]?) : wipe σ2 vs = wipe σ vs := by
  apply List.ext_getElem?
  intro j
  rw [wipe_get, hl]
  by_cases hj : j ∈ vs
  · by_cases hk : j < σ.length
    · rw [if_pos ⟨hj, hk⟩, wipe_get, if_pos ⟨hj, hk⟩]
    · rw [if_neg (fun w => hk w.2), List.getElem?_eq_none (by omega), List.getElem?_eq_none (by rw [wipe_length]; omega)]
  · rw [if_neg (fun w => hj w.1)]
    exact h j hj
theorem mask_own {O : Own} {a : Addr} {o : HO} (h : O a) : mask (upd H a o) O = mask H O := by
  funext b
  unfold mask
  by_cases hb : O b
  · simp [hb]
  · simp only [hb, if_false]
    exact upd_ne (fun e => hb (by rw [e]; exact h))
end

/-- the items that a comprehension gives -/
def compD (t : Tg) (tt : DTv) (te : DPv) (ρ : En) : List PV → Option (List PV)
  | [] => some []
  | x :: xs => (tgB t x ρ).bind fun ρ1 => (tt ρ1).bind fun b => if b = true then (te ρ1).bind fun y => (compD t tt te ρ xs).map fun r => y :: r else compD t tt te ρ xs
def dComp (di : DQv) (t : Tg) (vs : List Nat) (tt : DTv) (te : DPv) : DQv := fun ρ => ((di ρ).bind lim).bind fun l => (wipeE ρ vs).bind fun ρw => compD t tt te ρw l
section
variable {X : Cx} {elt tg iter : Expr} {ifs : List Expr} {scope : Scope} {own' : List (Str × Nat)} {pos : Pos} {di : DQv} {t : Tg} {tt : DTv} {te : DPv}
theorem dComp_read {K : PySem.W.Frag} {vs : List Nat} (hsub : ∀ j ∈ tgS t, j ∈ vs) {σ : St} {H : Hp} {Q : VK} (h : tL K (dComp di t vs tt te) σ H Q) : tLc (tIc K di) (tG K (tgB t) (tgS t)) (tT K tt) (tP K te) vs σ H Q := by
  obtain ⟨f, A, ρ, z, R, hd, q⟩ := h
  unfold dComp at hd
  obtain ⟨l, hl, hd⟩ := Option.bind_eq_some_iff.mp hd
  obtain ⟨l', hl', hl⟩ := Option.bind_eq_some_iff.mp hl
  obtain ⟨rfl, hz⟩ := lim_some hl
  obtain ⟨ρw, hw, hz'⟩ := Option.bind_eq_some_iff.mp hd
  refine ⟨f, A, ρ, l, R, hl', fun J H1 e1 W D hD => ?_⟩
  have R1 := R.mono e1
  have hB : f.B D = none := R1.ext.back hD
  have hA : ∀ i, D ∉ A i := fun i w => R1.there (.inr ⟨i, w⟩) hD
  have oD : own (f.aside D) A D := own_aside.mpr (.inr rfl)
  let Wn : Nat → Hp → Prop := fun i H' => i ≤ l.length ∧ ∃ pre rest xs, compD t tt te ρw (l.drop i) = some rest ∧ z = pre ++ rest ∧ pre.length ≤ i ∧ RS K (f.aside D) A ρ σ H' ∧ Ex H1 H' ∧ H' D = some (.lst xs) ∧ DpAll K (mask H' (own (f.aside D) A)) xs pre
  refine ⟨fun i m H' => m = l.length - i ∧ Wn i H', ⟨l.length, rfl, Nat.zero_le _, [], z, [], hz', rfl, Nat.le_refl _, R1.aside hD, Ex.new hD, upd_same, .nil⟩, ?_⟩
  rintro i m H' ⟨rfl, hi, pre, rest, xs, hc, hzz, hpl, RA, eH, hDx, hx⟩
  obtain ⟨wstop, wgo⟩ := W i H' eH
  by_cases hlt : i < l.length
  · right
    have hget : l[i]? = some l[i] := List.getElem?_eq_getElem hlt
    obtain ⟨go, yld⟩ := wgo _ hget
    refine ⟨go, fun H'' => Wn (i + 1) H'', fun H'' w => ⟨l.length - (i + 1), by omega, rfl, w⟩, fun x H2 hy => ?_⟩
    obtain ⟨e2, hdp⟩ := yld x H2 hy
    have RA2 := RA.mono e2
    have hxd : Dp K (mask H2 (own (f.aside D) A)) x l[i] := hdp (own (f.aside D) A) (fun a ha => RA.fresh ha) (mask_to fun a o h1 h2 => ⟨fun w => (by
      rcases own_aside.mp w with w | w
      · exact h1 w
      · subst w; rw [hD] at h2; cases h2), eH a o h2⟩)
    obtain ⟨RW, hnil⟩ := RS.wipe RA2 hw
    rw [List.drop_eq_getElem_cons hlt] at hc
    obtain ⟨ρ1, hb1, hc⟩ := Option.bind_eq_some_iff.mp (show (tgB t l[i] ρw).bind _ = some rest from hc)
    obtain ⟨b, hb, hc⟩ := Option.bind_eq_some_iff.mp hc
    have dA : dropA A (tgS t) = A := dropA_same fun j hj => hnil j (hsub j hj)
    refine ⟨f.aside D, A, ρw, l[i], ρ1, RW, hxd, hb1, fun σ2 R2 k2 => ?_⟩
    rw [dA] at R2
    have hlen : σ2.length = σ.length := by
      have h1 := R2.len
      have h2 := RW.len
      rw [wipe_length] at h2
      have h3 : ρ1.length = ρw.length := by
        have lens : (∀ (t : Tg) (p : PV) (ρ ρ' : En), tgB t p ρ = some ρ' → ρ'.length = ρ.length) := by
          intro t
          exact Tg.rec (motive_1 := fun t => ∀ (p : PV) (ρ ρ' : En), tgB t p ρ = some ρ' → ρ'.length = ρ.length) (motive_2 := fun ts => ∀ (ps : List PV) (ρ ρ' : En), tgBs ts ps ρ = some ρ' → ρ'.length = ρ.length)
            (fun i p ρ ρ' h => by
              obtain ⟨e, _, _⟩ := setS_some (show setS ρ i (.fz p) = some ρ' from h)
              rw [e, List.length_set])
            (fun ts ih p ρ ρ' h => by
              cases p with
              | tuple ps => exact ih ps ρ ρ' h
              | _ => cases h)
            (fun ps ρ ρ' h => by
              cases ps with
              | nil => cases h; rfl
              | cons _ _ => cases h)
            (fun t ts ih1 ih2 ps ρ ρ' h => by
              cases ps with
              | nil => cases h
              | cons p ps =>
                obtain ⟨ρ1, h1, h2⟩ := Option.bind_eq_some_iff.mp (show (tgB t p ρ).bind (fun ρ1 => tgBs ts ps ρ1) = some ρ' from h)
                rw [ih2 ps ρ1 ρ' h2, ih1 p ρ ρ1 h1]) t
        exact lens t _ _ _ hb1
      omega
    refine ⟨wipe_same hlen fun j hj => k2 j fun w => hj (hsub j w), ?_⟩
    refine ⟨f.aside D, A, ρ1, b, R2, hb, fun H3 e3 => ?_⟩
    cases b with
    | false =>
      have hc' : compD t tt te ρw (l.drop (i + 1)) = some rest := by simpa using hc
      show Wn (i + 1) H3
      exact ⟨by omega, pre, rest, xs, hc', hzz, by omega, RA2.mono e3, (eH.trans e2).trans e3, (e2.trans e3) _ _ hDx, dpa_ex (mask_mono (e2.trans e3)) hx⟩
    | true =>
      obtain ⟨y, hy', hc⟩ := Option.bind_eq_some_iff.mp (show (te ρ1).bind _ = some rest by simpa using hc)
      obtain ⟨rest', hr, rfl⟩ := Option.map_eq_some_iff.mp hc
      show tP K te σ2 H3 fun v H4 => ∃ acc, H4 D = some (.lst acc) ∧ acc.length < sizeLine ∧ Wn (i + 1) (upd H4 D (.lst (acc ++ [v])))
      refine ⟨f.aside D, A, ρ1, y, R2.mono e3, hy', fun v H4 e4 rv => ⟨xs, (e2.trans (e3.trans e4)) _ _ hDx, by rw [sizeLine_eq, dpa_length hx]; omega, ?_⟩⟩
      have eall : Ex H' H4 := e2.trans (e3.trans e4)
      refine ⟨by omega, pre ++ [y], rest', xs ++ [v], hr, by rw [hzz, List.append_assoc]; rfl, by rw [List.length_append, List.length_singleton]; omega, (RA.mono eall).asideW hB hA, fun a o h => ?_, upd_same, ?_⟩
      · rw [upd_ne (ne_of_none h hD)]
        exact (eH.trans eall) a o h
      · rw [mask_own oD]
        exact dpa_snoc (dpa_ex (mask_mono eall) hx) rv
  · left
    have ei : i = l.length := by omega
    refine ⟨wstop ei, ?_⟩
    subst ei
    rw [List.drop_length] at hc
    have er : rest = [] := (Option.some.inj (show some [] = some rest from hc)).symm
    subst er
    rw [List.append_nil] at hzz
    subst hzz
    refine q D xs H' (e1.back hD) (e1.trans eH) hDx (dpa_ex (mask_less fun b hb => own_aside.mpr hb) hx)
theorem dl_comp (hc : X.calm = true) (hN : X.N.Nodup) (hi : DC X tg iter di) (ok : BlkOk X.N X.env.scope scope own') (hsub : ∀ j ∈ tgS t, j ∈ own'.map (·.2))
    (hg : ∀ (s : Shared) (H : Hp) (C : Addr) (cl : List (Str × Addr)) (fp : List Addr), DG (X.blk s H scope (compEnvC scope cl C X.env) fp) tg t) (ht : ∀ (s : Shared) (H : Hp) (C : Addr) (cl : List (Str × Addr)) (fp : List Addr), DTs (X.blk s H scope (compEnvC scope cl C X.env) fp) ifs tt)
    (he : ∀ (s : Shared) (H : Hp) (C : Addr) (cl : List (Str × Addr)) (fp : List Addr), DP (X.blk s H scope (compEnvC scope cl C X.env) fp) elt te) (hs : ∀ x, foldedSetIterable iter X.env x = pure x := by intro _; rfl) :
    DL X (.ListComp elt [⟨tg, iter, ifs, 0⟩] scope pos) (dComp di t (own'.map (·.2)) tt te) :=
  ⟨pe_weak (pe_lc hc hN hi.pi ok (fun s H C cl fp => (hg s H C cl fp).pg) (fun s H C cl fp => (ht s H C cl fp).pts) (fun s H C cl fp => (he s H C cl fp).pe) hs) fun σ H Q h => dComp_read hsub h⟩
end
end Dn
end
section
set_option Elab.async false
set_option linter.all false
set_option maxRecDepth 100000
set_option maxHeartbeats 2000000
namespace Dn
open PySem L2

/-! ### calls of what is built in -/
/-- the fact that the name x, called with one or two arguments, does r -/
def Calls1 (X : Cx) (x : Str) (r : List V → Hp → VK → Prop) : Prop := ∀ (e : Expr) (p pos : Pos) (t : TA), PA X [e] t → starEach [e] X.env = (false, eval e X.env) :: starEach [] X.env → PE X (.Call (.Name x p) [e] [] pos) (tCB r t)
def Calls2 (X : Cx) (x : Str) (r : List V → Hp → VK → Prop) : Prop := ∀ (e e2 : Expr) (p pos : Pos) (t : TA), PA X [e, e2] t → starEach [e, e2] X.env = (false, eval e X.env) :: starEach [e2] X.env → (backTo pos (starEach [e2] X.env)).any (·.1) = false → PE X (.Call (.Name x p) [e, e2] [] pos) (tCB r t)
theorem calls1_b {X : Cx} {x : Str} {id : String} {r : List V → Hp → VK → Prop} (hc : CallR X (.builtin id) r) (hg : Gl X x) (hm : X.mg x = none) (hv : bootBuiltins x = some (.builtin id)) (hn : x ≠ "__name__" := by decide) (hdb : (x == ("__debug__" : Str)) = false := by decide) : Calls1 X x r :=
  fun e p pos t ha he => pe_callB hc hg hm hv ha hn hdb he rfl
theorem calls1_t {X : Cx} {x : Str} {id : String} {r : List V → Hp → VK → Prop} (hc : CallR X (.type id) r) (hg : Gl X x) (hm : X.mg x = none) (hv : bootBuiltins x = some (.type id)) (hn : x ≠ "__name__" := by decide) (hdb : (x == ("__debug__" : Str)) = false := by decide) : Calls1 X x r :=
  fun e p pos t ha he => pe_callTy hc hg hm hv ha hn hdb he rfl
theorem calls2_b {X : Cx} {x : Str} {id : String} {r : List V → Hp → VK → Prop} (hc : CallR X (.builtin id) r) (hg : Gl X x) (hm : X.mg x = none) (hv : bootBuiltins x = some (.builtin id)) (hn : x ≠ "__name__" := by decide) (hdb : (x == ("__debug__" : Str)) = false := by decide) : Calls2 X x r :=
  fun e e2 p pos t ha he hpl => pe_callB hc hg hm hv ha hn hdb he hpl
/-- from values, a value -/
def BV (K : PySem.W.Frag) (r : List V → Hp → VK → Prop) (g : List PV → Option PV) : Prop := ∀ (H : Hp) (O : Own) (vs : List V) (ps : List PV) (z : PV) (Q : VK), (∀ a, H a = none → ¬ O a) → DpAll K (mask H O) vs ps → g ps = some z →
  (∀ u H1, Ex H H1 → Dp K (mask H1 O) u z → Q u H1) → r vs H Q
/-- from a sequence, a value -/
def BQ (K : PySem.W.Frag) (r : List V → Hp → VK → Prop) (g : List PV → Option PV) : Prop := ∀ (H : Hp) (O : Own) (a : Addr) (xs : List V) (l : List PV) (z : PV) (Q : VK), (∀ a, H a = none → ¬ O a) → (SqL K H a xs ∨ SqT K H a xs) → DpAll K (mask H O) xs l → g l = some z →
  (∀ u H1, Ex H H1 → Dp K (mask H1 O) u z → Q u H1) → r [.ref a] H Q
def BQl (K : PySem.W.Frag) (r : List V → Hp → VK → Prop) (g : List PV → Option PV) : Prop := ∀ (H : Hp) (O : Own) (a : Addr) (xs : List V) (l : List PV) (z : PV) (Q : VK), (∀ a, H a = none → ¬ O a) → SqL K H a xs → DpAll K (mask H O) xs l → g l = some z →
  (∀ u H1, Ex H H1 → Dp K (mask H1 O) u z → Q u H1) → r [.ref a] H Q
/-- from a sequence, a new list -/
def BL (K : PySem.W.Frag) (r : List V → Hp → VK → Prop) (g : List PV → Option (List PV)) : Prop := ∀ (H : Hp) (O : Own) (a : Addr) (xs : List V) (l : List PV) (z : List PV) (Q : VK), (SqL K H a xs ∨ SqT K H a xs) → DpAll K (mask H O) xs l → g l = some z →
  (∀ p ys, H p = none → DpAll K (mask H O) ys z → Q (.ref p) (upd H p (.lst ys))) → r [.ref a] H Q
def BLl (K : PySem.W.Frag) (r : List V → Hp → VK → Prop) (g : List PV → Option (List PV)) : Prop := ∀ (H : Hp) (O : Own) (a : Addr) (xs : List V) (l : List PV) (z : List PV) (Q : VK), SqL K H a xs → DpAll K (mask H O) xs l → g l = some z →
  (∀ p ys, H p = none → DpAll K (mask H O) ys z → Q (.ref p) (upd H p (.lst ys))) → r [.ref a] H Q
def dG (g : List PV → Option PV) (q : DQv) : DPv := fun ρ => (q ρ).bind g
def dGl (g : List PV → Option (List PV)) (q : DQv) : DQv := fun ρ => (q ρ).bind g
section
variable {X : Cx} {x : Str} {e e2 : Expr} {es : List Expr} {da db : DPv} {qa qb : DQv} {p pos : Pos} {r : List V → Hp → VK → Prop} {g : List PV → Option PV} {gl : List PV → Option (List PV)}
theorem dp_callV1 (hc : Calls1 X x r) (hs : BV X.K r g) (ha : DA X [e] qa) (he : starEach [e] X.env = (false, eval e X.env) :: starEach [] X.env := by rfl) : DP X (.Call (.Name x p) [e] [] pos) (dG g qa) :=
  ⟨pe_weak (hc e p pos _ ha.pa he) fun σ H Q ⟨f, A, ρ, z, R, hd, q⟩ => by
    obtain ⟨l, hl, hz⟩ := Option.bind_eq_some_iff.mp (show (qa ρ).bind g = some z from hd)
    exact ⟨f, A, ρ, l, R, hl, fun vs H1 e1 r1 => hs H1 _ vs l z Q (fun a ha => (R.mono e1).fresh ha) r1 hz fun u H2 e2 r2 => q u H2 (e1.trans e2) r2⟩⟩
theorem dp_callV2 (hc : Calls2 X x r) (hs : BV X.K r g) (ha : DA X [e, e2] qa) (he : starEach [e, e2] X.env = (false, eval e X.env) :: starEach [e2] X.env := by rfl) (hpl : (backTo pos (starEach [e2] X.env)).any (·.1) = false := by rfl) : DP X (.Call (.Name x p) [e, e2] [] pos) (dG g qa) :=
  ⟨pe_weak (hc e e2 p pos _ ha.pa he hpl) fun σ H Q ⟨f, A, ρ, z, R, hd, q⟩ => by
    obtain ⟨l, hl, hz⟩ := Option.bind_eq_some_iff.mp (show (qa ρ).bind g = some z from hd)
    exact ⟨f, A, ρ, l, R, hl, fun vs H1 e1 r1 => hs H1 _ vs l z Q (fun a ha => (R.mono e1).fresh ha) r1 hz fun u H2 e2 r2 => q u H2 (e1.trans e2) r2⟩⟩
theorem dp_callQ (hc : Calls1 X x r) (hs : BQ X.K r g) (ha : DQ X e qa) (he : starEach [e] X.env = (false, eval e X.env) :: starEach [] X.env := by rfl) : DP X (.Call (.Name x p) [e] [] pos) (dG g qa) :=
  ⟨pe_weak (hc e p pos _ (pa_cons ha.pe pa_nil he) he) fun σ H Q ⟨f, A, ρ, z, R, hd, q⟩ => by
    obtain ⟨l, hl, hz⟩ := Option.bind_eq_some_iff.mp (show (qa ρ).bind g = some z from hd)
    exact ⟨f, A, ρ, l, R, hl, fun a xs H1 e1 hq hx => hs H1 _ a xs l z Q (fun a ha => (R.mono e1).fresh ha) hq hx hz fun u H2 e2 r2 => q u H2 (e1.trans e2) r2⟩⟩
theorem dp_callQl (hc : Calls1 X x r) (hs : BQl X.K r g) (ha : DQl X e qa) (he : starEach [e] X.env = (false, eval e X.env) :: starEach [] X.env := by rfl) : DP X (.Call (.Name x p) [e] [] pos) (dG g qa) :=
  ⟨pe_weak (hc e p pos _ (pa_cons ha.pe pa_nil he) he) fun σ H Q ⟨f, A, ρ, z, R, hd, q⟩ => by
    obtain ⟨l, hl, hz⟩ := Option.bind_eq_some_iff.mp (show (qa ρ).bind g = some z from hd)
    exact ⟨f, A, ρ, l, R, hl, fun a xs H1 e1 hq hx => hs H1 _ a xs l z Q (fun a ha => (R.mono e1).fresh ha) hq hx hz fun u H2 e2 r2 => q u H2 (e1.trans e2) r2⟩⟩
theorem dl_callQ (hc : Calls1 X x r) (hs : BL X.K r gl) (ha : DQ X e qa) (he : starEach [e] X.env = (false, eval e X.env) :: starEach [] X.env := by rfl) : DL X (.Call (.Name x p) [e] [] pos) (dGl gl qa) :=
  ⟨pe_weak (hc e p pos _ (pa_cons ha.pe pa_nil he) he) fun σ H Q ⟨f, A, ρ, z, R, hd, q⟩ => by
    obtain ⟨l, hl, hz⟩ := Option.bind_eq_some_iff.mp (show (qa ρ).bind gl = some z from hd)
    exact ⟨f, A, ρ, l, R, hl, fun a xs H1 e1 hq hx => hs H1 _ a xs l z Q hq hx hz fun b ys hb hy => q b ys _ (e1.back hb) (e1.trans (Ex.new hb)) upd_same (apart hb hy)⟩⟩
theorem dl_callQl (hc : Calls1 X x r) (hs : BLl X.K r gl) (ha : DQl X e qa) (he : starEach [e] X.env = (false, eval e X.env) :: starEach [] X.env := by rfl) : DL X (.Call (.Name x p) [e] [] pos) (dGl gl qa) :=
  ⟨pe_weak (hc e p pos _ (pa_cons ha.pe pa_nil he) he) fun σ H Q ⟨f, A, ρ, z, R, hd, q⟩ => by
    obtain ⟨l, hl, hz⟩ := Option.bind_eq_some_iff.mp (show (qa ρ).bind gl = some z from hd)
    exact ⟨f, A, ρ, l, R, hl, fun a xs H1 e1 hq hx => hs H1 _ a xs l z Q hq hx hz fun b ys hb hy => q b ys _ (e1.back hb) (e1.trans (Ex.new hb)) upd_same (apart hb hy)⟩⟩
end

/-! ### the functions themselves -/
def intsP : List PV → Option (List Int)
  | [] => some []
  | .int i :: l => (intsP l).map fun r => i :: r
  | _ :: _ => none
def blsP : List PV → Option (List Bool)
  | [] => some []
  | .bool i :: l => (blsP l).map fun r => i :: r
  | _ :: _ => none
theorem intsP_some : ∀ {l : List PV} {ns : List Int}, intsP l = some ns → l = ns.map .int
  | [], _, h => by cases h; rfl
  | .int i :: l, ns, h => by
    obtain ⟨r, hr, rfl⟩ := Option.map_eq_some_iff.mp (show (intsP l).map _ = some ns from h)
    rw [intsP_some hr]; rfl
  | .none :: _, _, h => by cases h
  | .bool _ :: _, _, h => by cases h
  | .str _ :: _, _, h => by cases h
  | .list _ :: _, _, h => by cases h
  | .tuple _ :: _, _, h => by cases h
  | .dict _ :: _, _, h => by cases h
theorem intsP_map : ∀ (ns : List Int), intsP (ns.map .int) = some ns
  | [] => rfl
  | i :: ns => by show (intsP (ns.map .int)).map _ = _; rw [intsP_map ns]; rfl
theorem blsP_some : ∀ {l : List PV} {ns : List Bool}, blsP l = some ns → l = ns.map .bool
  | [], _, h => by cases h; rfl
  | .bool i :: l, ns, h => by
    obtain ⟨r, hr, rfl⟩ := Option.map_eq_some_iff.mp (show (blsP l).map _ = some ns from h)
    rw [blsP_some hr]; rfl
  | .none :: _, _, h => by cases h
  | .int _ :: _, _, h => by cases h
  | .str _ :: _, _, h => by cases h
  | .list _ :: _, _, h => by cases h
  | .tuple _ :: _, _, h => by cases h
  | .dict _ :: _, _, h => by cases h
theorem blsP_map : ∀ (ns : List Bool), blsP (ns.map .bool) = some ns
  | [] => rfl
  | i :: ns => by show (blsP (ns.map .bool)).map _ = _; rw [blsP_map ns]; rfl
def gLen (l : List PV) : Option PV := some (.int (l.length : Nat))
def gSum (l : List PV) : Option PV := (intsP l).map fun ns => .int ns.sum
def gAny (l : List PV) : Option PV := (blsP l).map fun ns => .bool (ns.any id)
def gAll (l : List PV) : Option PV := (blsP l).map fun ns => .bool (ns.all id)
def gMin (l : List PV) : Option PV := (intsP l).bind fun ns => ns.min?.map .int
def gMax (l : List PV) : Option PV := (intsP l).bind fun ns => ns.max?.map .int
def gTuple (l : List PV) : Option PV := some (.tuple l)
def gSort (l : List PV) : Option (List PV) := (intsP l).map fun ns => (ns.mergeSort (fun a b => decide (a ≤ b))).map .int
def gMin2 : List PV → Option PV
  | [.int i, .int j] => some (.int (if j < i then j else i))
  | _ => none
def gMax2 : List PV → Option PV
  | [.int i, .int j] => some (.int (if j > i then j else i))
  | _ => none
def gAbs : List PV → Option PV
  | [.int i] => some (.int (if i < 0 then -i else i))
  | _ => none
def gInt : List PV → Option PV
  | [.int i] => some (.int i)
  | [.bool k] => some (.int (if k then 1 else 0))
  | _ => none
def gStr : List PV → Option PV
  | [.int i] => if i.natAbs.log2 < 1920 then some (.str (toString i)) else none
  | _ => none
section
variable {X : Cx} {K : PySem.W.Frag}
theorem bq_len : BQ K (fun xs H Q => ∃ p ys, xs = [.ref p] ∧ (SqL K H p ys ∨ SqT K H p ys) ∧ Q (.int ys.length) H) gLen := fun H O a xs l z Q _ hq hx hz q => by
  cases hz
  refine ⟨a, xs, rfl, hq, ?_⟩
  rw [dpa_length hx]
  exact q _ H (Ex.refl H) (.int _)
theorem bq_sum : BQl K (rSum K) gSum := fun H O a xs l z Q _ hq hx hz q => by
  obtain ⟨ns, hn, rfl⟩ := Option.map_eq_some_iff.mp hz
  rw [intsP_some hn] at hx
  rw [dpa_ints hx] at hq
  exact ⟨a, ns, rfl, hq, q _ H (Ex.refl H) (.int _)⟩
theorem bq_any : BQl K (rAny K) gAny := fun H O a xs l z Q _ hq hx hz q => by
  obtain ⟨ns, hn, rfl⟩ := Option.map_eq_some_iff.mp hz
  rw [blsP_some hn] at hx
  rw [dpa_bls hx] at hq
  exact ⟨a, ns, rfl, hq, q _ H (Ex.refl H) (.bl _)⟩
theorem bq_all : BQl K (rAll K) gAll := fun H O a xs l z Q _ hq hx hz q => by
  obtain ⟨ns, hn, rfl⟩ := Option.map_eq_some_iff.mp hz
  rw [blsP_some hn] at hx
  rw [dpa_bls hx] at hq
  exact ⟨a, ns, rfl, hq, q _ H (Ex.refl H) (.bl _)⟩
theorem bq_min : BQl K (rMin K) gMin := fun H O a xs l z Q _ hq hx hz q => by
  obtain ⟨ns, hn, hz⟩ := Option.bind_eq_some_iff.mp hz
  obtain ⟨m, hm, rfl⟩ := Option.map_eq_some_iff.mp hz
  rw [intsP_some hn] at hx
  rw [dpa_ints hx] at hq
  obtain ⟨m1, m2⟩ := List.min?_eq_some_iff.mp hm
  refine ⟨a, ns, rfl, hq, List.length_pos_of_mem m1, fun m' h1 h2 => ?_⟩
  have e : m' = m := Int.le_antisymm (h2 m m1) (m2 m' h1)
  subst e
  exact q _ H (Ex.refl H) (.int _)
theorem bq_max : BQl K (rMax K) gMax := fun H O a xs l z Q _ hq hx hz q => by
  obtain ⟨ns, hn, hz⟩ := Option.bind_eq_some_iff.mp hz
  obtain ⟨m, hm, rfl⟩ := Option.map_eq_some_iff.mp hz
  rw [intsP_some hn] at hx
  rw [dpa_ints hx] at hq
  obtain ⟨m1, m2⟩ := List.max?_eq_some_iff.mp hm
  refine ⟨a, ns, rfl, hq, List.length_pos_of_mem m1, fun m' h1 h2 => ?_⟩
  have e : m' = m := Int.le_antisymm (m2 m' h1) (h2 m m1)
  subst e
  exact q _ H (Ex.refl H) (.int _)
theorem bl_list : BL K (fun xs H Q => ∃ p ys, xs = [.ref p] ∧ (SqL K H p ys ∨ SqT K H p ys) ∧ ∀ l, H l = none → Q (.ref l) (upd H l (.lst ys))) some := fun H O a xs l z Q hq hx hz q => by
  cases hz
  exact ⟨a, xs, rfl, hq, fun p hp => q p xs hp hx⟩
theorem bq_tuple : BQl K (fun xs H Q => ∃ p ys, xs = [.ref p] ∧ ((SqL K H p ys ∧ ∀ l, H l = none → Q (.ref l) (upd H l (.tup ys))) ∨ (SqT K H p ys ∧ Q (.ref p) H))) gTuple := fun H O a xs l z Q hO hq hx hz q => by
  cases hz
  refine ⟨a, xs, rfl, .inl ⟨hq, fun p hp => q _ _ (Ex.new hp) (.tup (st_of (mask_some.mpr ⟨hO p hp, upd_same⟩)) (dpa_ex (mask_mono (Ex.new hp)) hx))⟩⟩
theorem bl_sort : BLl K (rSortedI K) gSort := fun H O a xs l z Q hq hx hz q => by
  obtain ⟨ns, hn, rfl⟩ := Option.map_eq_some_iff.mp hz
  rw [intsP_some hn] at hx
  rw [dpa_ints hx] at hq
  refine ⟨a, ns, rfl, hq, fun ns' p hp ho hn => ?_⟩
  have e : ns' = ns.mergeSort (fun a b => decide (a ≤ b)) := PySem.W.ksm_same (hp.trans (List.mergeSort_perm ns _).symm) ho (by
    have := List.pairwise_mergeSort (le := fun (a b : Int) => decide (a ≤ b)) (fun a b c h1 h2 => by simp at *; omega) (fun a b => by simp; omega) ns
    exact this.imp (fun h => by simpa using h))
  subst e
  exact q p _ hn (dpa_of_ints _)
theorem bv_min2 : BV K (fun xs H Q => ∃ i j, xs = [.int i, .int j] ∧ Q (.int (if j < i then j else i)) H) gMin2 := fun H O vs ps z Q _ hx hz q => by
  match ps, hx, hz with
  | [.int i, .int j], .cons (.int _) (.cons (.int _) .nil), hz =>
    cases hz
    exact ⟨i, j, rfl, q _ H (Ex.refl H) (.int _)⟩
theorem bv_max2 : BV K (fun xs H Q => ∃ i j, xs = [.int i, .int j] ∧ Q (.int (if j > i then j else i)) H) gMax2 := fun H O vs ps z Q _ hx hz q => by
  match ps, hx, hz with
  | [.int i, .int j], .cons (.int _) (.cons (.int _) .nil), hz =>
    cases hz
    exact ⟨i, j, rfl, q _ H (Ex.refl H) (.int _)⟩
theorem bv_abs : BV K (fun xs H Q => ∃ i, xs = [.int i] ∧ Q (.int (if i < 0 then -i else i)) H) gAbs := fun H O vs ps z Q _ hx hz q => by
  match ps, hx, hz with
  | [.int i], .cons (.int _) .nil, hz =>
    cases hz
    exact ⟨i, rfl, q _ H (Ex.refl H) (.int _)⟩
theorem bv_int : BV K (fun xs H Q => (∃ i, xs = [.int i] ∧ Q (.int i) H) ∨ ∃ k, xs = [.bl k] ∧ Q (.int (if k then 1 else 0)) H) gInt := fun H O vs ps z Q _ hx hz q => by
  match ps, hx, hz with
  | [.int i], .cons (.int _) .nil, hz =>
    cases hz
    exact .inl ⟨i, rfl, q _ H (Ex.refl H) (.int _)⟩
  | [.bool i], .cons (.bl _) .nil, hz =>
    cases hz
    exact .inr ⟨i, rfl, q _ H (Ex.refl H) (.int _)⟩
theorem bv_str : BV K (fun xs H Q => ∃ i, xs = [.int i] ∧ i.natAbs.log2 < 1920 ∧ Q (.str (toString i)) H) gStr := fun H O vs ps z Q _ hx hz q => by
  match ps, hx, hz with
  | [.int i], .cons (.int _) .nil, hz =>
    replace hz : (if i.natAbs.log2 < 1920 then some (PyData.str (toString i)) else none) = some z := hz
    split at hz
    · rename_i h
      cases hz
      exact ⟨i, rfl, h, q _ H (Ex.refl H) (.str _)⟩
    · cases hz
end
end Dn
end
section
set_option Elab.async false
set_option linter.all false
set_option maxRecDepth 100000
set_option maxHeartbeats 2000000
namespace Dn
open PySem L2

/-! ### in, not in, index: flat items -/
def flatP : PV → Bool
  | .none => true
  | .bool _ => true
  | .int _ => true
  | .str _ => true
  | _ => false
theorem flat_dp {K : PySem.W.Frag} {F : Hp} {v : V} {p : PV} (h : Dp K F v p) (hp : flatP p = true) : flatV v = true := by
  cases h <;> first | rfl | cases hp
theorem flat_dpa {K : PySem.W.Frag} {F : Hp} : ∀ {vs : List V} {ps : List PV}, DpAll K F vs ps → ps.all flatP = true → vs.all flatV = true
  | _, _, .nil, _ => rfl
  | _, _, .cons h k, hp => by
    rw [List.all_cons, Bool.and_eq_true] at hp
    rw [List.all_cons, flat_dp h hp.1, flat_dpa k hp.2]; rfl
theorem eqv_dp {K : PySem.W.Frag} {F G : Hp} {v w : V} {p q : PV} (h : Dp K F v p) (k : Dp K G w q) (hp : flatP p = true) (hq : flatP q = true) : eqV v w = PyData.eqv p q := by
  cases h <;> cases k <;> first | rfl | cases hp | cases hq | (simp [eqV, PyData.eqv])
theorem any_dpa {K : PySem.W.Frag} {F G : Hp} {w : V} {q : PV} (k : Dp K G w q) (hq : flatP q = true) : ∀ {vs : List V} {ps : List PV}, DpAll K F vs ps → ps.all flatP = true → inV w vs = ps.any fun y => PyData.eqv y q
  | _, _, .nil, _ => rfl
  | _, _, .cons h t, hp => by
    rw [List.all_cons, Bool.and_eq_true] at hp
    have := any_dpa k hq t hp.2
    unfold inV at this ⊢
    rw [List.any_cons, List.any_cons, eqv_dp h k hp.1 hq, this]
def gIn (x : PV) (l : List PV) : Option PV := if flatP x = true ∧ l.all flatP = true then some (.bool (l.any fun y => PyData.eqv y x)) else none
def gNotIn (x : PV) (l : List PV) : Option PV := if flatP x = true ∧ l.all flatP = true then some (.bool (!l.any fun y => PyData.eqv y x)) else none
def dInQ (g : PV → List PV → Option PV) (da : DPv) (qb : DQv) : DPv := fun ρ => (da ρ).bind fun x => (qb ρ).bind fun l => g x l
section
variable {X : Cx} {x : Str} {e a b : Expr} {es : List Expr} {da db : DPv} {qa qb : DQv} {p pos : Pos}
theorem in_read {K : PySem.W.Frag} {σ : St} {H : Hp} {Q : VK} (h : tP K (dInQ gIn da qb) σ H Q) : tOp (rIn K false) (tP K da) (tQ K qb) σ H Q := by
  obtain ⟨f, A, ρ, z, R, hd, q⟩ := h
  obtain ⟨x, hx, hd⟩ := Option.bind_eq_some_iff.mp (show (da ρ).bind _ = some z from hd)
  obtain ⟨l, hl, hz⟩ := Option.bind_eq_some_iff.mp hd
  replace hz : (if flatP x = true ∧ l.all flatP = true then some (PyData.bool (l.any fun y => PyData.eqv y x)) else none) = some z := hz
  split at hz
  · rename_i hf
    cases hz
    refine ⟨f, A, ρ, x, R, hx, fun v H1 e1 r1 => ⟨f, A, ρ, l, R.mono e1, hl, fun a xs H2 e2 hs hxs => ⟨a, xs, rfl, hs, flat_dp r1 hf.1, flat_dpa hxs hf.2, ?_⟩⟩⟩
    rw [any_dpa r1 hf.1 hxs hf.2]
    exact q _ H2 (e1.trans e2) (.bl _)
  · cases hz
theorem notin_read {K : PySem.W.Frag} {σ : St} {H : Hp} {Q : VK} (h : tP K (dInQ gNotIn da qb) σ H Q) : tOp (rIn K true) (tP K da) (tQ K qb) σ H Q := by
  obtain ⟨f, A, ρ, z, R, hd, q⟩ := h
  obtain ⟨x, hx, hd⟩ := Option.bind_eq_some_iff.mp (show (da ρ).bind _ = some z from hd)
  obtain ⟨l, hl, hz⟩ := Option.bind_eq_some_iff.mp hd
  replace hz : (if flatP x = true ∧ l.all flatP = true then some (PyData.bool (!l.any fun y => PyData.eqv y x)) else none) = some z := hz
  split at hz
  · rename_i hf
    cases hz
    refine ⟨f, A, ρ, x, R, hx, fun v H1 e1 r1 => ⟨f, A, ρ, l, R.mono e1, hl, fun a xs H2 e2 hs hxs => ⟨a, xs, rfl, hs, flat_dp r1 hf.1, flat_dpa hxs hf.2, ?_⟩⟩⟩
    show Q (.bl (!inV v xs)) H2
    rw [any_dpa r1 hf.1 hxs hf.2]
    exact q _ H2 (e1.trans e2) (.bl _)
  · cases hz
theorem dp_in (ha : DP X a da) (hb : DQ X b qb) (hm : behindInMarks .In b = false := by rfl) : DP X (.Compare a [.In] [b] pos) (dInQ gIn da qb) := ⟨pe_weak (pe_cmpR op_in_seq ha.pe hb.pe hm) fun σ H Q h => in_read h⟩
theorem dp_notin (ha : DP X a da) (hb : DQ X b qb) (hm : behindInMarks .NotIn b = false := by rfl) : DP X (.Compare a [.NotIn] [b] pos) (dInQ gNotIn da qb) := ⟨pe_weak (pe_cmpR op_notIn_seq ha.pe hb.pe hm) fun σ H Q h => notin_read h⟩
theorem dt_in (ha : DP X a da) (hb : DQ X b qb) (hm : behindInMarks .In b = false := by rfl) : DT X (.Compare a [.In] [b] pos) (dTst (dInQ gIn da qb)) := ⟨pt_weak (pt_cmpR op_in_seq ha.pe hb.pe hm) fun σ H Q h => in_read (tstw h)⟩
theorem dt_notin (ha : DP X a da) (hb : DQ X b qb) (hm : behindInMarks .NotIn b = false := by rfl) : DT X (.Compare a [.NotIn] [b] pos) (dTst (dInQ gNotIn da qb)) := ⟨pt_weak (pt_cmpR op_notIn_seq ha.pe hb.pe hm) fun σ H Q h => notin_read (tstw h)⟩

def gIndex (l : List PV) (x : PV) : Option PV := if flatP x = true ∧ l.all flatP = true then (l.findIdx? fun y => PyData.eqv y x).map fun i => .int (i : Nat) else none
def dIndex (qa : DQv) (db : DPv) : DPv := fun ρ => (qa ρ).bind fun l => (db ρ).bind fun x => gIndex l x
theorem dp_index {apos cpos : Pos} (ha : DQl X a qa) (hb : DP X b db) (he : starEach [b] X.env = (false, eval b X.env) :: starEach [] X.env := by rfl)
    (hbase : attributeBase a "index" X.env (eval a X.env) = eval a X.env := by rfl)
    (hfew : ((backTo cpos (starEach [b] X.env)).all (fun x => !x.1) && (backToKw cpos (keywordEach [] X.env)).all (fun x => x.1.isSome)
      && decide ([b].length + ([] : List Keyword).length + (if ([] : List Keyword).isEmpty then 0 else 1) < 30)) = true := by rfl)
    (hline : (apos.endLine == cpos.line) = true := by rfl) : DP X (.Call (.Attribute a "index" apos) [b] [] cpos) (dIndex qa db) :=
  ⟨pe_weak (pe_bm PySem.F.plainAttrs_list PySem.F.slot_list_index PySem.F.type_list_index mt_index ha.pe (pa_cons hb.pe pa_nil he) hbase hfew hline he rfl) fun σ H Q ⟨f, A, ρ, z, R, hd, q⟩ => by
    obtain ⟨l, hl, hd⟩ := Option.bind_eq_some_iff.mp (show (qa ρ).bind _ = some z from hd)
    obtain ⟨x, hx, hz⟩ := Option.bind_eq_some_iff.mp hd
    replace hz : (if flatP x = true ∧ l.all flatP = true then (l.findIdx? fun y => PyData.eqv y x).map fun i => PyData.int (i : Nat) else none) = some z := hz
    split at hz
    · rename_i hf
      obtain ⟨j, hj, rfl⟩ := Option.map_eq_some_iff.mp hz
      refine ⟨f, A, ρ, l, R, hl, fun a xs H1 e1 hs hxs => ⟨.inl ⟨rfl, xs, hs⟩, f, A, ρ, x, R.mono e1, hx, fun w H2 e2 r2 => ?_⟩⟩
      obtain ⟨hlt, h1, h2⟩ := List.findIdx?_eq_some_iff_getElem.mp hj
      have hx2 := dpa_ex (mask_mono (O := own f A) e2) hxs
      obtain ⟨v, hv, r⟩ := dpa_get hx2 (List.getElem?_eq_getElem hlt)
      have fl : ∀ (m : Nat) (hm : m < l.length), flatP l[m] = true := fun m hm => List.all_eq_true.mp hf.2 _ (List.getElem_mem hm)
      refine ⟨a, xs, w, j, v, rfl, rfl, sl_ex e2 hs, flat_dp r2 hf.1, flat_dpa hx2 hf.2, hv, ?_, fun m z' hm hz' => ?_, q _ H2 (e1.trans e2) (.int _)⟩
      · rw [eqv_dp r r2 (fl j hlt) hf.1]; exact h1
      · have hml : m < l.length := Nat.lt_trans hm hlt
        obtain ⟨v', hv', r'⟩ := dpa_get hx2 (List.getElem?_eq_getElem hml)
        rw [hz'] at hv'
        cases hv'
        rw [eqv_dp r' r2 (fl m hml) hf.1]
        have := h2 m hm
        simpa using this
    · cases hz⟩
/-! ### isinstance -/
def tyN : PV → String
  | .none => "NoneType"
  | .bool _ => "bool"
  | .int _ => "int"
  | .str _ => "str"
  | .list _ => "list"
  | .tuple _ => "tuple"
  | .dict _ => "dict"
theorem tyx_dp {K : PySem.W.Frag} {H : Hp} {O : Own} {v : V} {p : PV} (h : Dp K (mask H O) v p) : TyX K H v (.type (tyN p)) := by
  cases h with
  | non => exact .base .non
  | bl b => exact .base (.bl b)
  | int i => exact .base (.int i)
  | str x => exact .base (.str x)
  | lst h k =>
    rcases sl_ex mask_ex h with h | ⟨o, its, n, hk, hc, _⟩
    · rcases h with h | ⟨o, h⟩
      · exact .base (.lst h)
      · exact .base (.frz h)
    · exact .kList hk hc
  | tup h k =>
    rcases st_ex mask_ex h with h | ⟨o, its, n, hk, hc, _⟩
    · rcases h with h | ⟨o, h⟩
      · exact .base (.tup h)
      · exact .fTuple h
    · exact .kTuple hk hc
def gIsi (T : String) (p : PV) : Option PV := (kitB (tyN p) T).map .bool
def dIsi (T : String) (da : DPv) : DPv := fun ρ => (da ρ).bind (gIsi T)
theorem dp_isi {T : String} {y : Str} {p2 : Pos} (hg : Gl X "isinstance") (hm : X.mg "isinstance" = none) (hg2 : Gl X y) (hm2 : X.mg y = none) (hv2 : bootBuiltins y = some (.type T)) (ha : DP X e da)
    (he : starEach [e, .Name y p2] X.env = (false, eval e X.env) :: starEach [.Name y p2] X.env := by rfl) (hpl : (backTo pos (starEach [.Name y p2] X.env)).any (·.1) = false := by rfl) (he2 : starEach [.Name y p2] X.env = (false, eval (.Name y p2) X.env) :: starEach [] X.env := by rfl)
    (hn : y ≠ "__name__" := by decide) (hdb : (y == ("__debug__" : Str)) = false := by decide) :
    DP X (.Call (.Name "isinstance" p) [e, .Name y p2] [] pos) (dIsi T da) :=
  ⟨pe_weak (pe_callB call_isi hg hm (by decide +kernel) (pa_cons ha.pe (pa_cons (pe_bltn (v := .ty T) hg2 hm2 hv2 rfl hn hdb) pa_nil he2) he) (by decide) (by decide) he hpl) fun σ H Q ⟨f, A, ρ, z, R, hd, q⟩ => by
    obtain ⟨x, hx, hz⟩ := Option.bind_eq_some_iff.mp (show (da ρ).bind (gIsi T) = some z from hd)
    obtain ⟨b, hb, rfl⟩ := Option.map_eq_some_iff.mp (show (kitB (tyN x) T).map _ = some z from hz)
    exact ⟨f, A, ρ, x, R, hx, fun v H1 e1 r1 => ⟨v, .ty T, _, _, b, rfl, .ty T, tyx_dp r1, kit_ty hb, q _ H1 e1 (.bl _)⟩⟩⟩

/-! ### the def's own promise -/
inductive Res where
  | va (p : PV)
  | li (ps : List PV)
def Res.pv : Res → PV
  | .va p => p
  | .li l => .list l
def Res.ls : Res → Option (List PV)
  | .va _ => none
  | .li l => some l
def ResR (K : PySem.W.Frag) (H : Hp) (O : Own) (H' : Hp) : Res → V → Prop
  | .va p, v => Dp K (mask H' O) v p
  | .li l, v => ∃ a xs, v = .ref a ∧ H a = none ∧ H' a = some (.lst xs) ∧ DpAll K (mask H' (fun b => O b ∨ b = a)) xs l
abbrev FD := List PV → Option Res
def SpF (K : PySem.W.Frag) (d : FD) : Sp := fun vs H Q _ => ∃ (O : Own) (ps : List PV) (r : Res), (∀ a, O a → H a ≠ none) ∧ DpAll K (mask H O) vs ps ∧ d ps = some r ∧ ∀ v H', Ex H H' → ResR K H O H' r v → Q v H'
theorem ResR.dp {K : PySem.W.Frag} {H H' : Hp} {O : Own} {r : Res} {v : V} (h : ResR K H O H' r v) (ho : ∀ a, H a = none → ¬ O a) : Dp K (mask H' O) v r.pv := by
  cases r with
  | va p => exact h
  | li l =>
    obtain ⟨a, xs, rfl, hn, ha, hx⟩ := h
    exact fresh_dp (ho a hn) ha hx
def dCall (d : FD) (q : DQv) : DPv := fun ρ => (q ρ).bind fun ps => (d ps).map Res.pv
def dCallL (d : FD) (q : DQv) : DQv := fun ρ => (q ρ).bind fun ps => (d ps).bind Res.ls
section
variable {k : Nat} {fa : Addr} {fd : FuncData} {ps : List Str} {d : FD}
theorem dp_call (F : FnOk X.prog X.w X.K X.mg X.base CX0 k fa fd ps (SpF X.K d)) (hr : Room k X.A) (hg : Gl X x) (hm : X.mg x = some (.ref fa)) (hk : PySem.W.keepIn X.K (.ref fa) = true) (hb : Binds X.K fd ps []) (ha : DA X (e :: es) qa)
    (hdb : (x == ("__debug__" : Str)) = false := by decide) (he : starEach (e :: es) X.env = (false, eval e X.env) :: starEach es X.env := by rfl) (hpl : (backTo pos (starEach es X.env)).any (·.1) = false := by rfl) :
    DP X (.Call (.Name x p) (e :: es) [] pos) (dCall d qa) :=
  ⟨pe_weak (pe_call (E := E0) F hr hg hm hk hb .nil pass0 ha.pa hdb he hpl) fun σ H Q ⟨f, A, ρ, z, R, hd, q⟩ => by
    obtain ⟨l, hl, hz⟩ := Option.bind_eq_some_iff.mp (show (qa ρ).bind _ = some z from hd)
    obtain ⟨r, hr, rfl⟩ := Option.map_eq_some_iff.mp hz
    refine ⟨f, A, ρ, l, R, hl, fun vs H1 e1 r1 => ?_⟩
    show SpF X.K d (vs ++ []) H1 Q E0
    rw [List.append_nil]
    have R1 := R.mono e1
    exact ⟨own f A, l, r, fun a ha => R1.there ha, r1, hr, fun v H' e2 rr => q v H' (e1.trans e2) (rr.dp fun a ha => R1.fresh ha)⟩⟩
theorem dl_call (F : FnOk X.prog X.w X.K X.mg X.base CX0 k fa fd ps (SpF X.K d)) (hr : Room k X.A) (hg : Gl X x) (hm : X.mg x = some (.ref fa)) (hk : PySem.W.keepIn X.K (.ref fa) = true) (hb : Binds X.K fd ps []) (ha : DA X (e :: es) qa)
    (hdb : (x == ("__debug__" : Str)) = false := by decide) (he : starEach (e :: es) X.env = (false, eval e X.env) :: starEach es X.env := by rfl) (hpl : (backTo pos (starEach es X.env)).any (·.1) = false := by rfl) :
    DL X (.Call (.Name x p) (e :: es) [] pos) (dCallL d qa) :=
  ⟨pe_weak (pe_call (E := E0) F hr hg hm hk hb .nil pass0 ha.pa hdb he hpl) fun σ H Q ⟨f, A, ρ, z, R, hd, q⟩ => by
    obtain ⟨l, hl, hz⟩ := Option.bind_eq_some_iff.mp (show (qa ρ).bind _ = some z from hd)
    obtain ⟨r, hr, hz⟩ := Option.bind_eq_some_iff.mp hz
    refine ⟨f, A, ρ, l, R, hl, fun vs H1 e1 r1 => ?_⟩
    show SpF X.K d (vs ++ []) H1 Q E0
    rw [List.append_nil]
    have R1 := R.mono e1
    refine ⟨own f A, l, r, fun a ha => R1.there ha, r1, hr, fun v H' e2 rr => ?_⟩
    cases r with
    | va p => cases hz
    | li l' =>
      cases hz
      obtain ⟨a, xs, rfl, hn, ha, hx⟩ := rr
      exact q a xs H' (e1.back hn) (e1.trans e2) ha hx⟩
end
end
end Dn
end
section
set_option Elab.async false
set_option linter.all false
set_option maxRecDepth 100000
set_option maxHeartbeats 2000000
namespace Dn
open PySem L2

/-- how a statement ends -/
inductive Fl where
  | nx | bk | ct
  | rt (r : Res)
abbrev DSv := En → Option (En × Fl)
def After (K : PySem.W.Frag) (f : Fm) (A : Nat → List Addr) (H : Hp) (D : Ends) (ρ' : En) : Fl → Prop
  | .nx => ∀ σ' H' A', RS K f A' ρ' σ' H' → Ex (mask H (own f A)) (mask H' (own f A')) → D.nx σ' H'
  | .bk => ∀ σ' H' A', RS K f A' ρ' σ' H' → Ex (mask H (own f A)) (mask H' (own f A')) → D.bk σ' H'
  | .ct => ∀ σ' H' A', RS K f A' ρ' σ' H' → Ex (mask H (own f A)) (mask H' (own f A')) → D.ct σ' H'
  | .rt r => ∀ v σ' H' A', RS K f A' ρ' σ' H' → ResR K f.B (fun b => f.O0 b ∨ f.P b) H' r v → D.rt v H'
def tS (K : PySem.W.Frag) (d : DSv) : TS := fun D σ H => ∃ f A ρ ρ' fl, RS K f A ρ σ H ∧ d ρ = some (ρ', fl) ∧ After K f A H D ρ' fl
structure DS (X : Cx) (st : Stmt) (d : DSv) : Prop where ps : PS X st (tS X.K d)
structure DSs (X : Cx) (sts : List Stmt) (d : DSv) : Prop where pss : PSs X sts (tS X.K d)
theorem ps_weak {X : Cx} {e : Stmt} {t t' : TS} (h : PS X e t) (w : ∀ D σ H, t' D σ H → t D σ H) : PS X e t' := ⟨fun pins s σ H D I q => h.run pins s σ H D I (w D σ H q)⟩
theorem pss_weak {X : Cx} {e : List Stmt} {t t' : TS} (h : PSs X e t) (w : ∀ D σ H, t' D σ H → t D σ H) : PSs X e t' := ⟨fun pins s σ H D I q => h.run pins s σ H D I (w D σ H q)⟩
def dSkip : DSv := fun ρ => some (ρ, .nx)
def dSeq (d1 d2 : DSv) : DSv := fun ρ => (d1 ρ).bind fun r => match r.2 with
  | .nx => d2 r.1
  | fl => some (r.1, fl)
theorem After.from {K : PySem.W.Frag} {f : Fm} {A A1 : Nat → List Addr} {H H1 : Hp} {D : Ends} {ρ' : En} {fl : Fl} (e : Ex (mask H (own f A)) (mask H1 (own f A1))) (h : After K f A H D ρ' fl) : After K f A1 H1 D ρ' fl := by
  cases fl with
  | nx => exact fun σ' H' A' r x => h σ' H' A' r (e.trans x)
  | bk => exact fun σ' H' A' r x => h σ' H' A' r (e.trans x)
  | ct => exact fun σ' H' A' r x => h σ' H' A' r (e.trans x)
  | rt r => exact h
section
variable {X : Cx} {st : Stmt} {sts : List Stmt} {d1 d2 : DSv} {e a b c : Expr} {da db : DPv} {qa : DQv} {tc : DTv} {pos : Pos}
theorem dss_nil : DSs X [] dSkip := ⟨pss_weak pss_nil fun D σ H ⟨f, A, ρ, ρ', fl, R, hd, q⟩ => by
  cases hd
  exact q σ H A R (Ex.refl _)⟩
theorem seq_read {K : PySem.W.Frag} {D : Ends} {σ : St} {H : Hp} (h : tS K (dSeq d1 d2) D σ H) : tSeq (tS K d1) (tS K d2) D σ H := by
  obtain ⟨f, A, ρ, ρ', fl, R, hd, q⟩ := h
  obtain ⟨⟨ρ1, fl1⟩, h1, h2⟩ := Option.bind_eq_some_iff.mp (show (d1 ρ).bind _ = some (ρ', fl) from hd)
  refine ⟨f, A, ρ, ρ1, fl1, R, h1, ?_⟩
  cases fl1 with
  | nx => exact fun σ' H' A' r x => ⟨f, A', ρ1, ρ', fl, r, h2, q.from x⟩
  | bk => cases h2; exact q
  | ct => cases h2; exact q
  | rt r => cases h2; exact q
theorem dss_cons (h1 : DS X st d1) (h2 : DSs X sts d2) : DSs X (st :: sts) (dSeq d1 d2) := ⟨pss_weak (pss_cons h1.ps h2.pss) fun D σ H h => seq_read h⟩
theorem dss_one (h1 : DS X st d1) : DSs X [st] d1 := ⟨pss_one h1.ps⟩
theorem ds_pass : DS X (.Pass pos) dSkip := ⟨ps_weak ps_pass fun D σ H ⟨f, A, ρ, ρ', fl, R, hd, q⟩ => by
  cases hd
  exact q σ H A R (Ex.refl _)⟩
def dBreak : DSv := fun ρ => some (ρ, .bk)
def dCont : DSv := fun ρ => some (ρ, .ct)
theorem ds_break : DS X (.Break pos) dBreak := ⟨ps_weak ps_break fun D σ H ⟨f, A, ρ, ρ', fl, R, hd, q⟩ => by
  cases hd
  exact q σ H A R (Ex.refl _)⟩
theorem ds_cont : DS X (.Continue pos) dCont := ⟨ps_weak ps_continue fun D σ H ⟨f, A, ρ, ρ', fl, R, hd, q⟩ => by
  cases hd
  exact q σ H A R (Ex.refl _)⟩

/-! ### forgetting -/
def fg1 (ρ : En) (v : Nat) : En := match ρ[v]? with
  | some (.ox _) => ρ
  | _ => ρ.set v .un
def fgE (ρ : En) : List Nat → En
  | [] => ρ
  | v :: vs => fg1 (fgE ρ vs) v
theorem RS.un1 {K : PySem.W.Frag} {f : Fm} {A : Nat → List Addr} {ρ : En} {σ : St} {H : Hp} (r : RS K f A ρ σ H) (i : Nat) : ∃ A', RS K f A' (fg1 ρ i) σ H ∧ Ex (mask H (own f A)) (mask H (own f A')) := by
  by_cases hox : ∃ (l : List PV), ρ[i]? = some (Sl.ox l)
  · obtain ⟨l, hox⟩ := hox
    have e : fg1 ρ i = ρ := by unfold fg1; rw [hox]
    rw [e]
    exact ⟨A, r, Ex.refl _⟩
  have hx : ∀ (l : List PV), ρ[i]? ≠ some (Sl.ox l) := fun l w => hox ⟨l, w⟩
  have e1 : fg1 ρ i = ρ.set i .un := by
    unfold fg1
    split
    · rename_i l w; exact absurd w (hx l)
    · rfl
  rw [e1]
  have q := r.setUn (i := i) (v := (σ[i]?).join) hx
  have e : σ.set i (σ[i]?).join = σ := by
    apply List.ext_getElem?
    intro j
    by_cases hj : i = j
    · subst hj
      by_cases hl : i < σ.length
      · rw [List.getElem?_set_self hl, List.getElem?_eq_getElem hl]; rfl
      · rw [List.getElem?_eq_none (by rw [List.length_set]; omega), List.getElem?_eq_none (by omega)]
    · rw [List.getElem?_set_ne hj]
  rw [e] at q
  exact ⟨_, q, dropA_ex⟩
theorem RS.fg {K : PySem.W.Frag} {f : Fm} {H : Hp} {σ : St} : ∀ {vs : List Nat} {A : Nat → List Addr} {ρ : En}, RS K f A ρ σ H → ∃ A', RS K f A' (fgE ρ vs) σ H ∧ Ex (mask H (own f A)) (mask H (own f A'))
  | [], A, ρ, r => ⟨A, r, Ex.refl _⟩
  | v :: vs, A, ρ, r => by
    obtain ⟨A1, r1, e1⟩ := RS.fg (vs := vs) r
    obtain ⟨A2, r2, e2⟩ := r1.un1 v
    exact ⟨A2, r2, e1.trans e2⟩
def dFg (vs : List Nat) (d : DSv) : DSv := fun ρ => d (fgE ρ vs)
theorem fg_read {K : PySem.W.Frag} {vs : List Nat} {d : DSv} {D : Ends} {σ : St} {H : Hp} (h : tS K (dFg vs d) D σ H) : tS K d D σ H := by
  obtain ⟨f, A, ρ, ρ', fl, R, hd, q⟩ := h
  obtain ⟨A1, R1, e1⟩ := R.fg (vs := vs)
  exact ⟨f, A1, fgE ρ vs, ρ', fl, R1, hd, q.from e1⟩
theorem dss_fg {vs : List Nat} {d : DSv} (h : DSs X sts d) : DSs X sts (dFg vs d) := ⟨pss_weak h.pss fun D σ H h => fg_read h⟩

/-! ### assignments -/
def dAsg (i : Nat) (da : DPv) : DSv := fun ρ => (da ρ).bind fun p => (setS ρ i (.fz p)).map fun ρ' => (ρ', .nx)
def dAsgO (i : Nat) (qa : DQv) : DSv := fun ρ => (qa ρ).bind fun l => (setS ρ i (.ol l)).map fun ρ' => (ρ', .nx)
theorem asg_read {K : PySem.W.Frag} {i : Nat} {D : Ends} {σ : St} {H : Hp} (h : tS K (dAsg i da) D σ H) : tAsg (tP K da) (gName i) D σ H := by
  obtain ⟨f, A, ρ, ρ', fl, R, hd, q⟩ := h
  obtain ⟨p, hp, hd⟩ := Option.bind_eq_some_iff.mp (show (da ρ).bind _ = some (ρ', fl) from hd)
  obtain ⟨ρ1, h1, e⟩ := Option.map_eq_some_iff.mp hd
  cases e
  obtain ⟨rfl, _, hx⟩ := setS_some h1
  exact ⟨f, A, ρ, p, R, hp, fun v H1 e1 r1 => q _ H1 _ ((R.mono e1).setFz hx r1) ((mask_mono e1).trans dropA_ex)⟩
theorem asgO_read {K : PySem.W.Frag} {i : Nat} {D : Ends} {σ : St} {H : Hp} (h : tS K (dAsgO i qa) D σ H) : tAsg (tL K qa) (gName i) D σ H := by
  obtain ⟨f, A, ρ, ρ', fl, R, hd, q⟩ := h
  obtain ⟨l, hl, hd⟩ := Option.bind_eq_some_iff.mp (show (qa ρ).bind _ = some (ρ', fl) from hd)
  obtain ⟨ρ1, h1, e⟩ := Option.map_eq_some_iff.mp hd
  cases e
  obtain ⟨rfl, hlt, hox⟩ := setS_some h1
  exact ⟨f, A, ρ, l, R, hl, fun a xs H1 hn e1 ha hx => q _ H1 _ (R.setOl e1 hlt hox hn ha hx) (putA_ex e1 hn)⟩
/-- name = value -/
theorem ds_asg {i : Nat} {x : Str} {pos' : Pos} (hN : X.N.Nodup) (hi : X.N[i]? = some x) (hx : Loc X.env.scope x) (he : DP X e da) (hs : swapsWith e (some (.Name x pos')) pos.line X.env = pure false := by rfl) (hf : X.fn x = true ∨ X.env.scope.names.lookup x = some .local := by first | exact .inl rfl | exact .inr rfl | assumption) :
    DS X (.Assign [.Name x pos'] e pos) (dAsg i da) := ⟨ps_weak (ps_set hN hi hx he.pe hs hf) fun D σ H h => asg_read h⟩
theorem ds_asgO {i : Nat} {x : Str} {pos' : Pos} (hN : X.N.Nodup) (hi : X.N[i]? = some x) (hx : Loc X.env.scope x) (he : DL X e qa) (hs : swapsWith e (some (.Name x pos')) pos.line X.env = pure false := by rfl) (hf : X.fn x = true ∨ X.env.scope.names.lookup x = some .local := by first | exact .inl rfl | exact .inr rfl | assumption) :
    DS X (.Assign [.Name x pos'] e pos) (dAsgO i qa) := ⟨ps_weak (ps_set hN hi hx he.pe hs hf) fun D σ H h => asgO_read h⟩
/-- name = [.. for ..] -/
theorem ds_asgOc {i : Nat} {y : Str} {py : Pos} {elt tg iter : Expr} {ifs : List Expr} {scope : Scope} {own' : List (Str × Nat)} {spos : Pos} {di : DQv} {t : Tg} {tt : DTv} {te : DPv} (hc : X.calm = true) (hN : X.N.Nodup) (hy : X.N[i]? = some y) (hyl : X.env.scope.names.lookup y = some .local)
    (hsw : swapsWith (.ListComp elt [⟨tg, iter, ifs, 0⟩] scope pos) (some (.Name y py)) spos.line X.env = pure true) (hi : DC X tg iter di) (ok : BlkOk X.N X.env.scope scope own') (hsub : ∀ j ∈ tgS t, j ∈ own'.map (·.2))
    (hg : ∀ (s : Shared) (H : Hp) (C : Addr) (cl : List (Str × Addr)) (fp : List Addr), DG (X.blk s H scope (compEnvC scope cl C X.env) fp) tg t) (ht : ∀ (s : Shared) (H : Hp) (C : Addr) (cl : List (Str × Addr)) (fp : List Addr), DTs (X.blk s H scope (compEnvC scope cl C X.env) fp) ifs tt)
    (he : ∀ (s : Shared) (H : Hp) (C : Addr) (cl : List (Str × Addr)) (fp : List Addr), DP (X.blk s H scope (compEnvC scope cl C X.env) fp) elt te) (hs : ∀ x, foldedSetIterable iter X.env x = pure x := by intro _; rfl) :
    DS X (.Assign [.Name y py] (.ListComp elt [⟨tg, iter, ifs, 0⟩] scope pos) spos) (dAsgO i (dComp di t (own'.map (·.2)) tt te)) :=
  ⟨ps_weak (ps_setLc hc hN hy hyl hsw hi.pi ok (fun s H C cl fp => (hg s H C cl fp).pg) (fun s H C cl fp => (ht s H C cl fp).pts) (fun s H C cl fp => (he s H C cl fp).pe) hs) fun D σ H h => by
    have q := asgO_read h
    exact dComp_read hsub q⟩
theorem ds_asgFc {i : Nat} {y : Str} {py : Pos} {elt tg iter : Expr} {ifs : List Expr} {scope : Scope} {own' : List (Str × Nat)} {spos : Pos} {di : DQv} {t : Tg} {tt : DTv} {te : DPv} (hc : X.calm = true) (hN : X.N.Nodup) (hy : X.N[i]? = some y) (hyl : X.env.scope.names.lookup y = some .local)
    (hsw : swapsWith (.ListComp elt [⟨tg, iter, ifs, 0⟩] scope pos) (some (.Name y py)) spos.line X.env = pure true) (hi : DC X tg iter di) (ok : BlkOk X.N X.env.scope scope own') (hsub : ∀ j ∈ tgS t, j ∈ own'.map (·.2))
    (hg : ∀ (s : Shared) (H : Hp) (C : Addr) (cl : List (Str × Addr)) (fp : List Addr), DG (X.blk s H scope (compEnvC scope cl C X.env) fp) tg t) (ht : ∀ (s : Shared) (H : Hp) (C : Addr) (cl : List (Str × Addr)) (fp : List Addr), DTs (X.blk s H scope (compEnvC scope cl C X.env) fp) ifs tt)
    (he : ∀ (s : Shared) (H : Hp) (C : Addr) (cl : List (Str × Addr)) (fp : List Addr), DP (X.blk s H scope (compEnvC scope cl C X.env) fp) elt te) (hs : ∀ x, foldedSetIterable iter X.env x = pure x := by intro _; rfl) :
    DS X (.Assign [.Name y py] (.ListComp elt [⟨tg, iter, ifs, 0⟩] scope pos) spos) (dAsg i (dFz (dComp di t (own'.map (·.2)) tt te))) :=
  ⟨ps_weak (ps_setLc hc hN hy hyl hsw hi.pi ok (fun s H C cl fp => (hg s H C cl fp).pg) (fun s H C cl fp => (ht s H C cl fp).pts) (fun s H C cl fp => (he s H C cl fp).pe) hs) fun D σ H ⟨f, A, ρ, ρ', fl, R, hd, q⟩ => by
    obtain ⟨p, hp, hd⟩ := Option.bind_eq_some_iff.mp (show (dFz _ ρ).bind _ = some (ρ', fl) from hd)
    obtain ⟨l, hl, rfl⟩ := Option.map_eq_some_iff.mp (show (dComp di t (own'.map (·.2)) tt te ρ).map .list = some p from hp)
    obtain ⟨ρ1, h1, e⟩ := Option.map_eq_some_iff.mp hd
    cases e
    obtain ⟨rfl, _, hox⟩ := setS_some h1
    exact dComp_read hsub ⟨f, A, ρ, l, R, hl, fun a xs H1 hn e1 ha hx => q _ H1 _ ((R.mono e1).setFz hox (fresh_dp (R.fresh hn) ha hx)) ((mask_mono e1).trans dropA_ex)⟩⟩
/-- a, (b, c) = value -/
def dTgt (t : Tg) (da : DPv) : DSv := fun ρ => (da ρ).bind fun p => (tgB t p ρ).map fun ρ' => (ρ', .nx)
theorem ds_tgt {tg : Expr} {t : Tg} (he : DP X e da) (hg : DG X tg t) (hs : swapsWithSole [tg] e pos.line X.env = pure false := by rfl) (hw : swappedStores [tg] e X.env = pure none := by rfl)
    (h1 : (assignEach [tg] X.env).map (·.2) = [assign tg X.env] := by rfl) : DS X (.Assign [tg] e pos) (dTgt t da) :=
  ⟨ps_weak (ps_asg he.pe hg.pg hs hw h1) fun D σ H ⟨f, A, ρ, ρ', fl, R, hd, q⟩ => by
    obtain ⟨p, hp, hd⟩ := Option.bind_eq_some_iff.mp (show (da ρ).bind _ = some (ρ', fl) from hd)
    obtain ⟨ρ1, h1, e⟩ := Option.map_eq_some_iff.mp hd
    cases e
    exact ⟨f, A, ρ, p, R, hp, fun v H1 e1 r1 => ⟨f, A, ρ, p, _, R.mono e1, r1, h1, fun σ' R' _ => q _ H1 _ R' ((mask_mono e1).trans dropA_ex)⟩⟩⟩
/-- a, b = x, y -/
def dPar (i j : Nat) (qa : DQv) : DSv := fun ρ => (qa ρ).bind fun l => match l with
  | [p, q] => (setS ρ i (.fz p)).bind fun ρ1 => (setS ρ1 j (.fz q)).map fun ρ2 => (ρ2, .nx)
  | _ => none
theorem ds_par {i j : Nat} {x y : Str} {px py pt : Pos} {kt k2 pt2} (hc : X.calm = true) (hN : X.N.Nodup) (hi : X.N[i]? = some x) (hj : X.N[j]? = some y) (hij : i ≠ j)
    (hx : X.env.scope.names.lookup x = some .local) (hy : X.env.scope.names.lookup y = some .local) (ha : DA X [a, b] qa)
    (hw : swappedStores [.Tuple [.Name x px, .Name y py] kt pt] (.Tuple [a, b] k2 pt2) X.env = pure (some [x, y]))
    (hs : swapsWithSole [.Tuple [.Name x px, .Name y py] kt pt] (.Tuple [a, b] k2 pt2) pos.line X.env = pure false := by rfl) :
    DS X (.Assign [.Tuple [.Name x px, .Name y py] kt pt] (.Tuple [a, b] k2 pt2) pos) (dPar i j qa) :=
  ⟨ps_weak (ps_par hc hN hi hj hij hx hy ha.pa hw hs) fun D σ H ⟨f, A, ρ, ρ', fl, R, hd, q⟩ => by
    obtain ⟨l, hl, hd⟩ := Option.bind_eq_some_iff.mp (show (qa ρ).bind _ = some (ρ', fl) from hd)
    refine ⟨f, A, ρ, l, R, hl, fun vs H1 e1 r1 => ?_⟩
    match l, hd, r1 with
    | [p, p'], hd, .cons r1 (.cons r2 .nil) =>
      obtain ⟨ρ1, h1, hd⟩ := Option.bind_eq_some_iff.mp (show (setS ρ i (.fz p)).bind _ = some (ρ', fl) from hd)
      obtain ⟨ρ2, h2, e⟩ := Option.map_eq_some_iff.mp hd
      cases e
      obtain ⟨rfl, _, hx1⟩ := setS_some h1
      obtain ⟨rfl, _, hx2⟩ := setS_some h2
      have R1 := (R.mono e1).setFz (i := i) hx1 r1
      have R2 := R1.setFz (i := j) hx2 (dp_ex dropA_ex r2)
      exact ⟨_, _, rfl, q _ H1 _ R2 ((mask_mono e1).trans (dropA_ex.trans dropA_ex))⟩⟩
/-- name op= value (ints) -/
def dAug (i : Nat) (g : Int → Int → Int) (da : DPv) : DSv := fun ρ => (dVar i ρ).bind fun x => (asInt x).bind fun m => (da ρ).bind fun y => (asInt y).bind fun n => (setS ρ i (.fz (.int (g m n)))).map fun ρ' => (ρ', .nx)
theorem ds_aug {i : Nat} {x : Str} {op : Operator} {g : Int → Int → Int} {pos' : Pos} (hN : X.N.Nodup) (hi : X.N[i]? = some x) (hx : Loc X.env.scope x) (he : DP X e da) (ho : PIp X op (ipI g)) (hf : X.fn x = true ∨ X.env.scope.names.lookup x = some .local := by first | exact .inl rfl | exact .inr rfl | assumption) :
    DS X (.AugAssign (.Name x pos') op e pos) (dAug i g da) :=
  ⟨ps_weak (ps_aug hN hi hx he.pe ho hf) fun D σ H ⟨f, A, ρ, ρ', fl, R, hd, q⟩ => by
    obtain ⟨x, hx, hd⟩ := Option.bind_eq_some_iff.mp (show (dVar i ρ).bind _ = some (ρ', fl) from hd)
    obtain ⟨m, hm, hd⟩ := Option.bind_eq_some_iff.mp hd
    obtain ⟨y, hy, hd⟩ := Option.bind_eq_some_iff.mp hd
    obtain ⟨n, hn, hd⟩ := Option.bind_eq_some_iff.mp hd
    obtain ⟨ρ1, h1, e⟩ := Option.map_eq_some_iff.mp hd
    cases e
    obtain ⟨rfl, _, hox⟩ := setS_some h1
    unfold dVar at hx
    split at hx
    · rename_i p' hp
      cases hx
      obtain ⟨_, v, h2, h3⟩ := R.sl i _ hp
      cases as_int h3 hm
      refine ⟨_, h2, f, A, ρ, y, R, hy, fun w H1 e1 r1 => ?_⟩
      cases as_int r1 hn
      exact ⟨m, n, rfl, rfl, q _ H1 _ ((R.mono e1).setFz hox (.int _)) ((mask_mono e1).trans dropA_ex)⟩
    · cases hx⟩
end
end Dn
end
section
set_option Elab.async false
set_option linter.all false
set_option maxRecDepth 100000
set_option maxHeartbeats 2000000
namespace Dn
open PySem L2

/-! ### lists that are written -/
section
variable {K : PySem.W.Frag} {f : Fm} {H : Hp} {A : Nat → List Addr} {ρ : En} {σ : St}
/-- one owned list written; the slots that do not own it stay -/
theorem RS.write (r : RS K f A ρ σ H) {i : Nat} {a : Addr} {o : HO} {s : Sl} (ha : a ∈ A i) (hi : i < ρ.length) (hp : ∀ (l : List PV), ρ[i]? = some (Sl.ox l) → ∃ l', s = .ox l') (hs : SlR K f (upd H a o) (mask H (own f A)) i s σ[i]? (A i)) : RS K f A (ρ.set i s) σ (upd H a o) := by
  have oa : own f A a := .inr ⟨i, ha⟩
  have hm : mask (upd H a o) (own f A) = mask H (own f A) := mask_own oa
  refine ⟨by rw [List.length_set]; exact r.len, fun b u h => ?_, fun b h => ?_, r.new, r.nd, r.dis, fun j t ht => ?_, fun j h => r.out j (by rw [List.length_set] at h; exact h), r.zi, fun b h => ?_⟩
  · rw [upd_ne (ne_of_none h (r.new i a ha).1)]
    exact r.ext b u h
  · by_cases q : b = a
    · subst q; rw [upd_same]; exact fun q => by cases q
    · rw [upd_ne q]; exact r.old b h
  · rw [hm]
    by_cases hj : j = i
    · subst hj
      rw [List.getElem?_set_self hi] at ht
      cases ht
      exact hs
    · rw [List.getElem?_set_ne (Ne.symm hj)] at ht
      refine (r.sl j t ht).stay (fun b hb u q => ?_) (Ex.refl _)
      have : b ≠ a := fun e => hj (r.dis j i b hb (by rw [e]; exact ha))
      rw [upd_ne this]
      exact q
  · obtain ⟨j, l, hj, hy⟩ := r.pk b h
    by_cases e : i = j
    · subst e
      obtain ⟨l', rfl⟩ := hp l hj
      exact ⟨i, l', List.getElem?_set_self hi, hy⟩
    · exact ⟨j, l, by rw [List.getElem?_set_ne e]; exact hj, hy⟩
theorem mask_wr {a : Addr} {o : HO} (h : own f A a) : Ex (mask H (own f A)) (mask (upd H a o) (own f A)) := by
  rw [mask_own h]; exact Ex.refl _
/-- the list that a slot owns -/
def ownL (ρ : En) (i : Nat) : Option (List PV) := match ρ[i]? with
  | some (.ol l) => some l
  | some (.ox l) => some l
  | _ => none
/-- .. changed -/
def putL (ρ : En) (i : Nat) (l : List PV) : En := match ρ[i]? with
  | some (.ox _) => ρ.set i (.ox l)
  | _ => ρ.set i (.ol l)
theorem RS.ownL (r : RS K f A ρ σ H) {i : Nat} {l : List PV} (h : Dn.ownL ρ i = some l) : ∃ a xs, σ[i]? = some (some (.ref a)) ∧ H a = some (.lst xs) ∧ DpAll K (mask H (own f A)) xs l ∧ a ∈ A i ∧
    ∀ xs' l' H1, Ex H H1 → DpAll K (mask H1 (own f A)) xs' l' → RS K f A (putL ρ i l') σ (upd H1 a (.lst xs')) := by
  unfold Dn.ownL at h
  split at h
  · rename_i l' hl
    cases h
    obtain ⟨a, xs, h1, h2, h3, h4⟩ := r.sl i _ hl
    have ha : a ∈ A i := by rw [h1]; exact List.mem_singleton_self a
    refine ⟨a, xs, h2, h3, h4, ha, fun xs' l' H1 e1 hx => ?_⟩
    have e : putL ρ i l' = ρ.set i (.ol l') := by unfold putL; rw [hl]
    rw [e]
    exact (r.mono e1).write ha (List.getElem?_eq_some_iff.mp hl).1 (fun l w => by rw [hl] at w; cases w) ⟨a, xs', h1, h2, upd_same, hx⟩
  · rename_i l' hl
    cases h
    obtain ⟨b, xs, h1, hy, h2, h3, h4⟩ := r.sl i _ hl
    have ha : b ∈ A i := by rw [h1]; exact List.mem_singleton_self b
    refine ⟨b, xs, h2, h3, h4, ha, fun xs' l' H1 e1 hx => ?_⟩
    have e : putL ρ i l' = ρ.set i (.ox l') := by unfold putL; rw [hl]
    rw [e]
    exact (r.mono e1).write ha (List.getElem?_eq_some_iff.mp hl).1 (fun l w => by rw [hl] at w; cases w; exact ⟨_, rfl⟩) ⟨b, xs', h1, hy, h2, upd_same, hx⟩
  · cases h
end
section
variable {X : Cx} {e a b c : Expr} {da db : DPv} {qa : DQv} {tc : DTv} {pos : Pos}
/-- x.append(e) -/
def dApp (i : Nat) (da : DPv) : DSv := fun ρ => (ownL ρ i).bind fun l => (da ρ).bind fun p => if l.length < 16777216 then some (putL ρ i (l ++ [p]), .nx) else none
theorem ds_append {i : Nat} {apos cpos : Pos} (ho : PE X a (tVar i)) (he : DP X b da) (hst : starEach [b] X.env = (false, eval b X.env) :: starEach [] X.env := by rfl)
    (hbase : attributeBase a "append" X.env (eval a X.env) = eval a X.env := by rfl)
    (hfew : ((backTo cpos (starEach [b] X.env)).all (fun x => !x.1) && (backToKw cpos (keywordEach [] X.env)).all (fun x => x.1.isSome)
      && decide ([b].length + ([] : List Keyword).length + (if ([] : List Keyword).isEmpty then 0 else 1) < 30)) = true := by rfl)
    (hline : (apos.endLine == cpos.line) = true := by rfl) (hs : swapsWith (.Call (.Attribute a "append" apos) [b] [] cpos) none pos.line X.env = pure false := by rfl) :
    DS X (.Expr (.Call (.Attribute a "append" apos) [b] [] cpos) pos) (dApp i da) :=
  ⟨ps_weak (ps_expr (pe_bm PySem.F.plainAttrs_list PySem.F.slot_list_append PySem.F.type_list_append mt_append ho (pa_cons he.pe pa_nil hst) hbase hfew hline hst rfl) hs) fun D σ H ⟨f, A, ρ, ρ', fl, R, hd, q⟩ => by
    obtain ⟨l, hl, hd⟩ := Option.bind_eq_some_iff.mp (show (ownL ρ i).bind _ = some (ρ', fl) from hd)
    obtain ⟨p, hp, hd⟩ := Option.bind_eq_some_iff.mp hd
    split at hd
    · rename_i hlt
      cases hd
      obtain ⟨a, xs, h1, h2, h3, h4, wr⟩ := R.ownL hl
      refine ⟨.ref a, h1, .inl ⟨rfl, xs, sl_of h2⟩, f, A, ρ, p, R, hp, fun v H1 e1 r1 => ⟨a, xs, v, rfl, rfl, e1 _ _ h2, by rw [sizeLine_eq, dpa_length h3]; exact hlt, ?_⟩⟩
      exact q _ _ A (wr _ _ H1 e1 (dpa_snoc (dpa_ex (mask_mono e1) h3) r1)) ((mask_mono e1).trans (mask_wr (.inr ⟨i, h4⟩)))
    · cases hd⟩
/-- x[j] = e -/
def dSetIx (i : Nat) (dj da : DPv) : DSv := fun ρ => (da ρ).bind fun p => (dj ρ).bind fun y => (asInt y).bind fun k => (ownL ρ i).bind fun l => (ixN l.length k).map fun j => (putL ρ i (l.set j p), .nx)
theorem ds_setIx {i : Nat} {spos : Pos} (ho : PE X a (tVar i)) (hj : DP X b db) (he : DP X e da)
    (ha : ∀ v, assign (.Subscript a b spos) X.env v = (do
      let ov ← holding [v] (eval a X.env)
      let iv ← holding [v, ov] (eval b X.env)
      standAt spos
      holding [v, ov, iv] (setItem ov iv v)
      release [v, ov, iv] []) := by intro _; rfl)
    (hs : swapsWithSole [.Subscript a b spos] e pos.line X.env = pure false := by rfl) (hw : swappedStores [.Subscript a b spos] e X.env = pure none := by rfl)
    (h1 : (assignEach [.Subscript a b spos] X.env).map (·.2) = [assign (.Subscript a b spos) X.env] := by rfl) : DS X (.Assign [.Subscript a b spos] e pos) (dSetIx i db da) :=
  ⟨ps_weak (ps_asg he.pe (pg_sub ho hj.pe set_list ha) hs hw h1) fun D σ H ⟨f, A, ρ, ρ', fl, R, hd, q⟩ => by
    obtain ⟨p, hp, hd⟩ := Option.bind_eq_some_iff.mp (show (da ρ).bind _ = some (ρ', fl) from hd)
    obtain ⟨y, hy, hd⟩ := Option.bind_eq_some_iff.mp hd
    obtain ⟨k, hk, hd⟩ := Option.bind_eq_some_iff.mp hd
    obtain ⟨l, hl, hd⟩ := Option.bind_eq_some_iff.mp hd
    obtain ⟨j, hj, e⟩ := Option.map_eq_some_iff.mp hd
    cases e
    obtain ⟨a, xs, h1, h2, h3, h4, wr⟩ := R.ownL hl
    refine ⟨f, A, ρ, p, R, hp, fun v H1 e1 r1 => ⟨.ref a, h1, f, A, ρ, y, R.mono e1, hy, fun w H2 e2 r2 => ?_⟩⟩
    cases as_int r2 hk
    have ee := e1.trans e2
    refine ⟨a, xs, k, j, rfl, rfl, ee _ _ h2, by rw [dpa_length h3]; exact hj, ?_⟩
    exact q _ _ A (wr _ _ H2 ee (dpa_set j (dpa_ex (mask_mono ee) h3) (dp_ex (mask_mono e2) r1))) ((mask_mono ee).trans (mask_wr (.inr ⟨i, h4⟩)))⟩
theorem pget_list : PGet X (rIxL X.K) := by
  intro pins s σ H x y v u Q I rx ry h
  obtain ⟨p, xs, i, z, rfl, rfl, hq, he, q⟩ := h
  cases rx
  obtain ⟨t, rfl⟩ := ry
  obtain ⟨its, r, pl, hz⟩ := I.list hq
  obtain ⟨j, h1, h2, h3, h4, h5⟩ := atI_get he
  obtain ⟨w, ew, rw'⟩ := r.get h2
  have hl := r.length
  have hn := line63
  have fin : EP X pins σ Q w s := ⟨z, H, I, rw', q⟩
  by_cases h0 : 0 ≤ i
  · have hj : i.toNat = j := by
      rw [seqIndex_of h0 h5] at h1
      exact Option.some.inj h1
    exact wpAny_getItem_list pl.isList h0 (by omega) (x := w) (by rw [hj]; simpa using ew) fin
  · have hj : (i + (its.toArray.size : Int)).toNat = j := by
      rw [seqIndex_neg (by omega) h4] at h1
      rw [List.size_toArray, ← hl]
      exact Option.some.inj h1
    exact wpAny_getItem_list_neg pl.isList (by omega) (by rw [List.size_toArray] <;> omega) (by omega) (x := w) (by rw [hj]; simpa using ew) fin
/-- x[j] op= e (ints) -/
def dAugIx (i : Nat) (g : Int → Int → Int) (dj da : DPv) : DSv := fun ρ => (dj ρ).bind fun y => (asInt y).bind fun k => (ownL ρ i).bind fun l => (ixN l.length k).bind fun j => (l[j]?).bind fun x => (asInt x).bind fun m => (da ρ).bind fun z => (asInt z).map fun n => (putL ρ i (l.set j (.int (g m n))), .nx)
theorem ds_augIx {i : Nat} {op : Operator} {g : Int → Int → Int} {spos : Pos} (ho : PE X a (tVar i)) (hj : DP X b db) (he : DP X e da) (hp : PIp X op (ipI g))
    (ha : ∀ ov iv new, augStore b ov iv new = (do holding [new, ov, iv] (setItem ov iv new); release [new, ov, iv] []; pure .next) := by intros; rfl) : DS X (.AugAssign (.Subscript a b spos) op e pos) (dAugIx i g db da) :=
  ⟨ps_weak (ps_augS ho hj.pe pget_list he.pe hp set_list ha) fun D σ H ⟨f, A, ρ, ρ', fl, R, hd, q⟩ => by
    obtain ⟨y, hy, hd⟩ := Option.bind_eq_some_iff.mp (show (db ρ).bind _ = some (ρ', fl) from hd)
    obtain ⟨k, hk, hd⟩ := Option.bind_eq_some_iff.mp hd
    obtain ⟨l, hl, hd⟩ := Option.bind_eq_some_iff.mp hd
    obtain ⟨j, hj, hd⟩ := Option.bind_eq_some_iff.mp hd
    obtain ⟨x, hx, hd⟩ := Option.bind_eq_some_iff.mp hd
    obtain ⟨m, hm, hd⟩ := Option.bind_eq_some_iff.mp hd
    obtain ⟨z, hz, hd⟩ := Option.bind_eq_some_iff.mp hd
    obtain ⟨n, hn, e⟩ := Option.map_eq_some_iff.mp hd
    cases e
    obtain ⟨a, xs, h1, h2, h3, h4, wr⟩ := R.ownL hl
    refine ⟨.ref a, h1, f, A, ρ, y, R, hy, fun w H1 e1 r1 => ?_⟩
    cases as_int r1 hk
    obtain ⟨v, hv, rv⟩ := dpa_get h3 hx
    cases as_int rv hm
    refine ⟨a, xs, k, .int m, rfl, rfl, sl_of (e1 _ _ h2), ?_, f, A, ρ, z, R.mono e1, hz, fun u H2 e2 r2 => ?_⟩
    · unfold atI
      rw [dpa_length h3, hj]
      exact hv
    · cases as_int r2 hn
      have ee := e1.trans e2
      refine ⟨m, n, rfl, rfl, a, xs, k, j, rfl, rfl, ee _ _ h2, by rw [dpa_length h3]; exact hj, ?_⟩
      exact q _ _ A (wr _ _ H2 ee (dpa_set j (dpa_ex (mask_mono ee) h3) (.int _))) ((mask_mono ee).trans (mask_wr (.inr ⟨i, h4⟩)))⟩

/-! ### if, return -/
def dIfS (tc : DTv) (d1 d2 : DSv) : DSv := fun ρ => (tc ρ).bind fun k => if k = true then d1 ρ else d2 ρ
theorem ds_if {s1 s2 : List Stmt} {d1 d2 : DSv} (hc : DT X c tc) (h1 : DSs X s1 d1) (h2 : DSs X s2 d2) : DS X (.If c s1 s2 pos) (dIfS tc d1 d2) :=
  ⟨ps_weak (ps_if hc.pt h1.pss h2.pss) fun D σ H ⟨f, A, ρ, ρ', fl, R, hd, q⟩ => by
    obtain ⟨k, hk, hd⟩ := Option.bind_eq_some_iff.mp (show (tc ρ).bind _ = some (ρ', fl) from hd)
    refine ⟨f, A, ρ, k, R, hk, fun H1 e1 => ?_⟩
    cases k with
    | true => exact ⟨f, A, ρ, ρ', fl, R.mono e1, by simpa using hd, q.from (mask_mono e1)⟩
    | false => exact ⟨f, A, ρ, ρ', fl, R.mono e1, by simpa using hd, q.from (mask_mono e1)⟩⟩
theorem ownO0 {K : PySem.W.Frag} {f : Fm} {A : Nat → List Addr} {ρ : En} {σ : St} {H : Hp} (R : RS K f A ρ σ H) {a : Addr} (h : f.O0 a ∨ f.P a) : own f A a := h.elim .inl R.pown
def dRet (da : DPv) : DSv := fun ρ => (da ρ).map fun p => (ρ, .rt (.va p))
theorem ds_ret (he : DP X e da) : DS X (.Return (some e) pos) (dRet da) :=
  ⟨ps_weak (ps_ret he.pe) fun D σ H ⟨f, A, ρ, ρ', fl, R, hd, q⟩ => by
    obtain ⟨p, hp, e⟩ := Option.map_eq_some_iff.mp (show (da ρ).map _ = some (ρ', fl) from hd)
    cases e
    exact ⟨f, A, _, p, R, hp, fun v H1 e1 r1 => q v σ H1 A (R.mono e1) (dp_ex (mask_less fun a h => ownO0 R h) r1)⟩⟩
def dRetL (qa : DQv) : DSv := fun ρ => (qa ρ).map fun p => (ρ, .rt (.li p))
theorem ds_retL (he : DL X e qa) : DS X (.Return (some e) pos) (dRetL qa) :=
  ⟨ps_weak (ps_ret he.pe) fun D σ H ⟨f, A, ρ, ρ', fl, R, hd, q⟩ => by
    obtain ⟨l, hl, e⟩ := Option.map_eq_some_iff.mp (show (qa ρ).map _ = some (ρ', fl) from hd)
    cases e
    exact ⟨f, A, _, l, R, hl, fun a xs H1 hn e1 ha hx => q _ σ H1 A (R.mono e1) ⟨a, xs, rfl, R.ext.back hn, ha, dpa_ex (mask_less fun b h => h.elim (fun w => .inl (ownO0 R w)) .inr) hx⟩⟩⟩
/-- a list of one's own handed back -/
def dRetO (i : Nat) : DSv := fun ρ => match ρ[i]? with
  | some (.ol l) => some (ρ, .rt (.li l))
  | _ => none
theorem ds_retO {i : Nat} (ho : PE X e (tVar i)) : DS X (.Return (some e) pos) (dRetO i) :=
  ⟨ps_weak (ps_ret ho) fun D σ H ⟨f, A, ρ, ρ', fl, R, hd, q⟩ => by
    unfold dRetO at hd
    split at hd
    · rename_i l hl
      cases hd
      obtain ⟨a, xs, h1, h2, h3, h4⟩ := R.sl i _ hl
      have ha : a ∈ A i := by rw [h1]; exact List.mem_singleton_self a
      exact ⟨.ref a, h2, q _ σ H A R ⟨a, xs, rfl, (R.new i a ha).1, h3, dpa_ex (mask_less fun b h => h.elim (ownO0 R) fun e => by rw [e]; exact .inr ⟨i, ha⟩) h4⟩⟩
    · cases hd⟩
/-- a list of lists of one's own handed back -/
theorem dpa_ls {K : PySem.W.Frag} {H F G : Hp} {ls : List (List PV)} {bs : List Addr} (h : LsR K H F ls bs) (e : ∀ b ∈ bs, ∀ o, H b = some o → G b = some o) (f : Ex F G) : DpAll K G (bs.map .ref) (ls.map .list) := by
  induction h with
  | nil => exact .nil
  | cons x y z ih => exact .cons (.lst (sl_of (e _ List.mem_cons_self _ x)) (dpa_ex f y)) (ih fun b hb => e b (List.mem_cons_of_mem _ hb))
def dRetOO (i : Nat) : DSv := fun ρ => match ρ[i]? with
  | some (.oll ls) => some (ρ, .rt (.li (ls.map .list)))
  | _ => none
theorem ds_retOO {i : Nat} (ho : PE X e (tVar i)) : DS X (.Return (some e) pos) (dRetOO i) :=
  ⟨ps_weak (ps_ret ho) fun D σ H ⟨f, A, ρ, ρ', fl, R, hd, q⟩ => by
    unfold dRetOO at hd
    split at hd
    · rename_i ls hl
      cases hd
      obtain ⟨a, bs, h1, h2, h3, h4⟩ := R.sl i _ hl
      have ha : a ∈ A i := by rw [h1]; exact List.mem_cons_self
      have nd : (a :: bs).Nodup := by rw [← h1]; exact R.nd i
      have hab : ∀ b ∈ bs, b ≠ a := fun b hb e => (List.nodup_cons.mp nd).1 (by rw [← e]; exact hb)
      refine ⟨.ref a, h2, q _ σ H A R ⟨a, bs.map .ref, rfl, (R.new i a ha).1, h3, dpa_ls h4 (fun b hb o ho => mask_some.mpr ⟨?_, ho⟩) (mask_less fun b h => h.elim (ownO0 R) fun e => by rw [e]; exact .inr ⟨i, ha⟩)⟩⟩
      rintro ((w | w) | w)
      · exact (R.new i b (by rw [h1]; exact List.mem_cons_of_mem _ hb)).2 w
      · obtain ⟨j, l, hj, hy⟩ := R.pk b w
        obtain ⟨b', ys, hA, hb', _⟩ := R.sl j _ hj
        have eb : b' = b := Option.some.inj (hb'.symm.trans hy)
        have e := R.dis i j b (by rw [h1]; exact List.mem_cons_of_mem _ hb) (by rw [hA, eb]; exact List.mem_singleton_self _)
        subst e
        rw [hl] at hj; cases hj
      · exact hab b hb w
    · cases hd⟩
def dRetN : DSv := fun ρ => some (ρ, .rt (.va .none))
theorem ds_retN : DS X (.Return none pos) dRetN := ⟨ps_weak ps_retN fun D σ H ⟨f, A, ρ, ρ', fl, R, hd, q⟩ => by
  cases hd
  exact q _ σ H A R .non⟩
end
end Dn
end
section
set_option Elab.async false
set_option linter.all false
set_option maxRecDepth 100000
set_option maxHeartbeats 2000000
namespace Dn
open PySem L2

/-! ### for -/
def forD (vs : List Nat) (t : Tg) (db : DSv) : List PV → DSv
  | [], ρ => some (fgE ρ vs, .nx)
  | x :: xs, ρ => (tgB t x (fgE ρ vs)).bind fun ρ1 => (db ρ1).bind fun r => match r.2 with
    | .nx => forD vs t db xs r.1
    | .ct => forD vs t db xs r.1
    | .bk => some (fgE r.1 vs, .nx)
    | .rt q => some (r.1, .rt q)
def dFor (di : DQv) (vs : List Nat) (t : Tg) (db : DSv) : DSv := fun ρ => (di ρ).bind fun l => forD vs t db l ρ
theorem for_core {K : PySem.W.Frag} {f : Fm} {A : Nat → List Addr} {ρ ρ' : En} {σ : St} {H : Hp} {G F : Hp} {J : It} {l : List PV} {vs : List Nat} {t : Tg} {db : DSv} {fl : Fl} {D : Ends} (R : RS K f A ρ σ H) (W : Walk K G F J l)
    (hG : ∀ A' ρ' σ' H', RS K f A' ρ' σ' H' → Ex (mask H (own f A)) (mask H' (own f A')) → Ex G H') (hF : Ex F (mask H (own f A))) (hd : forD vs t db l ρ = some (ρ', fl)) (q : After K f A H D ρ' fl) :
    ∃ W : Nat → Nat → St → Hp → Prop, (∃ m, W 0 m σ H) ∧ ∀ i m σ H, W i m σ H →
      (J.stop i H ∧ D.nx σ H) ∨ (J.go i H ∧ ∃ N : St → Hp → Prop, (∀ σ' H', N σ' H' → ∃ m', m' < m ∧ W (i + 1) m' σ' H') ∧ ∀ x H', J.yld i H x H' → tG K (tgB t) (tgS t) x σ H' fun σ2 H2 => tS K db { D with nx := N, ct := N, bk := D.nx } σ2 H2) := by
  let Wn : Nat → St → Hp → Prop := fun i σ1 H1 => i ≤ l.length ∧ ∃ A1 ρ1, RS K f A1 ρ1 σ1 H1 ∧ forD vs t db (l.drop i) ρ1 = some (ρ', fl) ∧ Ex (mask H (own f A)) (mask H1 (own f A1))
  refine ⟨fun i m σ1 H1 => m = l.length - i ∧ Wn i σ1 H1, ⟨l.length, rfl, Nat.zero_le _, A, ρ, R, hd, Ex.refl _⟩, ?_⟩
  rintro i m σ1 H1 ⟨rfl, hi, A1, ρ1, R1, hd1, e1⟩
  obtain ⟨wstop, wgo⟩ := W i H1 (hG A1 ρ1 σ1 H1 R1 e1)
  by_cases hlt : i < l.length
  · right
    obtain ⟨go, yld⟩ := wgo _ (List.getElem?_eq_getElem hlt)
    refine ⟨go, fun σ' H' => Wn (i + 1) σ' H', fun σ' H' w => ⟨l.length - (i + 1), by omega, rfl, w⟩, fun x H2 hy => ?_⟩
    obtain ⟨e2, hdp⟩ := yld x H2 hy
    rw [List.drop_eq_getElem_cons hlt] at hd1
    obtain ⟨ρ2, hb, hd1⟩ := Option.bind_eq_some_iff.mp (show (tgB t l[i] (fgE ρ1 vs)).bind _ = some (ρ', fl) from hd1)
    obtain ⟨⟨ρ3, fl3⟩, hdb, hd1⟩ := Option.bind_eq_some_iff.mp hd1
    obtain ⟨A2, R2, e3⟩ := (R1.mono e2).fg (vs := vs)
    have hx : Dp K (mask H2 (own f A2)) x l[i] := dp_ex e3 (hdp (own f A1) (fun a ha => R1.fresh ha) (hF.trans e1))
    refine ⟨f, A2, fgE ρ1 vs, l[i], ρ2, R2, hx, hb, fun σ2 R3 _ => ⟨f, _, ρ2, ρ3, fl3, R3, hdb, ?_⟩⟩
    have eall : Ex (mask H (own f A)) (mask H2 (own f (dropA A2 (tgS t)))) := e1.trans ((mask_mono e2).trans (e3.trans dropA_ex))
    cases fl3 with
    | nx => exact fun σ' H' A' R' x' => ⟨by omega, A', ρ3, R', hd1, eall.trans x'⟩
    | ct => exact fun σ' H' A' R' x' => ⟨by omega, A', ρ3, R', hd1, eall.trans x'⟩
    | bk =>
      cases hd1
      intro σ' H' A' R' x'
      obtain ⟨A4, R4, e4⟩ := R'.fg (vs := vs)
      exact q σ' H' A4 R4 ((eall.trans x').trans e4)
    | rt r =>
      cases hd1
      exact q
  · left
    have ei : i = l.length := by omega
    refine ⟨wstop ei, ?_⟩
    subst ei
    rw [List.drop_length] at hd1
    have e := Option.some.inj (show some (fgE ρ1 vs, Fl.nx) = some (ρ', fl) from hd1)
    cases e
    obtain ⟨A4, R4, e4⟩ := R1.fg (vs := vs)
    exact q σ1 H1 A4 R4 (e1.trans e4)
section
variable {X : Cx} {tg iter : Expr} {body : List Stmt} {di : DQv} {vs : List Nat} {t : Tg} {db : DSv} {pos : Pos} {c : Expr} {tc : DTv}
theorem ds_for (hp : PassesOwn (model X.prog X.w) X.A X.env X.xe) (hc : X.calm = true) (hi : DI X tg iter di) (hg : DG X tg t) (hb : DSs X body db) (hs : ∀ x, foldedSetIterable iter X.env x = pure x := by intro _; rfl) : DS X (.For tg iter body [] pos) (dFor di vs t db) :=
  ⟨ps_weak (ps_for hp hc hi.pi hg.pg hb.pss hs) fun D σ H ⟨f, A, ρ, ρ', fl, R, hd, q⟩ => by
    obtain ⟨l, hl, hd⟩ := Option.bind_eq_some_iff.mp (show (di ρ).bind _ = some (ρ', fl) from hd)
    refine ⟨f, A, ρ, l, R, hl, fun J H1 e1 W => ?_⟩
    exact for_core (R.mono e1) W (fun A' ρ' σ' H' R' e => e.trans mask_ex) (Ex.refl _) hd (q.from (mask_mono e1))⟩

/-! ### for over a list of one's own, that the body leaves alone -/
def dForO (i : Nat) (vs : List Nat) (t : Tg) (db : DSv) : DSv := fun ρ => match ρ[i]? with
  | some (.ol l) => (forD vs t db l (ρ.set i (.br l))).bind fun r => match r.1[i]? with
    | some (.br l') => some (r.1.set i (.ol l'), r.2)
    | _ => none
  | _ => none
def Fm.lend (f : Fm) (i : Nat) (a : Addr) (xs : List V) : Fm := { B := fun b => if b = a then some (.lst xs) else f.B b, O0 := fun b => f.O0 b ∨ b = a, Z := fun j => if j = i then some a else if f.Z j = some a then none else f.Z j, P := f.P, Y := f.Y }
theorem lend_own {f : Fm} {i : Nat} {a b : Addr} {xs : List V} {A : Nat → List Addr} (hA : A i = [a]) : own (f.lend i a xs) (dropA A [i]) b ↔ own f A b := by
  constructor
  · rintro ((h | h) | ⟨j, h⟩)
    · exact .inl h
    · exact .inr ⟨i, by rw [hA, h]; exact List.mem_singleton_self a⟩
    · exact .inr ⟨j, (dropA_mem h).1⟩
  · rintro (h | ⟨j, h⟩)
    · exact .inl (.inl h)
    · by_cases hj : j = i
      · subst hj
        rw [hA] at h
        exact .inl (.inr (List.mem_singleton.mp h))
      · refine .inr ⟨j, ?_⟩
        unfold dropA
        rw [if_neg (by simpa using hj)]
        exact h
theorem lend_own2 {f : Fm} {i : Nat} {a b : Addr} {xs : List V} {A : Nat → List Addr} (hA : A i = []) : own f (putA A i [a]) b ↔ own (f.lend i a xs) A b := by
  constructor
  · rintro (h | ⟨j, h⟩)
    · exact .inl (.inl h)
    · unfold putA at h
      split at h
      · exact .inl (.inr (List.mem_singleton.mp h))
      · exact .inr ⟨j, h⟩
  · rintro ((h | h) | ⟨j, h⟩)
    · exact .inl h
    · exact .inr ⟨i, by unfold putA; rw [if_pos rfl, h]; exact List.mem_singleton_self a⟩
    · by_cases hj : j = i
      · rw [hj, hA] at h; cases h
      · refine .inr ⟨j, ?_⟩
        unfold putA
        rw [if_neg hj]
        exact h
theorem mask_congr {H : Hp} {O O' : Own} (h : ∀ a, O a ↔ O' a) : mask H O = mask H O' := by
  have : O = O' := funext fun a => propext (h a)
  rw [this]
section
variable {K : PySem.W.Frag} {f : Fm} {H : Hp} {A : Nat → List Addr} {ρ : En} {σ : St}
theorem lendZ {f : Fm} {i j : Nat} {a b : Addr} {xs : List V} (h : (f.lend i a xs).Z j = some b) : (j = i ∧ b = a) ∨ (j ≠ i ∧ b ≠ a ∧ f.Z j = some b) := by
  have h' : (if j = i then some a else if f.Z j = some a then none else f.Z j) = some b := h
  by_cases hj : j = i
  · rw [if_pos hj] at h'
    cases h'
    exact .inl ⟨hj, rfl⟩
  · rw [if_neg hj] at h'
    by_cases hz : f.Z j = some a
    · rw [if_pos hz] at h'; cases h'
    · rw [if_neg hz] at h'
      exact .inr ⟨hj, fun e => hz (by rw [h', e]), h'⟩
theorem RS.lend (r : RS K f A ρ σ H) {i : Nat} {l : List PV} {a : Addr} {xs : List V} (hl : ρ[i]? = some (.ol l)) (h1 : A i = [a]) (h2 : σ[i]? = some (some (.ref a))) (h3 : H a = some (.lst xs)) (h4 : DpAll K (mask H (own f A)) xs l) :
    RS K (f.lend i a xs) (dropA A [i]) (ρ.set i (.br l)) σ H := by
  have ha : a ∈ A i := by rw [h1]; exact List.mem_singleton_self a
  have hi := (List.getElem?_eq_some_iff.mp hl).1
  have hm : mask H (own (f.lend i a xs) (dropA A [i])) = mask H (own f A) := mask_congr fun b => lend_own h1
  refine ⟨by rw [List.length_set]; exact r.len, fun b o h => ?_, fun b h => ?_, fun j b h => ?_, fun j => ?_, fun j k b h h' => r.dis j k b (dropA_mem h).1 (dropA_mem h').1, fun j s hs => ?_, fun j h => ?_, fun j k b h h' => ?_, pk_set (fun l w => by rw [hl] at w; cases w) r.pk⟩
  · have h' : (if b = a then some (HO.lst xs) else f.B b) = some o := h
    split at h'
    · rename_i e; subst e; cases h'; exact h3
    · exact r.ext b o h'
  · rcases h with h | h
    · exact r.old b h
    · rw [h, h3]; exact fun q => by cases q
  · obtain ⟨hm1, hj⟩ := dropA_mem h
    have hne : b ≠ a := fun e => hj (by rw [r.dis j i b hm1 (by rw [e]; exact ha)]; exact List.mem_singleton_self i)
    obtain ⟨n1, n2⟩ := r.new j b hm1
    refine ⟨?_, fun w => w.elim n2 hne⟩
    show (if b = a then _ else f.B b) = none
    rw [if_neg hne]; exact n1
  · unfold dropA
    split
    · exact List.nodup_nil
    · exact r.nd j
  · rw [hm]
    by_cases hj : j = i
    · subst hj
      rw [List.getElem?_set_self hi] at hs
      cases hs
      have e : dropA A [j] j = [] := by unfold dropA; simp
      have eZ : (f.lend j a xs).Z j = some a := by show (if j = j then some a else _) = _; rw [if_pos rfl]
      refine ⟨a, xs, e, eZ, h2, .inr rfl, ?_, h4⟩
      show (if a = a then _ else f.B a) = _
      rw [if_pos rfl]
    · rw [List.getElem?_set_ne (Ne.symm hj)] at hs
      have e : dropA A [i] j = A j := by unfold dropA; rw [if_neg (by simpa using hj)]
      rw [e]
      have q := r.sl j s hs
      cases s with
      | br l' =>
        obtain ⟨c, ys, q1, z1, q2, q3, q4, q5⟩ := q
        have hne : c ≠ a := fun w => (r.new i a ha).2 (by rw [← w]; exact q3)
        have eZ : (f.lend i a xs).Z j = some c := by
          show (if j = i then some a else if f.Z j = some a then none else f.Z j) = _
          rw [if_neg hj, if_neg (fun w => hne (Option.some.inj (z1.symm.trans w))), z1]
        refine ⟨c, ys, q1, eZ, q2, .inl q3, ?_, q5⟩
        show (if c = a then _ else f.B c) = _
        rw [if_neg hne]
        exact q4
      | _ => exact q
  · rw [List.length_set] at h
    unfold dropA
    split
    · rfl
    · exact r.out j h
  · rcases lendZ h with w | w
    · rcases lendZ h' with w' | w'
      · rw [w.1, w'.1]
      · exact absurd w.2 w'.2.1
    · rcases lendZ h' with w' | w'
      · exact absurd w'.2 w.2.1
      · exact r.zi j k b w.2.2 w'.2.2
theorem RS.back {i : Nat} {l : List PV} {a : Addr} {xs : List V} (r : RS K (f.lend i a xs) A ρ σ H) (hl : ρ[i]? = some (.br l)) (hb : f.B a = none) (ho : ¬ f.O0 a) (hzi : ∀ i j a, f.Z i = some a → f.Z j = some a → i = j) :
    RS K f (putA A i [a]) (ρ.set i (.ol l)) σ H ∧ A i = [] := by
  have hi := (List.getElem?_eq_some_iff.mp hl).1
  have eZ : (f.lend i a xs).Z i = some a := by show (if i = i then some a else _) = _; rw [if_pos rfl]
  obtain ⟨c, ys, h1, z1, h2, h3, h4, h5⟩ := r.sl i _ hl
  have ec : c = a := Option.some.inj (z1.symm.trans eZ)
  subst ec
  have ha : H c = some (.lst ys) := r.ext c _ h4
  have hm : mask H (own f (putA A i [c])) = mask H (own (f.lend i c xs) A) := mask_congr fun b => lend_own2 h1
  refine ⟨⟨by rw [List.length_set]; exact r.len, fun b o h => ?_, fun b h => r.old b (.inl h), fun j b h => ?_, fun j => ?_, fun j k b h h' => ?_, fun j s hs => ?_, fun j h => ?_, hzi, pk_set (fun l w => by rw [hl] at w; cases w) r.pk⟩, h1⟩
  · refine r.ext b o ?_
    show (if b = c then _ else f.B b) = _
    rw [if_neg (fun e => by rw [e, hb] at h; cases h)]
    exact h
  · unfold putA at h
    split at h
    · cases List.mem_singleton.mp h; exact ⟨hb, ho⟩
    · obtain ⟨n1, n2⟩ := r.new j b h
      have hne : b ≠ c := fun e => n2 (.inr e)
      refine ⟨?_, fun w => n2 (.inl w)⟩
      have n1' : (if b = c then some (HO.lst xs) else f.B b) = none := n1
      rw [if_neg hne] at n1'
      exact n1'
  · unfold putA
    split
    · simp
    · exact r.nd j
  · have nin : ∀ j b, b ∈ A j → b ≠ c := fun j b hb e => (r.new j b hb).2 (.inr e)
    unfold putA at h h'
    split at h
    · split at h'
      · rename_i e e'; rw [e, e']
      · exact absurd (List.mem_singleton.mp h) (nin k b h')
    · split at h'
      · exact absurd (List.mem_singleton.mp h') (nin j b h)
      · exact r.dis j k b h h'
  · rw [hm]
    by_cases hj : j = i
    · subst hj
      rw [List.getElem?_set_self hi] at hs
      cases hs
      exact ⟨c, ys, by unfold putA; rw [if_pos rfl], h2, ha, h5⟩
    · rw [List.getElem?_set_ne (Ne.symm hj)] at hs
      have e : putA A i [c] j = A j := by unfold putA; rw [if_neg hj]
      rw [e]
      have q := r.sl j s hs
      cases s with
      | br l' =>
        obtain ⟨d, zs, q1, y1, q2, q3, q4, q5⟩ := q
        rcases lendZ y1 with w | w
        · exact absurd w.1 hj
        · have q4' : (if d = c then some (HO.lst xs) else f.B d) = some (.lst zs) := q4
          rw [if_neg w.2.1] at q4'
          exact ⟨d, zs, q1, w.2.2, q2, q3.elim id fun w' => absurd w' w.2.1, q4', q5⟩
      | _ => exact q
  · rw [List.length_set] at h
    unfold putA
    rw [if_neg (by omega)]
    exact r.out j h
end
end
end Dn
end
section
set_option Elab.async false
set_option linter.all false
set_option maxRecDepth 100000
set_option maxHeartbeats 2000000
namespace Dn
open PySem PySem.Spec L2

section
variable {X : Cx} {tg iter c : Expr} {body : List Stmt} {di : DQv} {vs : List Nat} {t : Tg} {db : DSv} {pos : Pos} {tc : DTv}
/-- from the lent frame back -/
theorem back_ex {f : Fm} {i : Nat} {a : Addr} {xs : List V} {A A' : Nat → List Addr} {H H' : Hp} (h1 : A i = [a]) (h2 : A' i = []) (e : Ex (mask H (own (f.lend i a xs) (dropA A [i]))) (mask H' (own (f.lend i a xs) A'))) : Ex (mask H (own f A)) (mask H' (own f (putA A' i [a]))) := by
  rw [mask_congr (fun b => lend_own2 (f := f) (xs := xs) h2), ← mask_congr (fun b => lend_own (f := f) (xs := xs) h1)]
  exact e
theorem ds_forO {i : Nat} (hp : PassesOwn (model X.prog X.w) X.A X.env X.xe) (hc : X.calm = true) (ho : PE X iter (tVar i)) (hg : DG X tg t) (hb : DSs X body db) (hs : ∀ x, foldedSetIterable iter X.env x = pure x := by intro _; rfl) : DS X (.For tg iter body [] pos) (dForO i vs t db) :=
  ⟨ps_weak (ps_for hp hc (pi_list ho) hg.pg hb.pss hs) fun D σ H ⟨f, A, ρ, ρ', fl, R, hd, q⟩ => by
    unfold dForO at hd
    split at hd
    · rename_i l hl
      obtain ⟨⟨ρ1, fl1⟩, hf, hd⟩ := Option.bind_eq_some_iff.mp hd
      cases hbr : ρ1[i]? with
      | none => simp only [hbr] at hd; cases hd
      | some sl =>
        cases sl with
        | br l' =>
          simp only [hbr] at hd
          cases hd
          obtain ⟨a, xs, h1, h2, h3, h4⟩ := R.sl i _ hl
          have ha : a ∈ A i := by rw [h1]; exact List.mem_singleton_self a
          obtain ⟨hB, hO⟩ := R.new i a ha
          have RL := R.lend hl h1 h2 h3 h4
          have hBa : (f.lend i a xs).B a = some (.lst xs) := by show (if a = a then _ else f.B a) = _; rw [if_pos rfl]
          refine ⟨.ref a, h2, a, rfl, ⟨xs, sl_of h3⟩, ?_⟩
          have W : Walk X.K (f.lend i a xs).B (mask H (own (f.lend i a xs) (dropA A [i]))) (Itl X.K a) l := walk_list (sl_of hBa) (by rw [mask_congr (fun b => lend_own (f := f) (xs := xs) h1)]; exact h4)
          refine for_core (D := D) (ρ' := ρ1) RL W (fun A' ρ' σ' H' R' _ => R'.ext) (Ex.refl _) hf ?_
          cases fl with
          | nx =>
            intro σ' H' A' R' e'
            obtain ⟨RB, hA⟩ := R'.back hbr hB hO R.zi
            exact q σ' H' _ RB (back_ex h1 hA e')
          | bk =>
            intro σ' H' A' R' e'
            obtain ⟨RB, hA⟩ := R'.back hbr hB hO R.zi
            exact q σ' H' _ RB (back_ex h1 hA e')
          | ct =>
            intro σ' H' A' R' e'
            obtain ⟨RB, hA⟩ := R'.back hbr hB hO R.zi
            exact q σ' H' _ RB (back_ex h1 hA e')
          | rt r =>
            intro v σ' H' A' R' hr
            obtain ⟨RB, hA⟩ := R'.back hbr hB hO R.zi
            refine q v σ' H' _ RB ?_
            cases r with
            | va p => exact dp_ex (mask_less fun b h => h.elim (fun w => .inl (.inl w)) .inr) hr
            | li m =>
              obtain ⟨b, ys, e1, e2, e3, e4⟩ := hr
              have e2' : (if b = a then some (HO.lst xs) else f.B b) = none := e2
              have hne : b ≠ a := fun w => by rw [if_pos w] at e2'; cases e2'
              rw [if_neg hne] at e2'
              exact ⟨b, ys, e1, e2', e3, dpa_ex (mask_less fun c h => h.elim (fun w => .inl (w.elim (fun u => .inl (.inl u)) .inr)) .inr) e4⟩
        | _ => simp only [hbr] at hd; cases hd
    · cases hd⟩

/-! ### while -/
def whileN (vs : List Nat) (tc : DTv) (db : DSv) : Nat → DSv
  | 0, _ => none
  | n + 1, ρ => (tc (fgE ρ vs)).bind fun k => if k = true then (db (fgE ρ vs)).bind fun r => match r.2 with
      | .nx => whileN vs tc db n r.1
      | .ct => whileN vs tc db n r.1
      | .bk => some (fgE r.1 vs, .nx)
      | .rt q => some (r.1, .rt q)
    else some (fgE ρ vs, .nx)
open Classical in
noncomputable def dWhile (vs : List Nat) (tc : DTv) (db : DSv) : DSv := fun ρ => if h : ∃ n r, whileN vs tc db n ρ = some r then whileN vs tc db h.choose ρ else none
theorem whileN_mono {ρ : En} {r : En × Fl} : ∀ {n m : Nat}, n ≤ m → whileN vs tc db n ρ = some r → whileN vs tc db m ρ = some r := by
  intro n
  induction n generalizing ρ with
  | zero => intro m _ h; cases h
  | succ n ih =>
    intro m hm h
    cases m with
    | zero => omega
    | succ m =>
      obtain ⟨k, hk, h⟩ := Option.bind_eq_some_iff.mp (show (tc (fgE ρ vs)).bind _ = some r from h)
      refine Option.bind_eq_some_iff.mpr ⟨k, hk, ?_⟩
      cases k with
      | false => exact h
      | true =>
        obtain ⟨⟨ρ1, fl⟩, h1, h2⟩ := Option.bind_eq_some_iff.mp (show (db (fgE ρ vs)).bind _ = some r by simpa using h)
        show (if (true = true) then _ else _) = some r
        rw [if_pos rfl]
        refine Option.bind_eq_some_iff.mpr ⟨⟨ρ1, fl⟩, h1, ?_⟩
        cases fl with
        | nx => exact ih (by omega) h2
        | ct => exact ih (by omega) h2
        | bk => exact h2
        | rt q => exact h2
theorem dWhile_of {n : Nat} {ρ : En} {r : En × Fl} (h : whileN vs tc db n ρ = some r) : dWhile vs tc db ρ = some r := by
  unfold dWhile
  have ex : ∃ n r, whileN vs tc db n ρ = some r := ⟨n, r, h⟩
  rw [dif_pos ex]
  obtain ⟨r', hr'⟩ := ex.choose_spec
  have h1 := whileN_mono (Nat.le_max_left n ex.choose) h
  have h2 := whileN_mono (Nat.le_max_right n ex.choose) hr'
  rw [h1] at h2
  rw [hr', h2]
theorem dWhile_some {ρ : En} {r : En × Fl} (h : dWhile vs tc db ρ = some r) : ∃ n, whileN vs tc db n ρ = some r := by
  unfold dWhile at h
  split at h
  · exact ⟨_, h⟩
  · cases h
theorem ds_while (hp : PassesOwn (model X.prog X.w) X.A X.env X.xe) (hc : DT X c tc) (hb : DSs X body db) : DS X (.While c body [] pos) (dWhile vs tc db) :=
  ⟨ps_weak (ps_while hp hc.pt hb.pss) fun D σ H ⟨f, A, ρ, ρ', fl, R, hd, q⟩ => by
    obtain ⟨n, hn⟩ := dWhile_some hd
    refine ⟨fun m σ1 H1 => ∃ A1 ρ1, RS X.K f A1 ρ1 σ1 H1 ∧ whileN vs tc db m ρ1 = some (ρ', fl) ∧ Ex (mask H (own f A)) (mask H1 (own f A1)), ⟨n, A, ρ, R, hn, Ex.refl _⟩, ?_⟩
    rintro m σ1 H1 ⟨A1, ρ1, R1, hm, e1⟩
    cases m with
    | zero => cases hm
    | succ m =>
      obtain ⟨k, hk, h⟩ := Option.bind_eq_some_iff.mp (show (tc (fgE ρ1 vs)).bind _ = some (ρ', fl) from hm)
      obtain ⟨A2, R2, e2⟩ := R1.fg (vs := vs)
      refine ⟨f, A2, fgE ρ1 vs, k, R2, hk, fun H2 e3 => ?_⟩
      have R3 := R2.mono e3
      have eall : Ex (mask H (own f A)) (mask H2 (own f A2)) := e1.trans (e2.trans (mask_mono e3))
      cases k with
      | false =>
        have h' : some (fgE ρ1 vs, Fl.nx) = some (ρ', fl) := by simpa using h
        cases h'
        show D.nx σ1 H2
        exact q σ1 H2 A2 R3 eall
      | true =>
        obtain ⟨⟨ρ2, fl2⟩, h1, h2⟩ := Option.bind_eq_some_iff.mp (show (db (fgE ρ1 vs)).bind _ = some (ρ', fl) by simpa using h)
        show ∃ N, _ ∧ _
        refine ⟨fun σ' H' => ∃ A1 ρ1, RS X.K f A1 ρ1 σ' H' ∧ whileN vs tc db m ρ1 = some (ρ', fl) ∧ Ex (mask H (own f A)) (mask H' (own f A1)), fun σ' H' w => ⟨m, by omega, w⟩, f, A2, fgE ρ1 vs, ρ2, fl2, R3, h1, ?_⟩
        cases fl2 with
        | nx => exact fun σ' H' A' R' x' => ⟨A', ρ2, R', h2, eall.trans x'⟩
        | ct => exact fun σ' H' A' R' x' => ⟨A', ρ2, R', h2, eall.trans x'⟩
        | bk =>
          cases h2
          intro σ' H' A' R' x'
          obtain ⟨A4, R4, e4⟩ := R'.fg (vs := vs)
          exact q σ' H' A4 R4 ((eall.trans x').trans e4)
        | rt r => cases h2; exact q⟩
end

/-! ### a def -/
def entry (np nn : Nat) (vs : List PV) : En := vs.map .fz ++ List.replicate (nn - np) .un
def runD (np nn : Nat) (d : DSv) : FD := fun vs => if vs.length = np then (d (entry np nn vs)).bind fun r => match r.2 with
  | .rt q => some q
  | .nx => some (.va .none)
  | _ => none
  else none
theorem rs_start {K : PySem.W.Frag} {N : List Str} {np : Nat} {vs : List V} {ps : List PV} {H : Hp} {O : Own} (hO : ∀ a, O a → H a ≠ none) (hl : ps.length = np) (hN : np ≤ N.length) (h : DpAll K (mask H O) vs ps) :
    RS K ⟨H, O, fun _ => none, fun _ => False, fun _ => none⟩ (fun _ => []) (entry np N.length ps) (L2.start N vs) H := by
  have lv := dpa_length h
  have ow : ∀ a, own ⟨H, O, fun _ => none, fun _ => False, fun _ => none⟩ (fun _ => []) a → O a := fun a w => w.elim id fun ⟨i, w⟩ => by cases w
  refine ⟨?_, Ex.refl H, hO, fun i a w => (by cases w), fun i => List.nodup_nil, fun i j a w => (by cases w), fun i s hs => ?_, fun i _ => rfl, fun i j a w => (by cases w), fun a w => w.elim⟩
  · unfold entry L2.start
    rw [List.length_append, List.length_append, List.length_map, List.length_map, List.length_replicate, List.length_replicate]
    omega
  · unfold entry at hs
    by_cases hi : i < ps.length
    · rw [List.getElem?_append_left (by simpa using hi), List.getElem?_map] at hs
      obtain ⟨p, hp, rfl⟩ := Option.map_eq_some_iff.mp hs
      obtain ⟨v, hv, r⟩ := dpa_get h hp
      refine ⟨rfl, v, ?_, dp_ex (mask_less ow) r⟩
      unfold L2.start
      rw [List.getElem?_append_left (by simpa using (by omega : i < vs.length)), List.getElem?_map, hv]
      rfl
    · rw [List.getElem?_append_right (by simpa using hi), List.getElem?_replicate] at hs
      split at hs
      · cases hs; rfl
      · cases hs
theorem ok_fn {P : Program} {w : World} {K : PySem.W.Frag} {mg : Str → Option Value} {base : Heap} {x qual : Str} {st : Stmt} {f : Addr} {fd : FuncData} {N ps : List Str} {k : Nat} {d : DSv} (F : Fun K x qual st f fd) (S : FnScope N ps (defScope st))
    (hb : ∀ (cdv : Value) (A : Around) (outer : List Env) (s : Shared) (H : Hp) (E : XK), Room k (A.deeper (PyProof.Rows.envOfC qual (defScope st) s.heap.objs.size f cdv)) → DSs (cxOf CX0 P w K mg base N qual (defScope st) f cdv A outer s H E).nox (defBody st) d) :
    FnOk P w K mg base CX0 (k + 1) f fd ps (SpF K (runD ps.length N.length d)) := by
  have hlen : ∀ (l : List PV) (r : Res), runD ps.length N.length d l = some r → l.length = ps.length := fun l r h => by
    unfold runD at h
    split at h
    · assumption
    · cases h
  have hN : ps.length ≤ N.length := by have := congrArg List.length S.pre; rw [List.length_take] at this; omega
  refine F.ok S (fun vs H Q E h => ?_) (fun cdv A outer s H vs Q E hr h => ?_)
  · obtain ⟨O, l, r, _, hx, hd, _⟩ := h
    rw [dpa_length hx, hlen l r hd]
  · obtain ⟨O, l, r, hO, hx, hd, q⟩ := h
    refine ⟨_, (hb cdv A outer s H E hr).pss, ?_⟩
    have hl := hlen l r hd
    unfold runD at hd
    rw [if_pos hl] at hd
    obtain ⟨⟨ρ', fl⟩, h1, h2⟩ := Option.bind_eq_some_iff.mp hd
    refine ⟨⟨H, O, fun _ => none, fun _ => False, fun _ => none⟩, fun _ => [], _, ρ', fl, rs_start hO hl hN hx, h1, ?_⟩
    cases fl with
    | rt r' =>
      cases h2
      exact fun v σ' H' A' R' hr' => q v H' R'.ext (by
        have e : (fun b => O b ∨ False) = O := funext fun b => propext (by simp)
        rw [← e]; exact hr')
    | nx =>
      cases h2
      exact fun σ' H' A' R' _ => q _ H' R'.ext .non
    | bk => cases h2
    | ct => cases h2
end Dn
end
section
set_option Elab.async false
set_option linter.all false
set_option maxRecDepth 100000
set_option maxHeartbeats 2000000
namespace Dn
open PySem PySem.Spec L2

/-! ### a list or a tuple, as it comes -/
def iSeq (K : PySem.W.Frag) (tl : TE) : TI := fun σ H R => tl σ H fun x H1 => ∃ a, x = .ref a ∧ (((∃ xs, SqL K H1 a xs) ∧ R (Itl K a) H1) ∨ ((∃ xs, SqT K H1 a xs) ∧ R (Itt K a) H1))
section
variable {X : Cx} {tg e a b c : Expr} {rest : List Expr} {da db : DPv} {qa : DQv} {p pos : Pos} {lo hi : Option Expr} {dl dh : DOv}
theorem pi_seq {l : Expr} {tl : TE} (hl : PE X l tl) : PI X tg l (iSeq X.K tl) := by
  refine ⟨fun pins s σ H R I h => ?_⟩
  refine thn (hl.run pins s σ H _ I h) fun v s1 ⟨x, H1, I1, r1, q1⟩ => ?_
  obtain ⟨a, e, q1⟩ := q1
  subst e
  cases r1
  rcases q1 with ⟨⟨xs, hq⟩, q⟩ | ⟨⟨xs, hq⟩, q⟩
  · obtain ⟨its, rv, p, hz⟩ := I1.list hq
    refine wpAny_pyIter_list p.isList ?_
    refine ⟨s1.heap.objs.size, [s1.heap.objs.size], _, _, H1, rfl, I1.kept (t' := s1.toks) fun b o e => Heap.get?_push_of_some _ e, turn_list a _, ⟨_, Heap.get?_push_size _ rfl, rfl, rfl⟩, fun b hb => ?_, q⟩
    have e : b = s1.heap.objs.size := by simpa using hb
    subst e
    exact I1.fpOk (Nat.le_refl _) (I1.hok.fresh (Nat.le_refl _))
  · obtain ⟨its, rv, p, hz⟩ := I1.tuple hq
    refine wpAny_pyIter_tuple (show s1.heap.IsTuple a its.toArray from p) ?_
    refine ⟨s1.heap.objs.size, [s1.heap.objs.size], _, _, H1, rfl, I1.kept (t' := s1.toks) fun b o e => Heap.get?_push_of_some _ e, turn_tuple a _, ⟨_, Heap.get?_push_size _ rfl, rfl, rfl⟩, fun b hb => ?_, q⟩
    have e : b = s1.heap.objs.size := by simpa using hb
    subst e
    exact I1.fpOk (Nat.le_refl _) (I1.hok.fresh (Nat.le_refl _))
theorem di_seq (h : DP X e da) : DI X tg e (dS da) := ⟨pi_weak (pi_seq h.pe) fun σ H R ⟨f, A, ρ, l, R', hd, q⟩ => by
  unfold dS at hd
  obtain ⟨x, hx, hl⟩ := Option.bind_eq_some_iff.mp hd
  refine ⟨f, A, ρ, x, R', hx, fun v H1 e1 r1 => ?_⟩
  obtain ⟨b, a, xs, rfl, h1, h2⟩ := seqF r1 hl
  cases b with
  | true => exact ⟨a, rfl, .inr ⟨⟨xs, st_ex mask_ex h1⟩, q _ H1 e1 (walk_tup h1 h2)⟩⟩
  | false => exact ⟨a, rfl, .inl ⟨⟨xs, sl_ex mask_ex h1⟩, q _ H1 e1 (walk_list h1 h2)⟩⟩⟩
/-- a[lo:hi] of a list or a tuple -/
def cutV' (lo hi : Option Int) : PV → Option PV
  | .list l => some (.list (cutP l lo hi))
  | .tuple l => some (.tuple (cutP l lo hi))
  | _ => none
def dCut (da : DPv) (dl dh : DOv) : DPv := fun ρ => (da ρ).bind fun p => (dl ρ).bind fun x => (dh ρ).bind fun y => cutV' x y p
theorem dp_cut {p2 : Pos} (ha : DP X a da) (hl : DO X lo dl) (hh : DO X hi dh) : DP X (.Subscript a (.Slice lo hi none p2) pos) (dCut da dl dh) :=
  ⟨pe_weak (pe_slice (L2.SlR.or sl_list sl_tupA) ha.pe hl.po hh.po) fun σ H Q ⟨f, A, ρ, z, R, hd, q⟩ => by
    unfold dCut at hd
    obtain ⟨p, hp, hd⟩ := Option.bind_eq_some_iff.mp hd
    obtain ⟨x, hx, hd⟩ := Option.bind_eq_some_iff.mp hd
    obtain ⟨y, hy, hz⟩ := Option.bind_eq_some_iff.mp hd
    refine ⟨f, A, ρ, p, R, hp, fun v H1 e1 r1 => ⟨f, A, ρ, x, R.mono e1, hx, fun H2 e2 => ⟨f, A, ρ, y, R.mono (e1.trans e2), hy, fun H3 e3 => ?_⟩⟩⟩
    have eall : Ex H H3 := e1.trans (e2.trans e3)
    have r3 := dp_ex (mask_mono (O := own f A) (e2.trans e3)) r1
    have R3 := R.mono eall
    cases p with
    | list l =>
      cases hz
      cases r3 with
      | @lst a xs _ h1 h2 =>
        refine .inl ⟨a, xs, rfl, sl_ex mask_ex h1, fun p hp => ?_⟩
        have e4 : Ex H3 (upd H3 p (.lst (cutV xs x y))) := Ex.new hp
        exact q _ _ (eall.trans e4) (.lst (sl_of (mask_some.mpr ⟨R3.fresh hp, upd_same⟩)) (dpa_ex (mask_mono e4) (cut_dpa h2 x y)))
    | tuple l =>
      cases hz
      cases r3 with
      | @tup a xs _ h1 h2 =>
        refine .inr ⟨a, xs, rfl, st_ex mask_ex h1, fun w => ?_, fun _ p hp => ?_⟩
        · rw [dpa_length h2] at w
          rw [cutP_all w] at q
          exact q _ H3 eall (.tup h1 h2)
        · have e4 : Ex H3 (upd H3 p (.tup (cutV xs x y))) := Ex.new hp
          exact q _ _ (eall.trans e4) (.tup (st_of (mask_some.mpr ⟨R3.fresh hp, upd_same⟩)) (dpa_ex (mask_mono e4) (cut_dpa h2 x y)))
    | _ => cases hz⟩
/-! ### and, not by truth -/
def dAndT (da db : DPv) : DPv := fun ρ => (da ρ).bind fun x => (tru x).bind fun k => if k = true then db ρ else some x
theorem dp_andT (ha : DP X a da) (hb : DP X (.BoolOp .And (b :: rest) pos) db) : DP X (.BoolOp .And (a :: b :: rest) pos) (dAndT da db) :=
  ⟨pe_weak (pe_andT ha.pe hb.pe) fun σ H Q ⟨f, A, ρ, p, R, hd, q⟩ => by
    unfold dAndT at hd
    obtain ⟨x, hx, hd⟩ := Option.bind_eq_some_iff.mp hd
    obtain ⟨k, hk, hd⟩ := Option.bind_eq_some_iff.mp hd
    refine ⟨f, A, ρ, x, R, hx, fun v H1 e1 r1 => ⟨k, tru_dp r1 hk, ?_⟩⟩
    cases k with
    | true => exact ⟨f, A, ρ, p, R.mono e1, by simpa using hd, fun u H2 e2 r2 => q u H2 (e1.trans e2) r2⟩
    | false =>
      have : x = p := by simpa using hd
      subst this
      exact q _ H1 e1 r1⟩
def dNotT (da : DPv) : DPv := fun ρ => (da ρ).bind fun x => (tru x).map fun k => .bool (!k)
theorem dp_notT (ha : DP X a da) : DP X (.UnaryOp .Not a pos) (dNotT da) :=
  ⟨pe_weak (pe_notT ha.pe) fun σ H Q ⟨f, A, ρ, p, R, hd, q⟩ => by
    unfold dNotT at hd
    obtain ⟨x, hx, hd⟩ := Option.bind_eq_some_iff.mp hd
    obtain ⟨k, hk, rfl⟩ := Option.map_eq_some_iff.mp hd
    exact ⟨f, A, ρ, x, R, hx, fun v H1 e1 r1 => ⟨k, tru_dp r1 hk, q _ H1 e1 (.bl _)⟩⟩⟩
end

/-! ### lists of lists of one's own -/
def tLL (K : PySem.W.Frag) (d : En → Option (List (List PV))) : TE := fun σ H Q => ∃ f A ρ ls, RS K f A ρ σ H ∧ d ρ = some ls ∧ ∀ a bs H1, (∀ b ∈ a :: bs, H b = none) → (a :: bs).Nodup → Ex H H1 → H1 a = some (.lst (bs.map .ref)) → LsR K H1 (mask H1 (fun c => own f A c ∨ c ∈ a :: bs)) ls bs → Q (.ref a) H1
structure DLL (X : Cx) (e : Expr) (d : En → Option (List (List PV))) : Prop where pe : PE X e (tLL X.K d)
def Fm.asides (f : Fm) (ps : List Addr) : Fm := { f with O0 := fun a => f.O0 a ∨ a ∈ ps }
theorem own_asides {f : Fm} {A : Nat → List Addr} {ps : List Addr} {a : Addr} : own (f.asides ps) A a ↔ own f A a ∨ a ∈ ps := by
  constructor
  · rintro ((h | h) | h)
    · exact .inl (.inl h)
    · exact .inr h
    · exact .inl (.inr h)
  · rintro ((h | h) | h)
    · exact .inl (.inl h)
    · exact .inr h
    · exact .inl (.inr h)
section
variable {K : PySem.W.Frag} {f : Fm} {H H' : Hp} {A : Nat → List Addr} {ρ : En} {σ : St}
theorem SlR.asides {F : Hp} {ps : List Addr} {i : Nat} {s : Sl} {v : Option (Option V)} {as : List Addr} (h : SlR K f H F i s v as) : SlR K (f.asides ps) H F i s v as := by
  cases s with
  | br l => obtain ⟨a, xs, h1, hz, h2, h3, h4, h5⟩ := h; exact ⟨a, xs, h1, hz, h2, .inl h3, h4, h5⟩
  | _ => exact h
/-- new lists kept apart -/
theorem RS.asides {H0 : Hp} (r : RS K f A ρ σ H0) (e : Ex H0 H) {ps : List Addr} (hn : ∀ p ∈ ps, H0 p = none) (hs : ∀ p ∈ ps, H p ≠ none) : RS K (f.asides ps) A ρ σ H := by
  refine ⟨r.len, r.ext.trans e, fun a h => ?_, fun i a h => ⟨(r.new i a h).1, fun q => ?_⟩, r.nd, r.dis, fun i s h => ((r.sl i s h).stay (fun a ha o q => e a o q) (mask_to fun a o' h1 h2 => ⟨?_, e a _ h2⟩)).asides, r.out, r.zi, r.pk⟩
  · rcases h with h | h
    · exact e.some (r.old a h)
    · exact hs a h
  · rcases q with q | q
    · exact (r.new i a h).2 q
    · exact r.there (Or.inr ⟨i, h⟩) (hn a q)
  · intro q
    rcases own_asides.mp q with q | q
    · exact h1 q
    · rw [hn a q] at h2; cases h2
theorem RS.asidesW {ps : List Addr} {p : Addr} {o : HO} (r : RS K (f.asides ps) A ρ σ H) (hp : p ∈ ps) (hb : f.B p = none) (ha : ∀ i, p ∉ A i) : RS K (f.asides ps) A ρ σ (upd H p o) := by
  have e : Ex (mask H (own (f.asides ps) A)) (mask (upd H p o) (own (f.asides ps) A)) := mask_to fun a o' h1 h2 => ⟨h1, by
    rw [upd_ne (fun q => h1 (own_asides.mpr (.inr (by rw [q]; exact hp))))]; exact h2⟩
  refine ⟨r.len, fun a u h => ?_, fun a h => ?_, r.new, r.nd, r.dis, fun i s h => (r.sl i s h).stay (fun a q o' z => ?_) e, r.out, r.zi, r.pk⟩
  · rw [upd_ne (ne_of_none h hb)]; exact r.ext a u h
  · by_cases q : a = p
    · subst q; rw [upd_same]; exact fun q => by cases q
    · rw [upd_ne q]; exact r.old a h
  · rw [upd_ne (show a ≠ p from fun w => ha i (by rw [← w]; exact q))]; exact z
end
end Dn
end
section
set_option Elab.async false
set_option linter.all false
set_option maxRecDepth 100000
set_option maxHeartbeats 4000000
namespace Dn
open PySem PySem.Spec L2

theorem tgB_len (t : Tg) : ∀ (p : PV) (ρ ρ' : En), tgB t p ρ = some ρ' → ρ'.length = ρ.length :=
  Tg.rec (motive_1 := fun t => ∀ (p : PV) (ρ ρ' : En), tgB t p ρ = some ρ' → ρ'.length = ρ.length) (motive_2 := fun ts => ∀ (ps : List PV) (ρ ρ' : En), tgBs ts ps ρ = some ρ' → ρ'.length = ρ.length)
    (fun i p ρ ρ' h => by
      obtain ⟨e, _, _⟩ := setS_some (show setS ρ i (.fz p) = some ρ' from h)
      rw [e, List.length_set])
    (fun ts ih p ρ ρ' h => by
      cases p with
      | tuple ps => exact ih ps ρ ρ' h
      | _ => cases h)
    (fun ps ρ ρ' h => by
      cases ps with
      | nil => cases h; rfl
      | cons _ _ => cases h)
    (fun t ts ih1 ih2 ps ρ ρ' h => by
      cases ps with
      | nil => cases h
      | cons p ps =>
        obtain ⟨ρ1, h1, h2⟩ := Option.bind_eq_some_iff.mp (show (tgB t p ρ).bind (fun ρ1 => tgBs ts ps ρ1) = some ρ' from h)
        rw [ih2 ps ρ1 ρ' h2, ih1 p ρ ρ1 h1]) t
def compLL (t : Tg) (te : DQv) (ρ : En) : List PV → Option (List (List PV))
  | [] => some []
  | x :: xs => (tgB t x ρ).bind fun ρ1 => (te ρ1).bind fun y => (compLL t te ρ xs).map fun r => y :: r
def dCompLL (di : DQv) (t : Tg) (vs : List Nat) (te : DQv) : En → Option (List (List PV)) := fun ρ => ((di ρ).bind lim).bind fun l => (wipeE ρ vs).bind fun ρw => compLL t te ρw l
theorem lsr_app {K : PySem.W.Frag} {H F : Hp} : ∀ {ls ms : List (List PV)} {bs cs : List Addr}, LsR K H F ls bs → LsR K H F ms cs → LsR K H F (ls ++ ms) (bs ++ cs)
  | _, _, _, _, .nil, s => s
  | _, _, _, _, .cons h k r, s => .cons h k (lsr_app r s)
theorem lsr_stay {K : PySem.W.Frag} {H H' F F' : Hp} {ls : List (List PV)} {bs : List Addr} (h : LsR K H F ls bs) (e : ∀ b ∈ bs, ∀ o, H b = some o → H' b = some o) (g : Ex F F') : LsR K H' F' ls bs := by
  induction h with
  | nil => exact .nil
  | cons x y z ih => exact .cons (e _ List.mem_cons_self _ x) (dpa_ex g y) (ih fun b hb => e b (List.mem_cons_of_mem _ hb))
section
variable {X : Cx} {elt tg iter : Expr} {scope : Scope} {own' : List (Str × Nat)} {pos : Pos} {di : DQv} {t : Tg} {te : DQv}
theorem dCompLL_read {K : PySem.W.Frag} {vs : List Nat} (hsub : ∀ j ∈ tgS t, j ∈ vs) {σ : St} {H : Hp} {Q : VK} (h : tLL K (dCompLL di t vs te) σ H Q) : tLc (tIc K di) (tG K (tgB t) (tgS t)) (tT K dYes) (tL K te) vs σ H Q := by
  obtain ⟨f, A, ρ, z, R, hd, q⟩ := h
  unfold dCompLL at hd
  obtain ⟨l, hl, hd⟩ := Option.bind_eq_some_iff.mp hd
  obtain ⟨l', hl', hl⟩ := Option.bind_eq_some_iff.mp hl
  obtain ⟨rfl, hz⟩ := lim_some hl
  obtain ⟨ρw, hw, hz'⟩ := Option.bind_eq_some_iff.mp hd
  refine ⟨f, A, ρ, l, R, hl', fun J H1 e1 W D hD => ?_⟩
  have R1 := R.mono e1
  have hB : f.B D = none := R1.ext.back hD
  have hA : ∀ i, D ∉ A i := fun i w => R1.there (.inr ⟨i, w⟩) hD
  let Wn : Nat → Hp → Prop := fun i H' => i ≤ l.length ∧ ∃ pre rest bs, compLL t te ρw (l.drop i) = some rest ∧ z = pre ++ rest ∧ pre.length ≤ i ∧ (∀ b ∈ D :: bs, H1 b = none) ∧ (D :: bs).Nodup ∧ RS K (f.asides (D :: bs)) A ρ σ H' ∧ Ex H1 H' ∧ H' D = some (.lst (bs.map .ref)) ∧ LsR K H' (mask H' (own (f.asides (D :: bs)) A)) pre bs
  refine ⟨fun i m H' => m = l.length - i ∧ Wn i H', ⟨l.length, rfl, Nat.zero_le _, [], z, [], hz', rfl, Nat.le_refl _, by simpa using hD, by simp, R1.asides (Ex.new hD) (by simpa using hD) (by simp [upd_same]), Ex.new hD, upd_same, .nil⟩, ?_⟩
  rintro i m H' ⟨rfl, hi, pre, rest, bs, hc, hzz, hpl, hfr, hnd, RA, eH, hDx, hx⟩
  obtain ⟨wstop, wgo⟩ := W i H' eH
  by_cases hlt : i < l.length
  · right
    obtain ⟨go, yld⟩ := wgo _ (List.getElem?_eq_getElem hlt)
    refine ⟨go, fun H'' => Wn (i + 1) H'', fun H'' w => ⟨l.length - (i + 1), by omega, rfl, w⟩, fun x H2 hy => ?_⟩
    obtain ⟨e2, hdp⟩ := yld x H2 hy
    have RA2 := RA.mono e2
    have hxd : Dp K (mask H2 (own (f.asides (D :: bs)) A)) x l[i] := hdp (own (f.asides (D :: bs)) A) (fun a ha => RA.fresh ha) (mask_to fun a o h1 h2 => ⟨fun w => (by
      rcases own_asides.mp w with w | w
      · exact h1 w
      · rw [hfr a w] at h2; cases h2), eH a o h2⟩)
    obtain ⟨RW, hnil⟩ := RS.wipe RA2 hw
    rw [List.drop_eq_getElem_cons hlt] at hc
    obtain ⟨ρ1, hb1, hc⟩ := Option.bind_eq_some_iff.mp (show (tgB t l[i] ρw).bind _ = some rest from hc)
    obtain ⟨y, hy', hc⟩ := Option.bind_eq_some_iff.mp hc
    obtain ⟨rest', hr, rfl⟩ := Option.map_eq_some_iff.mp hc
    have dA : dropA A (tgS t) = A := dropA_same fun j hj => hnil j (hsub j hj)
    refine ⟨f.asides (D :: bs), A, ρw, l[i], ρ1, RW, hxd, hb1, fun σ2 R2 k2 => ?_⟩
    rw [dA] at R2
    have hlen : σ2.length = σ.length := by
      have h1 := R2.len
      have h2 := RW.len
      rw [wipe_length] at h2
      have h3 := tgB_len t _ _ _ hb1
      omega
    refine ⟨wipe_same hlen fun j hj => k2 j fun w => hj (hsub j w), ?_⟩
    refine ⟨f.asides (D :: bs), A, ρ1, true, R2, rfl, fun H3 e3 => ?_⟩
    show tL K te σ2 H3 fun v H4 => ∃ acc, H4 D = some (.lst acc) ∧ acc.length < sizeLine ∧ Wn (i + 1) (upd H4 D (.lst (acc ++ [v])))
    have e23 : Ex H' H3 := e2.trans e3
    have lb : bs.length = pre.length := (LsR.length hx).symm
    refine ⟨f.asides (D :: bs), A, ρ1, y, R2.mono e3, hy', fun a xs H4 hn e4 ha hxs => ⟨bs.map .ref, (e23.trans e4) _ _ hDx, by rw [sizeLine_eq, List.length_map, lb]; omega, ?_⟩⟩
    have eall : Ex H' H4 := e23.trans e4
    have ha1 : H' a = none := e23.back hn
    have ha0 : H1 a = none := eH.back ha1
    have haD : a ≠ D := fun e => by rw [e, hDx] at ha1; cases ha1
    have hab : a ∉ bs := fun hb => RA.there (own_asides.mpr (.inr (List.mem_cons_of_mem _ hb))) ha1
    have hfr' : ∀ b ∈ D :: (bs ++ [a]), H1 b = none := fun b hb => by
      rcases List.mem_cons.mp hb with e | hb
      · exact hfr b (by rw [e]; exact List.mem_cons_self)
      · rcases List.mem_append.mp hb with hb | hb
        · exact hfr b (List.mem_cons_of_mem _ hb)
        · rw [List.mem_singleton.mp hb]; exact ha0
    have hnd' : (D :: (bs ++ [a])).Nodup := by
      have h1 := List.nodup_cons.mp hnd
      refine List.nodup_cons.mpr ⟨fun w => ?_, List.nodup_append.mpr ⟨h1.2, by simp, fun x hx1 y hy1 => ?_⟩⟩
      · rcases List.mem_append.mp w with w | w
        · exact h1.1 w
        · exact haD (List.mem_singleton.mp w).symm
      · rw [List.mem_singleton.mp hy1]
        exact fun e => hab (by rw [← e]; exact hx1)
    have RB : RS K (f.asides (D :: (bs ++ [a]))) A ρ σ H4 := by
      refine R1.asides (eH.trans eall) hfr' fun b hb => ?_
      rcases List.mem_cons.mp hb with e | hb
      · rw [e, eall _ _ hDx]; exact fun q => by cases q
      · rcases List.mem_append.mp hb with hb | hb
        · exact eall.some (RA.there (own_asides.mpr (.inr (List.mem_cons_of_mem _ hb))))
        · rw [List.mem_singleton.mp hb, ha]; exact fun q => by cases q
    have mcong : mask H4 (fun b => own (f.asides (D :: bs)) A b ∨ b = a) = mask H4 (own (f.asides (D :: (bs ++ [a]))) A) := mask_congr fun b => by
      rw [own_asides, own_asides, List.mem_cons, List.mem_cons, List.mem_append, List.mem_singleton]
      constructor
      · rintro ((h | h | h) | h)
        · exact .inl h
        · exact .inr (.inl h)
        · exact .inr (.inr (.inl h))
        · exact .inr (.inr (.inr h))
      · rintro (h | h | h | h)
        · exact .inl (.inl h)
        · exact .inl (.inr (.inl h))
        · exact .inl (.inr (.inr h))
        · exact .inr h
    have oD : own (f.asides (D :: (bs ++ [a]))) A D := own_asides.mpr (.inr List.mem_cons_self)
    have mup : mask (upd H4 D (.lst (bs.map .ref ++ [.ref a]))) (own (f.asides (D :: (bs ++ [a]))) A) = mask H4 (own (f.asides (D :: (bs ++ [a]))) A) := mask_own oD
    have mle : Ex (mask H' (own (f.asides (D :: bs)) A)) (mask H4 (own (f.asides (D :: (bs ++ [a]))) A)) := by
      rw [← mcong]
      exact mask_to fun b o h1 h2 => ⟨fun w => w.elim h1 fun e => (by rw [e, ha1] at h2; cases h2), eall b o h2⟩
    refine ⟨by omega, pre ++ [y], rest', bs ++ [a], hr, by rw [hzz, List.append_assoc]; rfl, by rw [List.length_append, List.length_singleton]; omega, hfr', hnd', RB.asidesW List.mem_cons_self hB hA, fun b o h => ?_, by rw [upd_same, List.map_append]; rfl, ?_⟩
    · rw [upd_ne (ne_of_none h hD)]
      exact (eH.trans eall) b o h
    · rw [mup]
      refine lsr_app (lsr_stay hx (fun b hb o ho => ?_) mle) (.cons (xs := xs) ?_ ?_ .nil)
      · rw [upd_ne (fun e => (List.nodup_cons.mp hnd).1 (by rw [← e]; exact hb))]
        exact eall b o ho
      · rw [upd_ne haD]; exact ha
      · rw [← mcong]; exact hxs
  · left
    have ei : i = l.length := by omega
    refine ⟨wstop ei, ?_⟩
    subst ei
    rw [List.drop_length] at hc
    have er : rest = [] := (Option.some.inj (show some [] = some rest from hc)).symm
    subst er
    rw [List.append_nil] at hzz
    subst hzz
    exact q D bs H' (fun b hb => e1.back (hfr b hb)) hnd (e1.trans eH) hDx (lsr_stay hx (fun _ _ _ h => h) (mask_less fun b hb => own_asides.mpr hb))
def dAsgOO (i : Nat) (q : En → Option (List (List PV))) : DSv := fun ρ => (q ρ).bind fun l => (setS ρ i (.oll l)).map fun ρ' => (ρ', .nx)
theorem RS.setOll {K : PySem.W.Frag} {f : Fm} {A : Nat → List Addr} {ρ : En} {σ : St} {H0 H : Hp} (r : RS K f A ρ σ H0) (e0 : Ex H0 H) {i : Nat} {a : Addr} {bs : List Addr} {ls : List (List PV)} (hi : i < ρ.length) (hox : ∀ (l : List PV), ρ[i]? ≠ some (Sl.ox l)) (hn0 : ∀ b ∈ a :: bs, H0 b = none) (hnd : (a :: bs).Nodup) (ha : H a = some (.lst (bs.map .ref)))
    (hx : LsR K H (mask H (fun c => own f A c ∨ c ∈ a :: bs)) ls bs) : RS K f (putA A i (a :: bs)) (ρ.set i (.oll ls)) (σ.set i (some (.ref a))) H := by
  have hn : ∀ b ∈ a :: bs, ¬ own f A b := fun b hb => r.fresh (hn0 b hb)
  have ow : ∀ b, own f (putA A i (a :: bs)) b → own f A b ∨ b ∈ a :: bs := fun b h => by
    rcases h with h | ⟨j, h⟩
    · exact .inl (.inl h)
    · unfold putA at h
      split at h
      · exact .inr h
      · exact .inl (.inr ⟨j, h⟩)
  refine ⟨by rw [List.length_set, List.length_set]; exact r.len, r.ext.trans e0, fun b h => e0.some (r.old b h), fun j b h => ?_, fun j => ?_, fun j k b h h' => ?_, fun j t ht => ?_, fun j h => ?_, r.zi, pk_set hox r.pk⟩
  · unfold putA at h
    split at h
    · exact ⟨r.ext.back (hn0 b h), fun q => hn b h (.inl q)⟩
    · exact r.new j b h
  · unfold putA
    split
    · exact hnd
    · exact r.nd j
  · unfold putA at h h'
    split at h
    · split at h'
      · rename_i e e'; rw [e, e']
      · exact absurd (.inr ⟨k, h'⟩) (hn b h)
    · split at h'
      · exact absurd (.inr ⟨j, h⟩) (hn b h')
      · exact r.dis j k b h h'
  · by_cases hj : j = i
    · subst hj
      rw [List.getElem?_set_self hi] at ht
      cases ht
      rw [List.getElem?_set_self (by rw [← r.len]; exact hi)]
      exact ⟨a, bs, by unfold putA; rw [if_pos rfl], rfl, ha, lsr_stay hx (fun _ _ _ h => h) (mask_less ow)⟩
    · rw [List.getElem?_set_ne (Ne.symm hj)] at ht
      rw [List.getElem?_set_ne (Ne.symm hj)]
      have e : putA A i (a :: bs) j = A j := by unfold putA; rw [if_neg hj]
      rw [e]
      refine (r.sl j t ht).stay (fun b _ o q => e0 b o q) (mask_to fun b o h1 h2 => ⟨fun w => ?_, e0 b o h2⟩)
      rcases ow b w with w | w
      · exact h1 w
      · rw [hn0 b w] at h2; cases h2
  · rw [List.length_set] at h
    unfold putA
    rw [if_neg (by omega)]
    exact r.out j h
theorem putA_exL {f : Fm} {A : Nat → List Addr} {H0 H : Hp} (e0 : Ex H0 H) {i : Nat} {as : List Addr} (hn0 : ∀ b ∈ as, H0 b = none) : Ex (mask H0 (own f A)) (mask H (own f (putA A i as))) := mask_to fun b o h1 h2 => ⟨fun w => (by
    rcases w with w | ⟨j, w⟩
    · exact h1 (.inl w)
    · unfold putA at w
      split at w
      · rw [hn0 b w] at h2; cases h2
      · exact h1 (.inr ⟨j, w⟩)), e0 b o h2⟩
theorem asgOO_read {K : PySem.W.Frag} {i : Nat} {q' : En → Option (List (List PV))} {D : Ends} {σ : St} {H : Hp} (h : tS K (dAsgOO i q') D σ H) : tAsg (tLL K q') (gName i) D σ H := by
  obtain ⟨f, A, ρ, ρ', fl, R, hd, q⟩ := h
  obtain ⟨l, hl, hd⟩ := Option.bind_eq_some_iff.mp (show (q' ρ).bind _ = some (ρ', fl) from hd)
  obtain ⟨ρ1, h1, e⟩ := Option.map_eq_some_iff.mp hd
  cases e
  obtain ⟨rfl, hlt, hox⟩ := setS_some h1
  exact ⟨f, A, ρ, l, R, hl, fun a bs H1 hn hnd e1 ha hx => q _ H1 _ (R.setOll e1 hlt hox hn hnd ha hx) (putA_exL e1 hn)⟩
theorem ds_asgOO {i : Nat} {y : Str} {py : Pos} {spos : Pos} (hc : X.calm = true) (hN : X.N.Nodup) (hy : X.N[i]? = some y) (hyl : X.env.scope.names.lookup y = some .local)
    (hsw : swapsWith (.ListComp elt [⟨tg, iter, [], 0⟩] scope pos) (some (.Name y py)) spos.line X.env = pure true) (hi : DC X tg iter di) (ok : BlkOk X.N X.env.scope scope own') (hsub : ∀ j ∈ tgS t, j ∈ own'.map (·.2))
    (hg : ∀ (s : Shared) (H : Hp) (C : Addr) (cl : List (Str × Addr)) (fp : List Addr), DG (X.blk s H scope (compEnvC scope cl C X.env) fp) tg t)
    (he : ∀ (s : Shared) (H : Hp) (C : Addr) (cl : List (Str × Addr)) (fp : List Addr), DL (X.blk s H scope (compEnvC scope cl C X.env) fp) elt te) (hs : ∀ x, foldedSetIterable iter X.env x = pure x := by intro _; rfl) :
    DS X (.Assign [.Name y py] (.ListComp elt [⟨tg, iter, [], 0⟩] scope pos) spos) (dAsgOO i (dCompLL di t (own'.map (·.2)) te)) :=
  ⟨ps_weak (ps_setLc hc hN hy hyl hsw hi.pi ok (fun s H C cl fp => (hg s H C cl fp).pg) (fun s H C cl fp => (dts_nil (X := X.blk s H scope (compEnvC scope cl C X.env) fp)).pts) (fun s H C cl fp => (he s H C cl fp).pe) hs) fun D σ H h => by
    have q := asgOO_read h
    exact dCompLL_read hsub q⟩
end

/-! ### x[j] of a list of lists; x[j].append(e) -/
def ownLL (ρ : En) (i : Nat) : Option (List (List PV)) := match ρ[i]? with
  | some (.oll l) => some l
  | _ => none
def dOwn2 (i : Nat) (dj : DPv) : DQv := fun ρ => (ownLL ρ i).bind fun ls => (dj ρ).bind fun y => (asInt y).bind fun k => (ixN ls.length k).bind fun j => ls[j]?
def dApp2 (i : Nat) (dj da : DPv) : DSv := fun ρ => (ownLL ρ i).bind fun ls => (dj ρ).bind fun y => (asInt y).bind fun k => (ixN ls.length k).bind fun j => (ls[j]?).bind fun l => (da ρ).bind fun p => if l.length < 16777216 then some (ρ.set i (.oll (ls.set j (l ++ [p]))), .nx) else none
theorem LsR.set {K : PySem.W.Frag} {H F : Hp} {l' : List PV} {b : Addr} {xs : List V} (hx : DpAll K F xs l') : ∀ {ls : List (List PV)} {bs : List Addr} {j : Nat}, LsR K H F ls bs → bs.Nodup → bs[j]? = some b → LsR K (upd H b (.lst xs)) F (ls.set j l') bs
  | _, _, _, .nil, _, h => by simp at h
  | _, b' :: bs, 0, .cons h k r, nd, hj => by
    have e : b' = b := by simpa using hj
    subst e
    refine .cons upd_same hx (lsr_stay r (fun c hc o ho => ?_) (Ex.refl _))
    rw [upd_ne (fun e => (List.nodup_cons.mp nd).1 (by rw [← e]; exact hc))]
    exact ho
  | _, b' :: bs, j + 1, .cons h k r, nd, hj => by
    have hj' : bs[j]? = some b := by simpa using hj
    have hne : b' ≠ b := fun e => (List.nodup_cons.mp nd).1 (by rw [e]; exact List.mem_of_getElem? hj')
    refine .cons (by rw [upd_ne hne]; exact h) k (LsR.set hx r (List.nodup_cons.mp nd).2 hj')
section
variable {X : Cx} {o a b : Expr} {da db : DPv} {pos : Pos}
theorem dql_own2 {i : Nat} (h : PE X a (tVar i)) (hb : DP X b db) (hs : PlainIx b) : DQl X (.Subscript a b pos) (dOwn2 i db) :=
  ⟨pe_weak (pe_ix ix_list h hb.pe hs) fun σ H Q ⟨f, A, ρ, l, R, hd, q⟩ => by
    obtain ⟨ls, hls, hd⟩ := Option.bind_eq_some_iff.mp (show (ownLL ρ i).bind _ = some l from hd)
    obtain ⟨y, hy, hd⟩ := Option.bind_eq_some_iff.mp hd
    obtain ⟨k, hk, hd⟩ := Option.bind_eq_some_iff.mp hd
    obtain ⟨j, hj, hl⟩ := Option.bind_eq_some_iff.mp hd
    unfold ownLL at hls
    split at hls
    · rename_i ls' hsl
      cases hls
      obtain ⟨a, bs, h1, h2, h3, h4⟩ := R.sl i _ hsl
      obtain ⟨b, xs, hb1, hb2, hb3⟩ := LsR.get h4 hl
      refine ⟨_, h2, f, A, ρ, y, R, hy, fun w H1 e1 r1 => ?_⟩
      cases as_int r1 hk
      refine ⟨a, bs.map .ref, k, .ref b, rfl, rfl, sl_of (e1 _ _ h3), ?_, q b xs H1 e1 (sl_of (e1 _ _ hb2)) (dpa_ex (mask_mono e1) hb3)⟩
      unfold atI
      rw [List.length_map, ← LsR.length h4, hj]
      show (bs.map V.ref)[j]? = _
      rw [List.getElem?_map, hb1]
      rfl
    · cases hls⟩
theorem ds_append2 {i : Nat} {spos apos cpos : Pos} (ho : PE X o (tVar i)) (hj : DP X a da) (hpl : PlainIx a) (he : DP X b db) (hst : starEach [b] X.env = (false, eval b X.env) :: starEach [] X.env := by rfl)
    (hbase : attributeBase (.Subscript o a spos) "append" X.env (eval (.Subscript o a spos) X.env) = eval (.Subscript o a spos) X.env := by rfl)
    (hfew : ((backTo cpos (starEach [b] X.env)).all (fun x => !x.1) && (backToKw cpos (keywordEach [] X.env)).all (fun x => x.1.isSome)
      && decide ([b].length + ([] : List Keyword).length + (if ([] : List Keyword).isEmpty then 0 else 1) < 30)) = true := by rfl)
    (hline : (apos.endLine == cpos.line) = true := by rfl) (hs : swapsWith (.Call (.Attribute (.Subscript o a spos) "append" apos) [b] [] cpos) none pos.line X.env = pure false := by rfl) :
    DS X (.Expr (.Call (.Attribute (.Subscript o a spos) "append" apos) [b] [] cpos) pos) (dApp2 i da db) :=
  ⟨ps_weak (ps_expr (pe_bm PySem.F.plainAttrs_list PySem.F.slot_list_append PySem.F.type_list_append mt_append (pe_ix ix_list ho hj.pe hpl) (pa_cons he.pe pa_nil hst) hbase hfew hline hst rfl) hs) fun D σ H ⟨f, A, ρ, ρ', fl, R, hd, q⟩ => by
    obtain ⟨ls, hls, hd⟩ := Option.bind_eq_some_iff.mp (show (ownLL ρ i).bind _ = some (ρ', fl) from hd)
    obtain ⟨y, hy, hd⟩ := Option.bind_eq_some_iff.mp hd
    obtain ⟨k, hk, hd⟩ := Option.bind_eq_some_iff.mp hd
    obtain ⟨j, hj, hd⟩ := Option.bind_eq_some_iff.mp hd
    obtain ⟨l, hl, hd⟩ := Option.bind_eq_some_iff.mp hd
    obtain ⟨p, hp, hd⟩ := Option.bind_eq_some_iff.mp hd
    split at hd
    · rename_i hlt
      cases hd
      unfold ownLL at hls
      split at hls
      · rename_i ls' hsl
        cases hls
        obtain ⟨a, bs, h1, h2, h3, h4⟩ := R.sl i _ hsl
        obtain ⟨b, xs, hb1, hb2, hb3⟩ := LsR.get h4 hl
        have nd : (a :: bs).Nodup := by rw [← h1]; exact R.nd i
        have hbm : b ∈ bs := List.mem_of_getElem? hb1
        have hba : b ∈ A i := by rw [h1]; exact List.mem_cons_of_mem _ hbm
        have hne : a ≠ b := fun e => (List.nodup_cons.mp nd).1 (by rw [e]; exact hbm)
        refine ⟨_, h2, f, A, ρ, y, R, hy, fun w H1 e1 r1 => ?_⟩
        cases as_int r1 hk
        refine ⟨a, bs.map .ref, k, .ref b, rfl, rfl, sl_of (e1 _ _ h3), ?_, .inl ⟨rfl, xs, sl_of (e1 _ _ hb2)⟩, f, A, ρ, p, R.mono e1, hp, fun v H2 e2 r2 => ⟨b, xs, v, rfl, rfl, (e1.trans e2) _ _ hb2, by rw [sizeLine_eq, dpa_length hb3]; exact hlt, ?_⟩⟩
        · unfold atI
          rw [List.length_map, ← LsR.length h4, hj]
          show (bs.map V.ref)[j]? = _
          rw [List.getElem?_map, hb1]
          rfl
        · have ee := e1.trans e2
          have hi := (List.getElem?_eq_some_iff.mp hsl).1
          refine q _ _ A ((R.mono ee).write hba hi (fun l w => by rw [hsl] at w; cases w) ⟨a, bs, h1, h2, by rw [upd_ne hne]; exact ee _ _ h3, ?_⟩) ((mask_mono ee).trans (mask_wr (.inr ⟨i, hba⟩)))
          exact LsR.set (dpa_snoc (dpa_ex (mask_mono ee) hb3) r2) (h4.ex ee (mask_mono ee)) (List.nodup_cons.mp nd).2 hb1
      · cases hls
    · cases hd⟩
end
end Dn
end
section
set_option Elab.async false
set_option linter.all false
set_option maxRecDepth 100000
set_option maxHeartbeats 4000000
namespace Dn
open PySem PySem.Spec L2

/-! ### dicts that are made and read -/
def keyP : PV → Option Key
  | .int i => some (.inl i)
  | .str x => some (.inr x)
  | _ => none
def valP (kvs : List (Key × PV)) (k : Key) : Option PV := (kvs.find? fun kv => decide (kv.1 = k)).map (·.2)
def putP (kvs : List (Key × PV)) (k : Key) (v : PV) : List (Key × PV) :=
  if (kvs.any fun kv => decide (kv.1 = k)) = true then kvs.map (fun kv => if kv.1 = k then (kv.1, v) else kv) else kvs ++ [(k, v)]
theorem key_dp {K : PySem.W.Frag} {F : Hp} {v : V} {p : PV} {k : Key} (h : Dp K F v p) (hk : keyP p = some k) : v = kV k := by
  cases p with
  | int i => cases hk; cases h; rfl
  | str i => cases hk; cases h; rfl
  | _ => cases hk
section
variable {K : PySem.W.Frag} {F : Hp}
theorem kv_any {k : Key} : ∀ {ks : List (Key × PV)} {vs : List (Key × V)}, KvR K F ks vs → (vs.any fun kv => decide (kv.1 = k)) = ks.any fun kv => decide (kv.1 = k)
  | _, _, .nil => rfl
  | _, _, .cons h r => by rw [List.any_cons, List.any_cons, kv_any r]
theorem kv_map {k : Key} {v : V} {p : PV} (hv : Dp K F v p) : ∀ {ks : List (Key × PV)} {vs : List (Key × V)}, KvR K F ks vs → KvR K F (ks.map (fun kv => if kv.1 = k then (kv.1, p) else kv)) (vs.map (fun kv => if kv.1 = k then (kv.1, v) else kv))
  | _, _, .nil => .nil
  | _, _, .cons (k := k') (d := d) (v := v') h r => by
    rw [List.map_cons, List.map_cons]
    by_cases e : k' = k
    · rw [if_pos e, if_pos e]; exact .cons hv (kv_map hv r)
    · rw [if_neg e, if_neg e]; exact .cons h (kv_map hv r)
theorem kv_app {k : Key} {v : V} {p : PV} (hv : Dp K F v p) : ∀ {ks : List (Key × PV)} {vs : List (Key × V)}, KvR K F ks vs → KvR K F (ks ++ [(k, p)]) (vs ++ [(k, v)])
  | _, _, .nil => .cons hv .nil
  | _, _, .cons h r => .cons h (kv_app hv r)
theorem kv_put {k : Key} {v : V} {p : PV} (hv : Dp K F v p) {ks : List (Key × PV)} {vs : List (Key × V)} (h : KvR K F ks vs) : KvR K F (putP ks k p) (putK vs k v) := by
  unfold putP putK
  rw [kv_any h]
  split
  · exact kv_map hv h
  · exact kv_app hv h
theorem kv_len : ∀ {ks : List (Key × PV)} {vs : List (Key × V)}, KvR K F ks vs → vs.length = ks.length
  | _, _, .nil => rfl
  | _, _, .cons h r => congrArg (· + 1) (kv_len r)
theorem kv_val {k : Key} : ∀ {ks : List (Key × PV)} {vs : List (Key × V)} {p : PV}, KvR K F ks vs → valP ks k = some p → ∃ v, valV vs k = some v ∧ Dp K F v p
  | _, _, _, .nil, h => by cases h
  | _, _, p, .cons (k := k') (d := d) (v := v') (ks := ks) (vs := vs) h r, hp => by
    unfold valP at hp
    rw [List.find?_cons] at hp
    by_cases e : k' = k
    · rw [show decide ((k', d).1 = k) = true from decide_eq_true e] at hp
      cases hp
      exact ⟨v', by rw [valV_pos (p := (k', v')) e], h⟩
    · rw [show decide ((k', d).1 = k) = false from decide_eq_false e] at hp
      obtain ⟨w, hw, rw'⟩ := kv_val (k := k) r hp
      refine ⟨w, ?_, rw'⟩
      unfold valV at hw ⊢
      rw [List.find?_cons, show decide ((k', v').1 = k) = false from decide_eq_false e]
      exact hw
end
def compKV (t : Tg) (tk tv : DPv) (ρ : En) : List PV → List (Key × PV) → Option (List (Key × PV))
  | [], acc => some acc
  | x :: xs, acc => (tgB t x ρ).bind fun ρ1 => (tk ρ1).bind fun y => (keyP y).bind fun k => (tv ρ1).bind fun z => if acc.length < 16777216 then compKV t tk tv ρ xs (putP acc k z) else none
def dDict (di : DQv) (t : Tg) (vs : List Nat) (tk tv : DPv) : En → Option (List (Key × PV)) := fun ρ => (di ρ).bind fun l => (wipeE ρ vs).bind fun ρw => compKV t tk tv ρw l []
def tDd (K : PySem.W.Frag) (d : En → Option (List (Key × PV))) : TE := fun σ H Q => ∃ f A ρ kvs, RS K f A ρ σ H ∧ d ρ = some kvs ∧ ∀ a xs H1, H a = none → Ex H H1 → H1 a = some (.dK xs) → KvR K (mask H1 (own (f.aside a) A)) kvs xs → Q (.ref a) H1
theorem dDict_read {K : PySem.W.Frag} {di : DQv} {t : Tg} {vs : List Nat} {tk tv : DPv} (hsub : ∀ j ∈ tgS t, j ∈ vs) {σ : St} {H : Hp} {Q : VK} (h : tDd K (dDict di t vs tk tv) σ H Q) : tDc (tIc K di) (tG K (tgB t) (tgS t)) (tT K dYes) (tP K tk) (tP K tv) vs σ H Q := by
  obtain ⟨f, A, ρ, z, R, hd, q⟩ := h
  unfold dDict at hd
  obtain ⟨l, hl', hd⟩ := Option.bind_eq_some_iff.mp hd
  obtain ⟨ρw, hw, hz'⟩ := Option.bind_eq_some_iff.mp hd
  refine ⟨f, A, ρ, l, R, hl', fun J H1 e1 W D hD => ?_⟩
  have R1 := R.mono e1
  have hB : f.B D = none := R1.ext.back hD
  have hA : ∀ i, D ∉ A i := fun i w => R1.there (.inr ⟨i, w⟩) hD
  have oD : own (f.aside D) A D := own_aside.mpr (.inr rfl)
  let Wn : Nat → Hp → Prop := fun i H' => i ≤ l.length ∧ ∃ acc xs, compKV t tk tv ρw (l.drop i) acc = some z ∧ RS K (f.aside D) A ρ σ H' ∧ Ex H1 H' ∧ H' D = some (.dK xs) ∧ KvR K (mask H' (own (f.aside D) A)) acc xs
  refine ⟨fun i m H' => m = l.length - i ∧ Wn i H', ⟨l.length, rfl, Nat.zero_le _, [], [], hz', R1.aside hD, Ex.new hD, upd_same, .nil⟩, ?_⟩
  rintro i m H' ⟨rfl, hi, acc, xs, hc, RA, eH, hDx, hx⟩
  obtain ⟨wstop, wgo⟩ := W i H' eH
  by_cases hlt : i < l.length
  · right
    obtain ⟨go, yld⟩ := wgo _ (List.getElem?_eq_getElem hlt)
    refine ⟨go, fun H'' => Wn (i + 1) H'', fun H'' w => ⟨l.length - (i + 1), by omega, rfl, w⟩, fun x H2 hy => ?_⟩
    obtain ⟨e2, hdp⟩ := yld x H2 hy
    have RA2 := RA.mono e2
    have hxd : Dp K (mask H2 (own (f.aside D) A)) x l[i] := hdp (own (f.aside D) A) (fun a ha => RA.fresh ha) (mask_to fun a o h1 h2 => ⟨fun w => (by
      rcases own_aside.mp w with w | w
      · exact h1 w
      · subst w; rw [hD] at h2; cases h2), eH a o h2⟩)
    obtain ⟨RW, hnil⟩ := RS.wipe RA2 hw
    rw [List.drop_eq_getElem_cons hlt] at hc
    obtain ⟨ρ1, hb1, hc⟩ := Option.bind_eq_some_iff.mp (show (tgB t l[i] ρw).bind _ = some z from hc)
    obtain ⟨y, hy1, hc⟩ := Option.bind_eq_some_iff.mp hc
    obtain ⟨k, hk, hc⟩ := Option.bind_eq_some_iff.mp hc
    obtain ⟨zv, hzv, hc⟩ := Option.bind_eq_some_iff.mp hc
    split at hc
    · rename_i hsz
      have dA : dropA A (tgS t) = A := dropA_same fun j hj => hnil j (hsub j hj)
      refine ⟨f.aside D, A, ρw, l[i], ρ1, RW, hxd, hb1, fun σ2 R2 k2 => ?_⟩
      rw [dA] at R2
      have hlen : σ2.length = σ.length := by
        have h1 := R2.len
        have h2 := RW.len
        rw [wipe_length] at h2
        have h3 := tgB_len t _ _ _ hb1
        omega
      refine ⟨wipe_same hlen fun j hj => k2 j fun w => hj (hsub j w), ?_⟩
      refine ⟨f.aside D, A, ρ1, true, R2, rfl, fun H3 e3 => ?_⟩
      show tP K tk σ2 H3 fun y H4 => tP K tv σ2 H4 fun z H5 => ∃ kvs k, y = kV k ∧ H5 D = some (.dK kvs) ∧ kvs.length < sizeLine ∧ Wn (i + 1) (upd H5 D (.dK (putK kvs k z)))
      refine ⟨f.aside D, A, ρ1, y, R2.mono e3, hy1, fun v H4 e4 rv => ⟨f.aside D, A, ρ1, zv, R2.mono (e3.trans e4), hzv, fun u H5 e5 ru => ?_⟩⟩
      have eall : Ex H' H5 := e2.trans (e3.trans (e4.trans e5))
      refine ⟨xs, k, key_dp rv hk, eall _ _ hDx, by rw [sizeLine_eq, kv_len hx]; exact hsz, ?_⟩
      refine ⟨by omega, _, _, hc, (RA.mono eall).asideW hB hA, fun a o h => ?_, upd_same, ?_⟩
      · rw [upd_ne (ne_of_none h hD)]
        exact (eH.trans eall) a o h
      · rw [mask_own oD]
        exact kv_put ru (hx.ex (mask_mono eall))
    · cases hc
  · left
    have ei : i = l.length := by omega
    refine ⟨wstop ei, ?_⟩
    subst ei
    rw [List.drop_length] at hc
    have er : acc = z := Option.some.inj (show some acc = some z from hc)
    subst er
    exact q D xs H' (e1.back hD) (e1.trans eH) hDx hx
def dAsgD (i : Nat) (q : En → Option (List (Key × PV))) : DSv := fun ρ => (q ρ).bind fun l => (setS ρ i (.fd l)).map fun ρ' => (ρ', .nx)
section
variable {X : Cx} {kx vx tg iter e a b : Expr} {scope : Scope} {own' : List (Str × Nat)} {pos : Pos} {di : DQv} {t : Tg} {tk tv da db : DPv}
theorem ds_asgD {i : Nat} {x : Str} {pos' spos : Pos} (hc : X.calm = true) (hN : X.N.Nodup) (hi' : X.N[i]? = some x) (hx : Loc X.env.scope x) (hi : DC X tg iter di) (ok : BlkOk X.N X.env.scope scope own') (hsub : ∀ j ∈ tgS t, j ∈ own'.map (·.2))
    (hg : ∀ (s : Shared) (H : Hp) (C : Addr) (cl : List (Str × Addr)) (fp : List Addr), DG (X.blk s H scope (compEnvC scope cl C X.env) fp) tg t)
    (hk : ∀ (s : Shared) (H : Hp) (C : Addr) (cl : List (Str × Addr)) (fp : List Addr), DP (X.blk s H scope (compEnvC scope cl C X.env) fp) kx tk)
    (hv : ∀ (s : Shared) (H : Hp) (C : Addr) (cl : List (Str × Addr)) (fp : List Addr), DP (X.blk s H scope (compEnvC scope cl C X.env) fp) vx tv) (hs : ∀ x, foldedSetIterable iter X.env x = pure x := by intro _; rfl)
    (hsw : swapsWith (.DictComp kx vx [⟨tg, iter, [], 0⟩] scope pos) (some (.Name x pos')) spos.line X.env = pure false := by rfl) (hf : X.fn x = true ∨ X.env.scope.names.lookup x = some .local := by first | exact .inl rfl | exact .inr rfl | assumption) :
    DS X (.Assign [.Name x pos'] (.DictComp kx vx [⟨tg, iter, [], 0⟩] scope pos) spos) (dAsgD i (dDict di t (own'.map (·.2)) tk tv)) :=
  ⟨ps_weak (ps_set hN hi' hx (pe_dc hc hN hi.pi ok (fun s H C cl fp => (hg s H C cl fp).pg) (fun s H C cl fp => (dts_nil (X := X.blk s H scope (compEnvC scope cl C X.env) fp)).pts) (fun s H C cl fp => (hk s H C cl fp).pe) (fun s H C cl fp => (hv s H C cl fp).pe) hs) hsw hf) fun D σ H ⟨f, A, ρ, ρ', fl, R, hd, q⟩ => by
    obtain ⟨l, hl, hd⟩ := Option.bind_eq_some_iff.mp (show (dDict di t (own'.map (·.2)) tk tv ρ).bind _ = some (ρ', fl) from hd)
    obtain ⟨ρ1, h1, e⟩ := Option.map_eq_some_iff.mp hd
    cases e
    obtain ⟨rfl, hlt, hox⟩ := setS_some h1
    refine dDict_read hsub ⟨f, A, ρ, l, R, hl, fun a xs H1 hn e1 ha hx => ?_⟩
    have hm : Ex (mask H1 (own (f.aside a) A)) (mask H1 (own f A)) := mask_less fun b hb => own_aside.mpr (.inl hb)
    exact q _ H1 _ ((R.mono e1).drop (s := .fd l) (v := some (.ref a)) hox ⟨rfl, a, xs, rfl, mask_some.mpr ⟨R.fresh hn, ha⟩, hx.ex hm⟩) ((mask_mono e1).trans dropA_ex)⟩
def dGet (i : Nat) (db : DPv) : DPv := fun ρ => match ρ[i]? with
  | some (.fd kvs) => (db ρ).bind fun y => (keyP y).bind fun k => valP kvs k
  | _ => none
theorem dp_get {i : Nat} (hu : X.A.units + 1 < cLine) (ho : PE X a (tVar i)) (hb : DP X b db) (hs : NoSl b) : DP X (.Subscript a b pos) (dGet i db) :=
  ⟨pe_weak (pe_dget hu ho hb.pe hs) fun σ H Q ⟨f, A, ρ, p, R, hd, q⟩ => by
    unfold dGet at hd
    split at hd
    · rename_i kvs hk
      obtain ⟨y, hy, hd⟩ := Option.bind_eq_some_iff.mp hd
      obtain ⟨k, hkk, hp⟩ := Option.bind_eq_some_iff.mp hd
      obtain ⟨_, a, xs, h2, h3, h4⟩ := R.sl i _ hk
      obtain ⟨v, hv, r⟩ := kv_val h4 hp
      refine ⟨_, h2, f, A, ρ, y, R, hy, fun w H1 e1 r1 => ?_⟩
      have hka := key_dp r1 hkk
      subst hka
      refine ⟨a, v, rfl, ?_, q v H1 e1 (dp_ex (mask_mono e1) r)⟩
      rw [← hv]
      exact DGet.k (e1 _ _ (mask_some.mp h3).2)
    · cases hd⟩
end
end Dn
end
section
set_option Elab.async false
set_option linter.all false
set_option maxRecDepth 100000
set_option maxHeartbeats 4000000
/-! expressions that change a list of the def's own (by a call) -/
namespace Dn
open PySem PySem.Spec L2

abbrev DEv := En → Option (PV × En)
abbrev DTEv := En → Option (Bool × En)
abbrev DQEv := En → Option (List PV × En)
/-- what is kept: the owned addresses, the slots -/
def Kept (K : PySem.W.Frag) (f : Fm) (A : Nat → List Addr) (ρ' : En) (σ : St) (H H1 : Hp) : Prop := RS K f A ρ' σ H1 ∧ Ex (mask H (own f A)) (mask H1 (own f A)) ∧ (∀ a, H a ≠ none → H1 a ≠ none) ∧ (∀ a o, f.O0 a → H a = some o → H1 a = some o)
theorem Kept.trans {K : PySem.W.Frag} {f : Fm} {A : Nat → List Addr} {ρ1 ρ2 : En} {σ : St} {H H1 H2 : Hp} (a : Kept K f A ρ1 σ H H1) (b : Kept K f A ρ2 σ H1 H2) : Kept K f A ρ2 σ H H2 := ⟨b.1, a.2.1.trans b.2.1, fun x h => b.2.2.1 x (a.2.2.1 x h), fun x o h k => b.2.2.2 x o h (a.2.2.2 x o h k)⟩
theorem Kept.of {K : PySem.W.Frag} {f : Fm} {A : Nat → List Addr} {ρ : En} {σ : St} {H H1 : Hp} (R : RS K f A ρ σ H) (e : Ex H H1) : Kept K f A ρ σ H H1 := ⟨R.mono e, mask_mono e, fun x h => e.some h, fun x o _ k => e x o k⟩
def tE (K : PySem.W.Frag) (d : DEv) : TE := fun σ H Q => ∃ f A ρ p ρ', RS K f A ρ σ H ∧ d ρ = some (p, ρ') ∧ ∀ v H1, Kept K f A ρ' σ H H1 → Dp K (mask H1 (own f A)) v p → Q v H1
def tTE (K : PySem.W.Frag) (d : DTEv) : TT := fun σ H Q => ∃ f A ρ b ρ', RS K f A ρ σ H ∧ d ρ = some (b, ρ') ∧ ∀ H1, Kept K f A ρ' σ H H1 → Q b H1
def tAE (K : PySem.W.Frag) (d : DQEv) : TA := fun σ H Q => ∃ f A ρ l ρ', RS K f A ρ σ H ∧ d ρ = some (l, ρ') ∧ ∀ vs H1, Kept K f A ρ' σ H H1 → DpAll K (mask H1 (own f A)) vs l → Q vs H1
structure DE (X : Cx) (e : Expr) (d : DEv) : Prop where pe : PE X e (tE X.K d)
structure DTE (X : Cx) (e : Expr) (d : DTEv) : Prop where pt : PT X e (tTE X.K d)
structure DWE (X : Cx) (e : Expr) (d : DTEv) : Prop where pw : PW X e (tTE X.K d)
structure DAE (X : Cx) (es : List Expr) (d : DQEv) : Prop where pa : PA X es (tAE X.K d)
def ePure (d : DPv) : DEv := fun ρ => (d ρ).map fun p => (p, ρ)
def eTPure (d : DTv) : DTEv := fun ρ => (d ρ).map fun p => (p, ρ)
section
variable {X : Cx} {e a b c : Expr} {es rest : List Expr} {da db : DPv} {ea eb : DEv} {qe : DQEv} {te ue : DTEv} {pos p : Pos}
theorem de_p (h : DP X e da) : DE X e (ePure da) := ⟨pe_weak h.pe fun σ H Q ⟨f, A, ρ, p, ρ', R, hd, q⟩ => by
  obtain ⟨x, hx, e⟩ := Option.map_eq_some_iff.mp (show (da ρ).map _ = some (p, ρ') from hd)
  cases e
  exact ⟨f, A, ρ, p, R, hx, fun v H1 e1 r1 => q v H1 (.of R e1) r1⟩⟩
theorem dte_t {ta : DTv} (h : DT X e ta) : DTE X e (eTPure ta) := ⟨pt_weak h.pt fun σ H Q ⟨f, A, ρ, p, ρ', R, hd, q⟩ => by
  obtain ⟨x, hx, e⟩ := Option.map_eq_some_iff.mp (show (ta ρ).map _ = some (p, ρ') from hd)
  cases e
  exact ⟨f, A, ρ, p, R, hx, fun H1 e1 => q H1 (.of R e1)⟩⟩
def eB (g : PV → PV → Option PV) (ea eb : DEv) : DEv := fun ρ => (ea ρ).bind fun r => (eb r.2).bind fun s => (g r.1 s.1).map fun z => (z, s.2)
theorem ebinw {K : PySem.W.Frag} {r : R2} {g : PV → PV → Option PV} (hs : OpS K r g) {σ : St} {H : Hp} {Q : VK} (h : tE K (eB g ea eb) σ H Q) : tOp r (tE K ea) (tE K eb) σ H Q := by
  obtain ⟨f, A, ρ, z, ρ', R, hd, q⟩ := h
  obtain ⟨⟨x, ρ1⟩, hx, hd⟩ := Option.bind_eq_some_iff.mp (show (ea ρ).bind _ = some (z, ρ') from hd)
  obtain ⟨⟨y, ρ2⟩, hy, hd⟩ := Option.bind_eq_some_iff.mp hd
  obtain ⟨z', hz, e⟩ := Option.map_eq_some_iff.mp hd
  cases e
  refine ⟨f, A, ρ, x, ρ1, R, hx, fun v H1 k1 r1 => ⟨f, A, ρ1, y, ρ2, k1.1, hy, fun w H2 k2 r2 => ?_⟩⟩
  exact hs H2 (own f A) x y v w z Q (fun a ha => k2.1.fresh ha) (dp_ex k2.2.1 r1) r2 hz fun u H3 e3 r3 => q u H3 ((k1.trans k2).trans (.of k2.1 e3)) r3
theorem de_op {op : Operator} {r : R2} {g : PV → PV → Option PV} (ho : OpR X (binaryOp op) r) (hs : OpS X.K r g) (ha : DE X a ea) (hb : DE X b eb) : DE X (.BinOp a op b pos) (eB g ea eb) := ⟨pe_weak (pe_op ho ha.pe hb.pe) fun σ H Q h => ebinw hs h⟩
theorem de_cmp {op : CmpOp} {r : R2} {g : PV → PV → Option PV} (ho : OpR X (compareOp op) r) (hs : OpS X.K r g) (ha : DE X a ea) (hb : DE X b eb) (hm : behindInMarks op b = false) : DE X (.Compare a [op] [b] pos) (eB g ea eb) := ⟨pe_weak (pe_cmpR ho ha.pe hb.pe hm) fun σ H Q h => ebinw hs h⟩
def eTst (ea : DEv) : DTEv := fun ρ => (ea ρ).bind fun r => (asBool r.1).map fun k => (k, r.2)
theorem etstw {K : PySem.W.Frag} {σ : St} {H : Hp} {Q : Bool → Hp → Prop} (h : tTE K (eTst ea) σ H Q) : tE K ea σ H fun x H' => ∃ k, x = .bl k ∧ Q k H' := by
  obtain ⟨f, A, ρ, k, ρ', R, hd, q⟩ := h
  obtain ⟨⟨p, ρ1⟩, hp, hd⟩ := Option.bind_eq_some_iff.mp (show (ea ρ).bind _ = some (k, ρ') from hd)
  obtain ⟨k', hk, e⟩ := Option.map_eq_some_iff.mp hd
  cases e
  exact ⟨f, A, ρ, p, _, R, hp, fun v H1 k1 r1 => ⟨k, as_bl r1 hk, q H1 k1⟩⟩
theorem dte_cmp {op : CmpOp} {r : R2} {g : PV → PV → Option PV} (ho : OpR X (compareOp op) r) (hs : OpS X.K r g) (ha : DE X a ea) (hb : DE X b eb) (hm : behindInMarks op b = false) : DTE X (.Compare a [op] [b] pos) (eTst (eB g ea eb)) :=
  ⟨pt_weak (pt_cmpR ho ha.pe hb.pe hm) fun σ H Q h => by
    show tOp r (tE X.K ea) (tE X.K eb) σ H fun x H' => ∃ k, x = .bl k ∧ Q k H'
    exact ebinw hs (etstw h)⟩
theorem de_add (ha : DE X a ea) (hb : DE X b eb) : DE X (.BinOp a .Add b pos) (eB pAdd ea eb) := de_op op_addAll ops_add ha hb
theorem de_sub (ha : DE X a ea) (hb : DE X b eb) : DE X (.BinOp a .Sub b pos) (eB pSub ea eb) := de_op op_sub (ops_II fun _ _ _ => .int _) ha hb
theorem de_mul (ha : DE X a ea) (hb : DE X b eb) : DE X (.BinOp a .Mult b pos) (eB pMul ea eb) := de_op op_mul (ops_IIc (fun i j h => by unfold CMul; exact h) fun _ _ _ => .int _) ha hb
theorem de_mod (ha : DE X a ea) (hb : DE X b eb) : DE X (.BinOp a .Mod b pos) (eB pMod ea eb) := de_op op_mod (ops_IIc (fun i j h => h) fun _ _ _ => .int _) ha hb
theorem de_lt (ha : DE X a ea) (hb : DE X b eb) : DE X (.Compare a [.Lt] [b] pos) (eB pLt ea eb) := de_cmp op_lt (ops_II fun _ _ _ => .bl _) ha hb (nomark _)
theorem de_gt (ha : DE X a ea) (hb : DE X b eb) : DE X (.Compare a [.Gt] [b] pos) (eB pGt ea eb) := de_cmp op_gt (ops_II fun _ _ _ => .bl _) ha hb (nomark _)
theorem dte_gt (ha : DE X a ea) (hb : DE X b eb) : DTE X (.Compare a [.Gt] [b] pos) (eTst (eB pGt ea eb)) := dte_cmp op_gt (ops_II fun _ _ _ => .bl _) ha hb (nomark _)
theorem dte_lt (ha : DE X a ea) (hb : DE X b eb) : DTE X (.Compare a [.Lt] [b] pos) (eTst (eB pLt ea eb)) := dte_cmp op_lt (ops_II fun _ _ _ => .bl _) ha hb (nomark _)
theorem de_eq (hu : X.A.units + 64 < cLine) (ha : DE X a ea) (hb : DE X b eb) : DE X (.Compare a [.Eq] [b] pos) (eB pEq ea eb) := de_cmp (op_eqD hu) ops_eq ha hb (nomark _)
theorem dte_eq (hu : X.A.units + 64 < cLine) (ha : DE X a ea) (hb : DE X b eb) : DTE X (.Compare a [.Eq] [b] pos) (eTst (eB pEq ea eb)) := dte_cmp (op_eqD hu) ops_eq ha hb (nomark _)
theorem dte_ne (hu : X.A.units + 64 < cLine) (ha : DE X a ea) (hb : DE X b eb) : DTE X (.Compare a [.NotEq] [b] pos) (eTst (eB pNe ea eb)) := dte_cmp (op_neD hu) ops_ne ha hb (nomark _)
theorem dte_w (h : DWE X a te) : DTE X a te := ⟨h.pw.pt⟩
theorem dwe_and1 (ha : DTE X a te) : DWE X (.BoolOp .And [a] pos) te := ⟨pw_and1 ha.pt⟩
def eAnd (ta tb : DTEv) : DTEv := fun ρ => (ta ρ).bind fun r => if r.1 = true then tb r.2 else some (false, r.2)
theorem dwe_and (ha : DTE X a te) (hb : DWE X (.BoolOp .And (b :: rest) pos) ue) : DWE X (.BoolOp .And (a :: b :: rest) pos) (eAnd te ue) :=
  ⟨pw_weak (pw_and ha.pt hb.pw) fun σ H Q ⟨f, A, ρ, k, ρ', R, hd, q⟩ => by
    obtain ⟨⟨x, ρ1⟩, hx, hk⟩ := Option.bind_eq_some_iff.mp (show (te ρ).bind _ = some (k, ρ') from hd)
    refine ⟨f, A, ρ, x, ρ1, R, hx, fun H1 k1 => ?_⟩
    cases x with
    | true => exact ⟨f, A, ρ1, k, ρ', k1.1, by simpa using hk, fun H2 k2 => q H2 (k1.trans k2)⟩
    | false =>
      have : false = k ∧ ρ1 = ρ' := by simpa using hk
      obtain ⟨rfl, rfl⟩ := this
      exact q H1 k1⟩
/-! items, slices, argument lists -/
def eIx (qa : DPv) (eb : DEv) : DEv := fun ρ => (qa ρ).bind fun x => (asSeq x).bind fun l => (eb ρ).bind fun r => (asInt r.1).bind fun i => (atI l i).map fun p => (p, r.2)
theorem de_ix (ha : DP X a da) (hb : DE X b eb) (hs : PlainIx b) : DE X (.Subscript a b pos) (eIx da eb) :=
  ⟨pe_weak (pe_ix (ix_list.or ix_tup) ha.pe hb.pe hs) fun σ H Q ⟨f, A, ρ, p, ρ', R, hd, q⟩ => by
    obtain ⟨x, hx, hd⟩ := Option.bind_eq_some_iff.mp (show (da ρ).bind _ = some (p, ρ') from hd)
    obtain ⟨l, hl, hd⟩ := Option.bind_eq_some_iff.mp hd
    obtain ⟨⟨y, ρ1⟩, hy, hd⟩ := Option.bind_eq_some_iff.mp hd
    obtain ⟨i, hi, hd⟩ := Option.bind_eq_some_iff.mp hd
    obtain ⟨p', hp, e⟩ := Option.map_eq_some_iff.mp hd
    cases e
    refine ⟨f, A, ρ, x, R, hx, fun v H1 e1 r1 => ⟨f, A, ρ, y, _, R.mono e1, hy, fun w H2 k2 r2 => ?_⟩⟩
    cases as_int r2 hi
    obtain ⟨bb, a, xs, rfl, h1, h2⟩ := seqF (dp_ex k2.2.1 r1) hl
    obtain ⟨u, hu, r⟩ := atI_dpa h2 hp
    cases bb with
    | false => exact .inl ⟨a, xs, i, u, rfl, rfl, sl_ex mask_ex h1, hu, q u H2 ((Kept.of R e1).trans k2) r⟩
    | true => exact .inr ⟨a, xs, i, u, rfl, rfl, st_ex mask_ex h1, hu, q u H2 ((Kept.of R e1).trans k2) r⟩⟩
def eNil : DQEv := fun ρ => some ([], ρ)
def eCons (ea : DEv) (qe : DQEv) : DQEv := fun ρ => (ea ρ).bind fun r => (qe r.2).map fun s => (r.1 :: s.1, s.2)
theorem dae_nil : DAE X [] eNil := ⟨pa_weak pa_nil fun σ H Q ⟨f, A, ρ, l, ρ', R, hd, q⟩ => by
  cases hd
  exact q [] H (.of R (Ex.refl H)) .nil⟩
theorem dae_cons (ha : DE X e ea) (hr : DAE X es qe) (hs : starEach (e :: es) X.env = (false, eval e X.env) :: starEach es X.env := by rfl) : DAE X (e :: es) (eCons ea qe) :=
  ⟨pa_weak (pa_cons ha.pe hr.pa hs) fun σ H Q ⟨f, A, ρ, l, ρ', R, hd, q⟩ => by
    obtain ⟨⟨x, ρ1⟩, hx, hd⟩ := Option.bind_eq_some_iff.mp (show (ea ρ).bind _ = some (l, ρ') from hd)
    obtain ⟨⟨r, ρ2⟩, hr, e⟩ := Option.map_eq_some_iff.mp hd
    cases e
    exact ⟨f, A, ρ, x, ρ1, R, hx, fun v H1 k1 r1 => ⟨f, A, ρ1, r, _, k1.1, hr, fun vs H2 k2 r2 => q _ H2 (k1.trans k2) (.cons (dp_ex k2.2.1 r1) r2)⟩⟩⟩
def eTup (qe : DQEv) : DEv := fun ρ => (qe ρ).bind fun r => (lim r.1).map fun l => (.tuple l, r.2)
theorem de_tup {x1} (hr : DAE X es qe) : DE X (.Tuple es x1 pos) (eTup qe) :=
  ⟨pe_weak (pe_tup hr.pa) fun σ H Q ⟨f, A, ρ, p, ρ', R, hd, q⟩ => by
    obtain ⟨⟨l, ρ1⟩, hl, hd⟩ := Option.bind_eq_some_iff.mp (show (qe ρ).bind _ = some (p, ρ') from hd)
    obtain ⟨l', hl', e⟩ := Option.map_eq_some_iff.mp hd
    cases e
    obtain ⟨rfl, hz⟩ := lim_some hl'
    refine ⟨f, A, ρ, l', _, R, hl, fun vs H1 k1 r1 => ⟨by rw [sizeLine_eq, dpa_length r1]; exact hz, fun p hp => ?_⟩⟩
    have e2 : Ex H1 (upd H1 p (.tup vs)) := Ex.new hp
    exact q _ _ (k1.trans (.of k1.1 e2)) (.tup (st_of (mask_some.mpr ⟨k1.1.fresh hp, upd_same⟩)) (dpa_ex (mask_mono e2) r1))⟩
def eG (g : List PV → Option PV) (qe : DQEv) : DEv := fun ρ => (qe ρ).bind fun r => (g r.1).map fun z => (z, r.2)
theorem de_callV1 {x : Str} {r : List V → Hp → VK → Prop} {g : List PV → Option PV} (hc : Calls1 X x r) (hs : BV X.K r g) (ha : DAE X [e] qe) (he : starEach [e] X.env = (false, eval e X.env) :: starEach [] X.env := by rfl) : DE X (.Call (.Name x p) [e] [] pos) (eG g qe) :=
  ⟨pe_weak (hc e p pos _ ha.pa he) fun σ H Q ⟨f, A, ρ, z, ρ', R, hd, q⟩ => by
    obtain ⟨⟨l, ρ1⟩, hl, hd⟩ := Option.bind_eq_some_iff.mp (show (qe ρ).bind _ = some (z, ρ') from hd)
    obtain ⟨z', hz, e⟩ := Option.map_eq_some_iff.mp hd
    cases e
    exact ⟨f, A, ρ, l, _, R, hl, fun vs H1 k1 r1 => hs H1 _ vs l z Q (fun a ha => k1.1.fresh ha) r1 hz fun u H2 e2 r2 => q u H2 (k1.trans (.of k1.1 e2)) r2⟩⟩
/-- a[lo:hi], the end with an effect -/
abbrev DOEv := En → Option (Option Int × En)
def tOE (K : PySem.W.Frag) (d : DOEv) : TO := fun σ H Q => ∃ f A ρ o ρ', RS K f A ρ σ H ∧ d ρ = some (o, ρ') ∧ ∀ H1, Kept K f A ρ' σ H H1 → Q o H1
structure DOE (X : Cx) (e : Option Expr) (d : DOEv) : Prop where po : PO X e (tOE X.K d)
def ePart (ea : DEv) : DOEv := fun ρ => (ea ρ).bind fun r => (asInt r.1).map fun i => (some i, r.2)
def eNoPart : DOEv := fun ρ => some (none, ρ)
theorem doe_none : DOE X none eNoPart := ⟨po_weak po_none fun σ H Q ⟨f, A, ρ, o, ρ', R, hd, q⟩ => by
  cases hd; exact q H (.of R (Ex.refl H))⟩
theorem doe_some (h : DE X e ea) : DOE X (some e) (ePart ea) := ⟨po_weak (po_some h.pe) fun σ H Q ⟨f, A, ρ, o, ρ', R, hd, q⟩ => by
  obtain ⟨⟨p, ρ1⟩, hp, hd⟩ := Option.bind_eq_some_iff.mp (show (ea ρ).bind _ = some (o, ρ') from hd)
  obtain ⟨i, hi, e⟩ := Option.map_eq_some_iff.mp hd
  cases e
  exact ⟨f, A, ρ, p, _, R, hp, fun v H1 k1 r1 => ⟨i, as_int r1 hi, q H1 k1⟩⟩⟩
def eCut (da : DPv) (dl dh : DOEv) : DEv := fun ρ => (da ρ).bind fun p => (dl ρ).bind fun x => (dh x.2).bind fun y => (cutV' x.1 y.1 p).map fun z => (z, y.2)
theorem de_cut {lo hi : Option Expr} {dl dh : DOEv} {p2 : Pos} (ha : DP X a da) (hl : DOE X lo dl) (hh : DOE X hi dh) : DE X (.Subscript a (.Slice lo hi none p2) pos) (eCut da dl dh) :=
  ⟨pe_weak (pe_slice (L2.SlR.or sl_list sl_tupA) ha.pe hl.po hh.po) fun σ H Q ⟨f, A, ρ, z, ρ', R, hd, q⟩ => by
    obtain ⟨p, hp, hd⟩ := Option.bind_eq_some_iff.mp (show (da ρ).bind _ = some (z, ρ') from hd)
    obtain ⟨⟨x, ρ1⟩, hx, hd⟩ := Option.bind_eq_some_iff.mp hd
    obtain ⟨⟨y, ρ2⟩, hy, hd⟩ := Option.bind_eq_some_iff.mp hd
    obtain ⟨z', hz, e⟩ := Option.map_eq_some_iff.mp hd
    cases e
    refine ⟨f, A, ρ, p, R, hp, fun v H1 e1 r1 => ⟨f, A, ρ, x, ρ1, R.mono e1, hx, fun H2 k2 => ⟨f, A, ρ1, y, _, k2.1, hy, fun H3 k3 => ?_⟩⟩⟩
    have kk := k2.trans k3
    have r3 := dp_ex kk.2.1 r1
    have R3 := kk.1
    have qq := fun u H' k => q u H' ((Kept.of R e1).trans (kk.trans k))
    cases p with
    | list l =>
      cases hz
      cases r3 with
      | @lst a xs _ h1 h2 =>
        refine .inl ⟨a, xs, rfl, sl_ex mask_ex h1, fun p hp => ?_⟩
        have e4 : Ex H3 (upd H3 p (.lst (cutV xs x y))) := Ex.new hp
        exact qq _ _ (.of R3 e4) (.lst (sl_of (mask_some.mpr ⟨R3.fresh hp, upd_same⟩)) (dpa_ex (mask_mono e4) (cut_dpa h2 x y)))
    | tuple l =>
      cases hz
      cases r3 with
      | @tup a xs _ h1 h2 =>
        refine .inr ⟨a, xs, rfl, st_ex mask_ex h1, fun w => ?_, fun _ p hp => ?_⟩
        · rw [dpa_length h2] at w
          rw [cutP_all w] at qq
          exact qq _ H3 (.of R3 (Ex.refl _)) (.tup h1 h2)
        · have e4 : Ex H3 (upd H3 p (.tup (cutV xs x y))) := Ex.new hp
          exact qq _ _ (.of R3 e4) (.tup (st_of (mask_some.mpr ⟨R3.fresh hp, upd_same⟩)) (dpa_ex (mask_mono e4) (cut_dpa h2 x y)))
    | _ => cases hz⟩
/-! statements -/
def eAsg (i : Nat) (ea : DEv) : DSv := fun ρ => (ea ρ).bind fun r => (setS r.2 i (.fz r.1)).map fun ρ' => (ρ', .nx)
theorem ds_asgE {i : Nat} {x : Str} {pos' : Pos} (hN : X.N.Nodup) (hi : X.N[i]? = some x) (hx : Loc X.env.scope x) (he : DE X e ea) (hs : swapsWith e (some (.Name x pos')) pos.line X.env = pure false := by rfl) (hf : X.fn x = true ∨ X.env.scope.names.lookup x = some .local := by first | exact .inl rfl | exact .inr rfl | assumption) :
    DS X (.Assign [.Name x pos'] e pos) (eAsg i ea) := ⟨ps_weak (ps_set hN hi hx he.pe hs hf) fun D σ H ⟨f, A, ρ, ρ', fl, R, hd, q⟩ => by
  obtain ⟨⟨p, ρ1⟩, hp, hd⟩ := Option.bind_eq_some_iff.mp (show (ea ρ).bind _ = some (ρ', fl) from hd)
  obtain ⟨ρ2, h1, e⟩ := Option.map_eq_some_iff.mp hd
  cases e
  obtain ⟨rfl, _, hox⟩ := setS_some h1
  exact ⟨f, A, ρ, p, ρ1, R, hp, fun v H1 k1 r1 => q _ H1 _ (k1.1.setFz hox r1) (k1.2.1.trans dropA_ex)⟩⟩
def eIfS (te : DTEv) (d1 d2 : DSv) : DSv := fun ρ => (te ρ).bind fun r => if r.1 = true then d1 r.2 else d2 r.2
theorem ds_ifE {s1 s2 : List Stmt} {d1 d2 : DSv} (hc : DTE X c te) (h1 : DSs X s1 d1) (h2 : DSs X s2 d2) : DS X (.If c s1 s2 pos) (eIfS te d1 d2) :=
  ⟨ps_weak (ps_if hc.pt h1.pss h2.pss) fun D σ H ⟨f, A, ρ, ρ', fl, R, hd, q⟩ => by
    obtain ⟨⟨k, ρ1⟩, hk, hd⟩ := Option.bind_eq_some_iff.mp (show (te ρ).bind _ = some (ρ', fl) from hd)
    refine ⟨f, A, ρ, k, ρ1, R, hk, fun H1 k1 => ?_⟩
    cases k with
    | true => exact ⟨f, A, ρ1, ρ', fl, k1.1, by simpa using hd, q.from k1.2.1⟩
    | false => exact ⟨f, A, ρ1, ρ', fl, k1.1, by simpa using hd, q.from k1.2.1⟩⟩
def eRet (ea : DEv) : DSv := fun ρ => (ea ρ).map fun r => (r.2, .rt (.va r.1))
theorem ds_retE (he : DE X e ea) : DS X (.Return (some e) pos) (eRet ea) :=
  ⟨ps_weak (ps_ret he.pe) fun D σ H ⟨f, A, ρ, ρ', fl, R, hd, q⟩ => by
    obtain ⟨⟨p, ρ1⟩, hp, e⟩ := Option.map_eq_some_iff.mp (show (ea ρ).map _ = some (ρ', fl) from hd)
    cases e
    exact ⟨f, A, _, p, _, R, hp, fun v H1 k1 r1 => q v σ H1 A k1.1 (dp_ex (mask_less fun a h => ownO0 k1.1 h) r1)⟩⟩
end
end Dn
end
section
set_option Elab.async false
set_option linter.all false
set_option maxRecDepth 100000
set_option maxHeartbeats 4000000
namespace Dn
open PySem PySem.Spec L2

section
variable {X : Cx} {e a b c tg iter : Expr} {es rest body : List Stmt} {da db : DPv} {ea eb : DEv} {qe : DQEv} {te ue : DTEv} {pos p : Pos} {t : Tg} {dbd : DSv} {vs : List Nat}
/-- x.append(e), e with an effect on another list -/
def eApp (i : Nat) (ea : DEv) : DSv := fun ρ => (ea ρ).bind fun r => (ownL ρ i).bind fun _ => (ownL r.2 i).bind fun l => if l.length < 16777216 then some (putL r.2 i (l ++ [r.1]), .nx) else none
theorem ownL_at {K : PySem.W.Frag} {f : Fm} {A : Nat → List Addr} {ρ : En} {σ : St} {H : Hp} (R : RS K f A ρ σ H) {i : Nat} {l : List PV} (h : ownL ρ i = some l) : ∃ a, σ[i]? = some (some (.ref a)) ∧ A i = [a] := by
  unfold ownL at h
  split at h
  · rename_i l' hl
    obtain ⟨a, xs, h1, h2, _⟩ := R.sl i _ hl
    exact ⟨a, h2, h1⟩
  · rename_i l' hl
    obtain ⟨b, xs, h1, _, h2, _⟩ := R.sl i _ hl
    exact ⟨b, h2, h1⟩
  · cases h
theorem ds_appendE {i : Nat} {apos cpos : Pos} (ho : PE X a (tVar i)) (he : DE X b eb) (hst : starEach [b] X.env = (false, eval b X.env) :: starEach [] X.env := by rfl)
    (hbase : attributeBase a "append" X.env (eval a X.env) = eval a X.env := by rfl)
    (hfew : ((backTo cpos (starEach [b] X.env)).all (fun x => !x.1) && (backToKw cpos (keywordEach [] X.env)).all (fun x => x.1.isSome)
      && decide ([b].length + ([] : List Keyword).length + (if ([] : List Keyword).isEmpty then 0 else 1) < 30)) = true := by rfl)
    (hline : (apos.endLine == cpos.line) = true := by rfl) (hs : swapsWith (.Call (.Attribute a "append" apos) [b] [] cpos) none pos.line X.env = pure false := by rfl) :
    DS X (.Expr (.Call (.Attribute a "append" apos) [b] [] cpos) pos) (eApp i eb) :=
  ⟨ps_weak (ps_expr (pe_bm PySem.F.plainAttrs_list PySem.F.slot_list_append PySem.F.type_list_append mt_append ho (pa_cons he.pe pa_nil hst) hbase hfew hline hst rfl) hs) fun D σ H ⟨f, A, ρ, ρ', fl, R, hd, q⟩ => by
    obtain ⟨⟨p, ρ1⟩, hp, hd⟩ := Option.bind_eq_some_iff.mp (show (eb ρ).bind _ = some (ρ', fl) from hd)
    obtain ⟨l0, hl0, hd⟩ := Option.bind_eq_some_iff.mp hd
    obtain ⟨l, hl, hd⟩ := Option.bind_eq_some_iff.mp hd
    split at hd
    · rename_i hlt
      cases hd
      obtain ⟨a0, xs0, h1, h2, _, h4, _⟩ := R.ownL hl0
      obtain ⟨a', h1', hA⟩ := ownL_at R hl0
      refine ⟨.ref a0, h1, .inl ⟨rfl, xs0, sl_of h2⟩, f, A, ρ, p, ρ1, R, hp, fun v H1 k1 r1 => ?_⟩
      obtain ⟨a, xs, g1, g2, g3, g4, wr⟩ := k1.1.ownL hl
      have ea : a = a0 := by
        rw [h1] at g1
        cases g1; rfl
      subst ea
      refine ⟨a, xs, v, rfl, rfl, g2, by rw [sizeLine_eq, dpa_length g3]; exact hlt, ?_⟩
      exact q _ _ A (wr _ _ H1 (Ex.refl _) (dpa_snoc g3 r1)) (k1.2.1.trans (mask_wr (.inr ⟨i, g4⟩)))
    · cases hd⟩
/-- for over what an effect tells -/
def tIsE (K : PySem.W.Frag) (d : DQEv) : TI := fun σ H R => ∃ f A ρ l ρ', RS K f A ρ σ H ∧ d ρ = some (l, ρ') ∧ ∀ J H1, Kept K f A ρ' σ H H1 → Walk K (mask H1 (own f A)) (mask H1 (own f A)) J l → R J H1
structure DIE (X : Cx) (tg iter : Expr) (d : DQEv) : Prop where pi : PI X tg iter (tIsE X.K d)
def eRng1 (ea : DEv) : DQEv := fun ρ => (ea ρ).bind fun r => (rng1 r.1).map fun l => (l, r.2)
theorem die_rng1 (hg : Gl X "range") (hm : X.mg "range" = none) (h : DE X e ea) (hs : starEach [e] X.env = [(false, eval e X.env)] := by rfl) : DIE X tg (.Call (.Name "range" p) [e] [] pos) (eRng1 ea) :=
  ⟨pi_weak (pi_range1 hg hm (pa_cons h.pe pa_nil hs) hs) fun σ H R ⟨f, A, ρ, l, ρ', R', hd, q⟩ => by
    obtain ⟨⟨x, ρ1⟩, hx, hd⟩ := Option.bind_eq_some_iff.mp (show (ea ρ).bind _ = some (l, ρ') from hd)
    obtain ⟨l', hl, e⟩ := Option.map_eq_some_iff.mp hd
    cases e
    refine ⟨f, A, ρ, x, _, R', hx, fun v H1 k1 r1 => ?_⟩
    cases x with
    | int j =>
      replace hl : (if big62 j then some (rngP 0 j.toNat) else none) = some l := hl
      split at hl
      · rename_i hj
        cases hl
        cases r1
        exact ⟨j, rfl, hj.1, hj.2, q _ H1 k1 walk_rng⟩
      · cases hl
    | _ => cases hl⟩
def eFor (di : DQEv) (vs : List Nat) (t : Tg) (db : DSv) : DSv := fun ρ => (di ρ).bind fun r => forD vs t db r.1 r.2
theorem ds_forE {di : DQEv} (hp : PassesOwn (model X.prog X.w) X.A X.env X.xe) (hc : X.calm = true) (hi : DIE X tg iter di) (hg : DG X tg t) (hb : DSs X body dbd) (hs : ∀ x, foldedSetIterable iter X.env x = pure x := by intro _; rfl) : DS X (.For tg iter body [] pos) (eFor di vs t dbd) :=
  ⟨ps_weak (ps_for hp hc hi.pi hg.pg hb.pss hs) fun D σ H ⟨f, A, ρ, ρ', fl, R, hd, q⟩ => by
    obtain ⟨⟨l, ρ1⟩, hl, hd⟩ := Option.bind_eq_some_iff.mp (show (di ρ).bind _ = some (ρ', fl) from hd)
    refine ⟨f, A, ρ, l, ρ1, R, hl, fun J H1 k1 W => ?_⟩
    exact for_core k1.1 W (fun A' ρ' σ' H' R' e => e.trans mask_ex) (Ex.refl _) hd (q.from k1.2.1)⟩
end

/-! ### a def that changes its first argument, a list -/
abbrev FX := List PV → List PV → Option (PV × List PV)
def SpX (K : PySem.W.Frag) (d : FX) : Sp := fun vs H Q _ => ∃ (O : Own) (a : Addr) (ws xs : List V) (l ps : List PV) (r : PV) (l' : List PV), vs = .ref a :: ws ∧ O a ∧ (∀ b, O b → H b ≠ none) ∧ H a = some (.lst xs) ∧ DpAll K (mask H O) xs l ∧ DpAll K (mask H O) ws ps ∧ d l ps = some (r, l') ∧
  ∀ v H' xs', (∀ b o, b ≠ a → H b = some o → H' b = some o) → H' a = some (.lst xs') → DpAll K (mask H' O) xs' l' → Dp K (mask H' O) v r → Q v H'
section
variable {K : PySem.W.Frag} {f : Fm} {H H1 : Hp} {A : Nat → List Addr} {ρ : En} {σ : St}
/-- behind a call that changed the list of slot i -/
theorem RS.changed (r : RS K f A ρ σ H) {i : Nat} {l l' : List PV} {a : Addr} {xs' : List V} (h : Dn.ownL ρ i = some l) (hA : A i = [a]) (hσ : σ[i]? = some (some (.ref a))) (e : ∀ b o, b ≠ a → H b = some o → H1 b = some o) (ha : H1 a = some (.lst xs')) (hx : DpAll K (mask H1 (own f A)) xs' l') :
    Kept K f A (putL ρ i l') σ H H1 := by
  have hai : a ∈ A i := by rw [hA]; exact List.mem_singleton_self a
  have oa : own f A a := .inr ⟨i, hai⟩
  have me : Ex (mask H (own f A)) (mask H1 (own f A)) := mask_to fun b o h1 h2 => ⟨h1, e b o (fun w => h1 (by rw [w]; exact oa)) h2⟩
  have nn : ∀ b, H b ≠ none → H1 b ≠ none := fun b hb => by
    by_cases w : b = a
    · rw [w, ha]; exact fun q => by cases q
    · cases hq : H b with
      | none => exact absurd hq hb
      | some o => rw [e b o w hq]; exact fun q => by cases q
  have hlt : i < ρ.length := by
    unfold Dn.ownL at h
    split at h
    · rename_i l' hl; exact (List.getElem?_eq_some_iff.mp hl).1
    · rename_i l' hl; exact (List.getElem?_eq_some_iff.mp hl).1
    · cases h
  have key : ∀ s, putL ρ i l' = ρ.set i s → (∀ (m : List PV), ρ[i]? = some (Sl.ox m) → ∃ m', s = .ox m') → SlR K f H1 (mask H1 (own f A)) i s σ[i]? (A i) → RS K f A (putL ρ i l') σ H1 := fun s hs hox hsl => by
    rw [hs]
    refine ⟨by rw [List.length_set]; exact r.len, fun b o h => ?_, fun b h => nn b (r.old b h), r.new, r.nd, r.dis, fun j t ht => ?_, fun j h => r.out j (by rw [List.length_set] at h; exact h), r.zi, fun b h => ?_⟩
    · exact e b o (fun w => by rw [w, (r.new i a hai).1] at h; cases h) (r.ext b o h)
    · by_cases hj : j = i
      · subst hj
        rw [List.getElem?_set_self hlt] at ht
        cases ht
        exact hsl
      · rw [List.getElem?_set_ne (Ne.symm hj)] at ht
        refine (r.sl j t ht).stay (fun b hb u q => e b u (fun w => hj (r.dis j i b hb (by rw [w]; exact hai))) q) me
    · obtain ⟨j, m, hj, hy⟩ := r.pk b h
      by_cases w : i = j
      · subst w
        obtain ⟨m', rfl⟩ := hox m hj
        exact ⟨i, m', List.getElem?_set_self hlt, hy⟩
      · exact ⟨j, m, by rw [List.getElem?_set_ne w]; exact hj, hy⟩
  refine ⟨?_, me, nn, fun b o hb ho => e b o (fun w => (r.new i a hai).2 (by rw [← w]; exact hb)) ho⟩
  unfold Dn.ownL at h
  split at h
  · rename_i l2 hl
    refine key (.ol l') (by unfold putL; rw [hl]) (fun m w => by rw [hl] at w; cases w) ⟨a, xs', hA, hσ, ha, hx⟩
  · rename_i l2 hl
    obtain ⟨b, xs, h1, hy, h2, _⟩ := r.sl i _ hl
    have eb : b = a := by rw [hA] at h1; cases h1; rfl
    subst eb
    refine key (.ox l') (by unfold putL; rw [hl]) (fun m w => by rw [hl] at w; cases w; exact ⟨_, rfl⟩) ⟨b, xs', hA, hy, hσ, ha, hx⟩
  · cases h
end
section
variable {X : Cx} {e a b : Expr} {es : List Expr} {qa : DQv} {pos p : Pos} {x : Str} {k : Nat} {fa : Addr} {fd : FuncData} {ps : List Str} {d : FX}
def eCall (i : Nat) (d : FX) (qa : DQv) : DEv := fun ρ => (ownL ρ i).bind fun l => (qa ρ).bind fun ps => (d l ps).map fun r => (r.1, putL ρ i r.2)
theorem de_callX {i : Nat} (F : FnOk X.prog X.w X.K X.mg X.base CX0 k fa fd ps (SpX X.K d)) (hr : Room k X.A) (hg : Gl X x) (hm : X.mg x = some (.ref fa)) (hk : PySem.W.keepIn X.K (.ref fa) = true) (hb : Binds X.K fd ps []) (ho : PE X e (tVar i)) (ha : DA X es qa)
    (hdb : (x == ("__debug__" : Str)) = false := by decide) (he : starEach (e :: es) X.env = (false, eval e X.env) :: starEach es X.env := by rfl) (hpl : (backTo pos (starEach es X.env)).any (·.1) = false := by rfl) :
    DE X (.Call (.Name x p) (e :: es) [] pos) (eCall i d qa) :=
  ⟨pe_weak (pe_call (E := E0) F hr hg hm hk hb .nil pass0 (pa_cons ho ha.pa he) hdb he hpl) fun σ H Q ⟨f, A, ρ, z, ρ', R, hd, q⟩ => by
    obtain ⟨l, hl, hd⟩ := Option.bind_eq_some_iff.mp (show (ownL ρ i).bind _ = some (z, ρ') from hd)
    obtain ⟨ps, hps, hd⟩ := Option.bind_eq_some_iff.mp hd
    obtain ⟨⟨r, l'⟩, hr, e⟩ := Option.map_eq_some_iff.mp hd
    cases e
    obtain ⟨a, xs, h1, h2, h3, h4, _⟩ := R.ownL hl
    obtain ⟨a', h1', hA⟩ := ownL_at R hl
    have ea : a' = a := by rw [h1] at h1'; cases h1'; rfl
    subst ea
    refine ⟨.ref a', h1, f, A, ρ, ps, R, hps, fun vs H1 e1 r1 => ?_⟩
    have R1 := R.mono e1
    show SpX X.K d (.ref a' :: vs ++ []) H1 Q E0
    rw [List.append_nil]
    refine ⟨own f A, a', vs, xs, l, ps, r, l', rfl, .inr ⟨i, h4⟩, fun b hb => R1.there hb, e1 _ _ h2, dpa_ex (mask_mono e1) h3, r1, hr, fun v H' xs' g1 g2 g3 g4 => ?_⟩
    exact q v H' ((Kept.of R e1).trans (R1.changed hl hA h1 g1 g2 g3)) g4⟩
def entryX (np nn : Nat) (l : List PV) (vs : List PV) : En := .ox l :: entry (np - 1) (nn - 1) vs
/-- what such a def does -/
def outX (r : En × Fl) : Option (PV × List PV) := match r.2, r.1[0]? with
  | Fl.rt (Res.va p), some (Sl.ox l') => some (p, l')
  | _, _ => none
def runX (np nn : Nat) (d : DSv) : FX := fun l vs => if vs.length + 1 = np then (d (entryX np nn l vs)).bind outX else none
theorem rs_startX {K : PySem.W.Frag} {N : List Str} {np : Nat} {a : Addr} {ws xs : List V} {l ps : List PV} {H : Hp} {O : Own} (hO : ∀ a, O a → H a ≠ none) (oa : O a) (ha : H a = some (.lst xs)) (hl : ps.length + 1 = np) (hN : np ≤ N.length) (hx : DpAll K (mask H O) xs l) (h : DpAll K (mask H O) ws ps) :
    RS K ⟨fun b => if b = a then none else H b, fun b => O b ∧ b ≠ a, fun _ => none, fun b => b = a, fun j => if j = 0 then some a else none⟩ (fun j => if j = 0 then [a] else []) (entryX np N.length l ps) (L2.start N (.ref a :: ws)) H := by
  have lv := dpa_length h
  have ow : ∀ b, own ⟨fun b => if b = a then none else H b, fun b => O b ∧ b ≠ a, fun _ => none, fun b => b = a, fun j => if j = 0 then some a else none⟩ (fun j => if j = 0 then [a] else []) b → O b := fun b w => by
    rcases w with w | ⟨j, w⟩
    · exact w.1
    · have w' : b ∈ (if j = 0 then [a] else []) := w
      split at w'
      · rw [List.mem_singleton.mp w']; exact oa
      · cases w'
  have as : ∀ j b, b ∈ (if j = 0 then [a] else ([] : List Addr)) → j = 0 ∧ b = a := fun j b w => by
    split at w
    · rename_i e; exact ⟨e, List.mem_singleton.mp w⟩
    · cases w
  have lstart : (L2.start N (.ref a :: ws)) = some (.ref a) :: (ws.map some ++ List.replicate (N.length - (ws.length + 1)) none) := by
    unfold L2.start
    rw [List.map_cons, List.length_cons, List.cons_append]
  refine ⟨?_, fun b o e => ?_, fun b w => hO b w.1, fun j b w => ?_, fun j => ?_, fun i j b w w' => ?_, fun i s hs => ?_, fun i hi => ?_, fun i j b w => (by cases w), fun b w => ?_⟩
  · rw [lstart]
    unfold entryX entry
    simp only [List.length_cons, List.length_append, List.length_map, List.length_replicate]
    omega
  · have e' : (if b = a then none else H b) = some o := e
    split at e'
    · cases e'
    · exact e'
  · obtain ⟨_, e⟩ := as j b w
    refine ⟨?_, fun w => w.2 e⟩
    show (if b = a then none else H b) = none
    rw [if_pos e]
  · show (if j = 0 then [a] else ([] : List Addr)).Nodup
    split
    · simp
    · exact List.nodup_nil
  · rw [(as i b w).1, (as j b w').1]
  · rw [lstart]
    unfold entryX at hs
    cases i with
    | zero =>
      cases hs
      exact ⟨a, xs, rfl, rfl, rfl, ha, dpa_ex (mask_less ow) hx⟩
    | succ i =>
      rw [List.getElem?_cons_succ] at hs ⊢
      unfold entry at hs
      by_cases hi : i < ps.length
      · rw [List.getElem?_append_left (by simpa using hi), List.getElem?_map] at hs
        obtain ⟨p, hp, rfl⟩ := Option.map_eq_some_iff.mp hs
        obtain ⟨v, hv, r⟩ := dpa_get h hp
        refine ⟨rfl, v, ?_, dp_ex (mask_less ow) r⟩
        rw [List.getElem?_append_left (by simpa using (by omega : i < ws.length)), List.getElem?_map, hv]
        rfl
      · rw [List.getElem?_append_right (by simpa using hi), List.getElem?_replicate] at hs
        split at hs
        · cases hs; rfl
        · cases hs
  · show (if i = 0 then [a] else ([] : List Addr)) = []
    rw [if_neg]
    intro e
    rw [e] at hi
    unfold entryX at hi
    rw [List.length_cons] at hi
    omega
  · have e : b = a := w
    subst e
    exact ⟨0, l, rfl, rfl⟩
theorem ok_fnX {P : Program} {w : World} {K : PySem.W.Frag} {mg : Str → Option Value} {base : Heap} {x qual : Str} {st : Stmt} {f : Addr} {fd : FuncData} {N ps : List Str} {k : Nat} {d : DSv} (F : Fun K x qual st f fd) (S : FnScope N ps (defScope st))
    (hb : ∀ (cdv : Value) (A : Around) (outer : List Env) (s : Shared) (H : Hp) (E : XK), Room k (A.deeper (PyProof.Rows.envOfC qual (defScope st) s.heap.objs.size f cdv)) → DSs (cxOf CX0 P w K mg base N qual (defScope st) f cdv A outer s H E).nox (defBody st) d) :
    FnOk P w K mg base CX0 (k + 1) f fd ps (SpX K (runX ps.length N.length d)) := by
  have hlen : ∀ (l vs : List PV) (r : PV × List PV), runX ps.length N.length d l vs = some r → vs.length + 1 = ps.length := fun l vs r h => by
    unfold runX at h
    split at h
    · assumption
    · cases h
  have hN : ps.length ≤ N.length := by have := congrArg List.length S.pre; rw [List.length_take] at this; omega
  refine F.ok S (fun vs H Q E h => ?_) (fun cdv A outer s H vs Q E hr h => ?_)
  · obtain ⟨O, a, ws, xs, l, qs, r, l', rfl, _, _, _, _, hx, hd, _⟩ := h
    rw [List.length_cons, dpa_length hx, hlen l qs _ hd]
  · obtain ⟨O, a, ws, xs, l, qs, r, l', rfl, oa, hO, ha, hxs, hx, hd, q⟩ := h
    refine ⟨_, (hb cdv A outer s H E hr).pss, ?_⟩
    have hl := hlen l qs _ hd
    unfold runX at hd
    rw [if_pos hl] at hd
    obtain ⟨⟨ρ', fl⟩, h1, h2⟩ := Option.bind_eq_some_iff.mp hd
    have R := rs_startX (K := K) (N := N) hO oa ha hl hN hxs hx
    refine ⟨_, _, _, ρ', fl, R, h1, ?_⟩
    unfold outX at h2
    cases fl with
    | rt r' =>
      cases r' with
      | li _ => cases h2
      | va p =>
        cases e0 : ρ'[0]? with
        | none => simp only [e0] at h2; cases h2
        | some s0 =>
          cases s0 with
          | ox l2 =>
            simp only [e0] at h2
            cases h2
            intro v σ' H' A' R' hr'
            obtain ⟨b, xs', hA, hY, hσ, hH, hD⟩ := R'.sl 0 _ e0
            have eb : b = a := (Option.some.inj (show some a = some b from hY)).symm
            subst eb
            have owl : ∀ c, O c → own ⟨fun c => if c = b then none else H c, fun c => O c ∧ c ≠ b, fun _ => none, fun c => c = b, fun j => if j = 0 then some b else none⟩ A' c := fun c hc => by
              by_cases e : c = b
              · exact .inr ⟨0, by rw [hA, e]; exact List.mem_singleton_self b⟩
              · exact .inl ⟨hc, e⟩
            refine q v H' xs' (fun c o hc ho => R'.ext c o ?_) hH (dpa_ex (mask_less owl) hD) (dp_ex (mask_less fun c hc => ?_) hr')
            · show (if c = b then none else H c) = some o
              rw [if_neg hc]; exact ho
            · by_cases e : c = b
              · exact .inr e
              · exact .inl ⟨hc, e⟩
          | _ => simp only [e0] at h2; cases h2
    | nx => cases h2
    | bk => cases h2
    | ct => cases h2
end
end Dn
end
section
set_option Elab.async false
set_option linter.all false
set_option maxRecDepth 100000
set_option maxHeartbeats 4000000
namespace Dn
open PySem PySem.Spec L2

/-! ### an own list that is no longer changed -/
def frz1 (ρ : En) (v : Nat) : En := match ρ[v]? with
  | some (Sl.ol l) => ρ.set v (.fz (.list l))
  | some (Sl.oll ls) => ρ.set v (.fz (.list (ls.map .list)))
  | _ => ρ
def frzE (ρ : En) : List Nat → En
  | [] => ρ
  | v :: vs => frz1 (frzE ρ vs) v
section
variable {K : PySem.W.Frag} {f : Fm} {H H' : Hp} {A : Nat → List Addr} {ρ ρ' : En} {σ : St}
theorem RS.dropF (r : RS K f A ρ σ H) {i : Nat} {s : Sl} (hx : ∀ (l : List PV), ρ[i]? ≠ some (Sl.ox l)) (hs : SlR K f H (mask H (own f (dropA A [i]))) i s σ[i]? []) : RS K f (dropA A [i]) (ρ.set i s) σ H := by
  refine ⟨by rw [List.length_set]; exact r.len, r.ext, r.old, fun j a h => r.new j a (dropA_mem h).1, fun j => ?_, fun j k a h h' => r.dis j k a (dropA_mem h).1 (dropA_mem h').1, fun j t ht => ?_, fun j h => ?_, r.zi, pk_set hx r.pk⟩
  · unfold dropA
    split
    · exact List.nodup_nil
    · exact r.nd j
  · by_cases hj : j = i
    · subst hj
      have hlt : j < ρ.length := by
        have := (List.getElem?_eq_some_iff.mp ht).1
        rwa [List.length_set] at this
      rw [List.getElem?_set_self hlt] at ht
      cases ht
      have e : dropA A [j] j = [] := by unfold dropA; simp
      rw [e]
      exact hs
    · rw [List.getElem?_set_ne (Ne.symm hj)] at ht
      have e : dropA A [i] j = A j := by unfold dropA; rw [if_neg (by simpa using hj)]
      rw [e]
      exact (r.sl j t ht).stay (fun _ _ _ q => q) dropA_ex
  · rw [List.length_set] at h
    unfold dropA
    split
    · rfl
    · exact r.out j h
theorem RS.left (r : RS K f A ρ σ H) {i : Nat} {a : Addr} (h : a ∈ A i) : ¬ own f (dropA A [i]) a := by
  rintro (w | ⟨j, w⟩)
  · exact (r.new i a h).2 w
  · obtain ⟨w1, w2⟩ := dropA_mem w
    exact w2 (by rw [r.dis i j a h w1]; exact List.mem_singleton_self _)
theorem RS.frz1 (r : RS K f A ρ σ H) (i : Nat) : ∃ A', RS K f A' (Dn.frz1 ρ i) σ H ∧ Ex (mask H (own f A)) (mask H (own f A')) := by
  unfold Dn.frz1
  split
  · rename_i l hl
    obtain ⟨a, xs, h1, h2, h3, h4⟩ := r.sl i _ hl
    exact ⟨dropA A [i], r.dropF (fun m w => by rw [hl] at w; cases w) ⟨rfl, .ref a, h2, .lst (sl_of (mask_some.mpr ⟨r.left (by rw [h1]; exact List.mem_singleton_self a), h3⟩)) (dpa_ex dropA_ex h4)⟩, dropA_ex⟩
  · rename_i ls hl
    obtain ⟨a, bs, h1, h2, h3, h4⟩ := r.sl i _ hl
    refine ⟨dropA A [i], r.dropF (fun m w => by rw [hl] at w; cases w) ⟨rfl, .ref a, h2, .lst (sl_of (mask_some.mpr ⟨r.left (by rw [h1]; exact List.mem_cons_self), h3⟩)) (dpa_ls h4 (fun b hb o ho => mask_some.mpr ⟨r.left (by rw [h1]; exact List.mem_cons_of_mem _ hb), ho⟩) dropA_ex)⟩, dropA_ex⟩
  · exact ⟨A, r, Ex.refl _⟩
theorem RS.frz : ∀ {vs : List Nat} {A : Nat → List Addr} {ρ : En}, RS K f A ρ σ H → ∃ A', RS K f A' (frzE ρ vs) σ H ∧ Ex (mask H (own f A)) (mask H (own f A'))
  | [], A, ρ, r => ⟨A, r, Ex.refl _⟩
  | v :: vs, A, ρ, r => by
    obtain ⟨A1, r1, e1⟩ := RS.frz (vs := vs) r
    obtain ⟨A2, r2, e2⟩ := r1.frz1 v
    exact ⟨A2, r2, e1.trans e2⟩
end
def dFrz (vs : List Nat) (d : DSv) : DSv := fun ρ => d (frzE ρ vs)
theorem dss_frz {X : Cx} {sts : List Stmt} {vs : List Nat} {d : DSv} (h : DSs X sts d) : DSs X sts (dFrz vs d) := ⟨pss_weak h.pss fun D σ H ⟨f, A, ρ, ρ', fl, R, hd, q⟩ => by
  obtain ⟨A1, R1, e1⟩ := R.frz (vs := vs)
  exact ⟨f, A1, frzE ρ vs, ρ', fl, R1, hd, q.from e1⟩⟩

/-! ### own list + new list -/
section
variable {X : Cx} {a b : Expr} {qa qb : DQv} {pos : Pos}
def dCat (i : Nat) (qb : DQv) : DQv := fun ρ => (ownL ρ i).bind fun l => (qb ρ).bind fun m => lim (l ++ m)
theorem dl_cat {i : Nat} (ha : PE X a (tVar i)) (hb : DL X b qb) : DL X (.BinOp a .Add b pos) (dCat i qb) :=
  ⟨pe_weak (pe_op op_cat ha hb.pe) fun σ H Q ⟨f, A, ρ, z, R, hd, q⟩ => by
    obtain ⟨l, hl, hd⟩ := Option.bind_eq_some_iff.mp (show (ownL ρ i).bind _ = some z from hd)
    obtain ⟨m, hm, hd⟩ := Option.bind_eq_some_iff.mp hd
    obtain ⟨rfl, hz⟩ := lim_some hd
    obtain ⟨c, xs, h1, h2, h3, h4, _⟩ := R.ownL hl
    refine ⟨.ref c, h1, f, A, ρ, m, R, hm, fun p ys H1 hp e1 hy hys => ?_⟩
    have eD : Ex (mask H (own f A)) (mask H1 (own f A)) := mask_mono e1
    refine ⟨c, p, xs, ys, rfl, rfl, e1 _ _ h2, hy, by rw [sizeLine_eq, dpa_length h3, dpa_length hys, ← List.length_append]; exact hz, fun d hd' => ?_⟩
    have e2 : Ex H1 (upd H1 d (.lst (xs ++ ys))) := Ex.new hd'
    refine q d _ _ (e1.back hd') (e1.trans e2) upd_same ?_
    have hx1 : DpAll X.K (mask H1 (own f A)) xs l := dpa_ex eD h3
    exact apart hd' (dpa_append hx1 (dpa_ex (mask_less fun b hb => .inl hb) hys))⟩
end

/-! ### comprehensions with an effect -/
section
variable {K : PySem.W.Frag} {f : Fm} {H H' : Hp} {A : Nat → List Addr} {ρ ρ' : En} {σ σ' : St}
def isUn (ρ : En) (v : Nat) : Bool := match ρ[v]? with
  | some Sl.un => true
  | _ => false
theorem isUn_iff {v : Nat} : isUn ρ v = true ↔ ρ[v]? = some Sl.un := by
  unfold isUn
  split
  · rename_i h; simp [h]
  · rename_i h
    constructor
    · intro w; cases w
    · intro w; exact absurd w h
theorem RS.sig (r : RS K f A ρ σ H) (hl : σ'.length = σ.length) (h : ∀ j : Nat, ρ[j]? ≠ some Sl.un → σ'[j]? = σ[j]?) : RS K f A ρ σ' H :=
  ⟨r.len.trans hl.symm, r.ext, r.old, r.new, r.nd, r.dis, fun i s hs => by
    cases s with
    | un => exact r.sl i .un hs
    | _ => rw [h i (by rw [hs]; intro w; cases w)]; exact r.sl i _ hs, r.out, r.zi, r.pk⟩
theorem RS.fgA : ∀ {vs : List Nat} {ρ : En}, RS K f A ρ σ H → (∀ j ∈ vs, A j = []) → RS K f A (fgE ρ vs) σ H
  | [], _, r, _ => r
  | v :: vs, ρ, r, h => by
    have r1 := RS.fgA (vs := vs) r fun j hj => h j (List.mem_cons_of_mem _ hj)
    have hx : ∀ (l : List PV), (fgE ρ vs)[v]? ≠ some (Sl.ox l) := fun l w => by
      obtain ⟨a, xs, e, _⟩ := r1.sl v _ w
      rw [h v List.mem_cons_self] at e; cases e
    have e1 : fg1 (fgE ρ vs) v = (fgE ρ vs).set v .un := by
      unfold fg1
      split
      · rename_i l w; exact absurd w (hx l)
      · rfl
    show RS K f A (fg1 (fgE ρ vs) v) σ H
    rw [e1]
    have dn : dropA A [v] = A := dropA_same fun j hj => by rw [List.mem_singleton.mp hj]; exact h v List.mem_cons_self
    have q := r1.dropF (i := v) (s := .un) hx (show ([] : List Addr) = [] from rfl)
    rwa [dn] at q
theorem fgE_length : ∀ (vs : List Nat) (ρ : En), (fgE ρ vs).length = ρ.length
  | [], _ => rfl
  | v :: vs, ρ => by
    show (fg1 (fgE ρ vs) v).length = ρ.length
    unfold fg1
    split
    · exact fgE_length vs ρ
    · rw [List.length_set]; exact fgE_length vs ρ
theorem fgE_un (r : RS K f A ρ σ H) : ∀ {vs : List Nat}, (∀ j ∈ vs, A j = [] ∧ j < ρ.length) → ∀ j ∈ vs, (fgE ρ vs)[j]? = some Sl.un
  | [], _, _, h => by cases h
  | v :: vs, hA, j, hj => by
    have r1 := RS.fgA (vs := vs) r fun j hj => (hA j (List.mem_cons_of_mem _ hj)).1
    have hx : ∀ (l : List PV), (fgE ρ vs)[v]? ≠ some (Sl.ox l) := fun l w => by
      obtain ⟨a, xs, e, _⟩ := r1.sl v _ w
      rw [(hA v List.mem_cons_self).1] at e; cases e
    have e1 : fg1 (fgE ρ vs) v = (fgE ρ vs).set v .un := by
      unfold fg1
      split
      · rename_i l w; exact absurd w (hx l)
      · rfl
    show (fg1 (fgE ρ vs) v)[j]? = _
    rw [e1]
    by_cases e : v = j
    · subst e
      rw [List.getElem?_set_self (by rw [fgE_length]; exact (hA v List.mem_cons_self).2)]
    · rw [List.getElem?_set_ne e]
      rcases List.mem_cons.mp hj with w | w
      · exact absurd w.symm e
      · exact fgE_un r (fun j hj => hA j (List.mem_cons_of_mem _ hj)) j w
theorem SlR.unaside {F : Hp} {p : Addr} (hp : f.B p = none) {i : Nat} {s : Sl} {v : Option (Option V)} {as : List Addr} (h : SlR K (f.aside p) H F i s v as) : SlR K f H F i s v as := by
  cases s with
  | br l =>
    obtain ⟨a, xs, h1, hz, h2, h3, h4, h5⟩ := h
    refine ⟨a, xs, h1, hz, h2, ?_, h4, h5⟩
    rcases h3 with h3 | h3
    · exact h3
    · have h4' : f.B a = some (.lst xs) := h4
      rw [h3, hp] at h4'; cases h4'
  | _ => exact h
theorem RS.unaside {p : Addr} (hp : f.B p = none) (r : RS K (f.aside p) A ρ σ H) : RS K f A ρ σ H :=
  ⟨r.len, r.ext, fun a h => r.old a (.inl h), fun i a h => ⟨(r.new i a h).1, fun w => (r.new i a h).2 (.inl w)⟩, r.nd, r.dis, fun i s h => ((r.sl i s h).unaside hp).ex (Ex.refl _) (mask_less fun a w => own_aside.mpr (.inl w)), r.out, r.zi, r.pk⟩
theorem tgB_length : ∀ (t : Tg) (p : PV) (ρ ρ' : En), tgB t p ρ = some ρ' → ρ'.length = ρ.length := by
  intro t
  exact Tg.rec (motive_1 := fun t => ∀ (p : PV) (ρ ρ' : En), tgB t p ρ = some ρ' → ρ'.length = ρ.length) (motive_2 := fun ts => ∀ (ps : List PV) (ρ ρ' : En), tgBs ts ps ρ = some ρ' → ρ'.length = ρ.length)
    (fun i p ρ ρ' h => by
      obtain ⟨e, _, _⟩ := setS_some (show setS ρ i (.fz p) = some ρ' from h)
      rw [e, List.length_set])
    (fun ts ih p ρ ρ' h => by
      cases p with
      | tuple ps => exact ih ps ρ ρ' h
      | _ => cases h)
    (fun ps ρ ρ' h => by
      cases ps with
      | nil => cases h; rfl
      | cons _ _ => cases h)
    (fun t ts ih1 ih2 ps ρ ρ' h => by
      cases ps with
      | nil => cases h
      | cons p ps =>
        obtain ⟨ρ1, h1, h2⟩ := Option.bind_eq_some_iff.mp (show (tgB t p ρ).bind (fun ρ1 => tgBs ts ps ρ1) = some ρ' from h)
        rw [ih2 ps ρ1 ρ' h2, ih1 p ρ ρ1 h1]) t
end
def compE (t : Tg) (vs : List Nat) (tt : DTEv) (te : DEv) : List PV → En → Option (List PV × En)
  | [], ρ => some ([], ρ)
  | x :: xs, ρ => (tgB t x ρ).bind fun ρ1 => (tt ρ1).bind fun b => if b.1 = true then (te b.2).bind fun y => (compE t vs tt te xs (fgE y.2 vs)).map fun r => (y.1 :: r.1, r.2) else compE t vs tt te xs (fgE b.2 vs)
def eComp (di : DQv) (t : Tg) (vs : List Nat) (tt : DTEv) (te : DEv) : DQEv := fun ρ => ((di ρ).bind lim).bind fun l => if vs.all (isUn ρ) = true then compE t vs tt te l ρ else none
def eYes : DTEv := fun ρ => some (true, ρ)
def tLE (K : PySem.W.Frag) (d : DQEv) : TE := fun σ H Q => ∃ f A ρ l ρ', RS K f A ρ σ H ∧ d ρ = some (l, ρ') ∧ ∀ a xs H1, H a = none → Kept K f A ρ' σ H H1 → RS K (f.aside a) A ρ' σ H1 → H1 a = some (.lst xs) → DpAll K (mask H1 (fun b => own f A b ∨ b = a)) xs l → Q (.ref a) H1
structure DLE (X : Cx) (e : Expr) (d : DQEv) : Prop where pe : PE X e (tLE X.K d)
structure DTsE (X : Cx) (ifs : List Expr) (d : DTEv) : Prop where pts : PTs X ifs (tTE X.K d)
theorem dtse_nil {X : Cx} : DTsE X [] eYes := ⟨pts_weak pts_nil fun σ H Q ⟨f, A, ρ, b, ρ', R, hd, q⟩ => by
  cases hd; exact q H (.of R (Ex.refl H))⟩
theorem dtse_one {X : Cx} {c : Expr} {d : DTEv} (h : DTE X c d) : DTsE X [c] d := ⟨pts_one h.pt⟩
section
variable {X : Cx} {elt tg iter : Expr} {ifs : List Expr} {scope : Scope} {own' : List (Str × Nat)} {pos : Pos} {di : DQv} {t : Tg} {tt : DTEv} {te : DEv}
theorem eComp_read {K : PySem.W.Frag} {vs : List Nat} (hsub : ∀ j ∈ tgS t, j ∈ vs) {σ : St} {H : Hp} {Q : VK} (h : tLE K (eComp di t vs tt te) σ H Q) : tLc (tIs K di) (tG K (tgB t) (tgS t)) (tTE K tt) (tE K te) vs σ H Q := by
  obtain ⟨f, A, ρ, z, ρz, R, hd, q⟩ := h
  obtain ⟨l, hl, hd⟩ := Option.bind_eq_some_iff.mp (show ((di ρ).bind lim).bind _ = some (z, ρz) from hd)
  obtain ⟨l', hl', hl⟩ := Option.bind_eq_some_iff.mp hl
  obtain ⟨rfl, hz⟩ := lim_some hl
  split at hd
  · rename_i hun
    have hun' : ∀ j ∈ vs, ρ[j]? = some Sl.un := fun j hj => isUn_iff.mp (List.all_eq_true.mp hun j hj)
    have hAv : ∀ j ∈ vs, A j = [] := fun j hj => R.sl j _ (hun' j hj)
    have hvl : ∀ j ∈ vs, j < ρ.length := fun j hj => (List.getElem?_eq_some_iff.mp (hun' j hj)).1
    refine ⟨f, A, ρ, l, R, hl', fun J H1 e1 W D hD => ?_⟩
    have R1 := R.mono e1
    have hB : f.B D = none := R1.ext.back hD
    have hA : ∀ i, D ∉ A i := fun i w => R1.there (.inr ⟨i, w⟩) hD
    have oD : own (f.aside D) A D := own_aside.mpr (.inr rfl)
    let Wn : Nat → Hp → Prop := fun i H' => i ≤ l.length ∧ ∃ pre rest xs ρi, compE t vs tt te (l.drop i) ρi = some (rest, ρz) ∧ z = pre ++ rest ∧ pre.length ≤ i ∧ RS K (f.aside D) A ρi σ H' ∧ (∀ j ∈ vs, ρi[j]? = some Sl.un) ∧
      Ex (mask H1 (own f A)) (mask H' (own (f.aside D) A)) ∧ (∀ a, H1 a ≠ none → H' a ≠ none) ∧ (∀ a o, f.O0 a → H1 a = some o → H' a = some o) ∧ H' D = some (.lst xs) ∧ DpAll K (mask H' (own (f.aside D) A)) xs pre
    have start : Wn 0 (upd H1 D (.lst [])) := ⟨Nat.zero_le _, [], z, [], ρ, hd, rfl, Nat.le_refl _, R1.aside hD, hun', mask_to fun a o h1 h2 => ⟨fun w => (by
      rcases own_aside.mp w with w | w
      · exact h1 w
      · subst w; rw [hD] at h2; cases h2), (Ex.new hD) a o h2⟩, fun a h => (Ex.new hD).some h, fun a o _ k => (Ex.new hD) a o k, upd_same, .nil⟩
    refine ⟨fun i m H' => m = l.length - i ∧ Wn i H', ⟨l.length, rfl, start⟩, ?_⟩
    rintro i m H' ⟨rfl, hi, pre, rest, xs, ρi, hc, hzz, hpl, RA, hui, eM, eN, eO, hDx, hx⟩
    have eM' : Ex (mask H1 (own f A)) H' := eM.trans mask_ex
    obtain ⟨wstop, wgo⟩ := W i H' eM'
    have hli : ρi.length = σ.length := RA.len
    by_cases hlt : i < l.length
    · right
      have hget : l[i]? = some l[i] := List.getElem?_eq_getElem hlt
      obtain ⟨go, yld⟩ := wgo _ hget
      refine ⟨go, fun H'' => Wn (i + 1) H'', fun H'' w => ⟨l.length - (i + 1), by omega, rfl, w⟩, fun x H2 hy => ?_⟩
      obtain ⟨e2, hdp⟩ := yld x H2 hy
      have RA2 := RA.mono e2
      have hxd : Dp K (mask H2 (own (f.aside D) A)) x l[i] := hdp (own (f.aside D) A) (fun a ha => RA.fresh ha) eM
      have RW : RS K (f.aside D) A ρi (wipe σ vs) H2 := RA2.sig (wipe_length ..) fun j hj => by
        rw [wipe_get, if_neg]
        rintro ⟨w, _⟩
        exact hj (hui j w)
      rw [List.drop_eq_getElem_cons hlt] at hc
      obtain ⟨ρ1, hb1, hc⟩ := Option.bind_eq_some_iff.mp (show (tgB t l[i] ρi).bind _ = some (rest, ρz) from hc)
      obtain ⟨⟨b, ρ2⟩, hb, hc⟩ := Option.bind_eq_some_iff.mp hc
      have dA : dropA A (tgS t) = A := dropA_same fun j hj => hAv j (hsub j hj)
      refine ⟨f.aside D, A, ρi, l[i], ρ1, RW, hxd, hb1, fun σ2 R2 k2 => ?_⟩
      rw [dA] at R2
      have hlen : σ2.length = σ.length := by
        have h1 := R2.len
        have h3 := tgB_length t _ _ _ hb1
        omega
      have hws : wipe σ2 vs = wipe σ vs := wipe_same hlen fun j hj => k2 j fun w => hj (hsub j w)
      -- back to what stood outside
      have back : ∀ (ρ3 : En) (H5 : Hp), RS K (f.aside D) A ρ3 σ2 H5 → RS K (f.aside D) A (fgE ρ3 vs) σ H5 ∧ ∀ j ∈ vs, (fgE ρ3 vs)[j]? = some Sl.un := fun ρ3 H5 R5 => by
        have hl3 : ρ3.length = σ.length := R5.len.trans hlen
        have hun3 := fgE_un R5 (vs := vs) fun j hj => ⟨hAv j hj, by rw [hl3, ← R.len]; exact hvl j hj⟩
        refine ⟨(R5.fgA hAv).sig hlen.symm fun j hj => ?_, hun3⟩
        have hjv : j ∉ vs := fun w => hj (hun3 j w)
        have e1 : (wipe σ2 vs)[j]? = σ2[j]? := by rw [wipe_get, if_neg fun w => hjv w.1]
        have e2 : (wipe σ vs)[j]? = σ[j]? := by rw [wipe_get, if_neg fun w => hjv w.1]
        rw [← e1, ← e2, hws]
      refine ⟨hws, ?_⟩
      refine ⟨f.aside D, A, ρ1, b, ρ2, R2, hb, fun H3 k3 => ?_⟩
      have hD2 : H2 D = some (.lst xs) := e2 _ _ hDx
      have hD3 : H3 D = some (.lst xs) := k3.2.2.2 _ _ (.inr rfl) hD2
      cases b with
      | false =>
        have hc' : compE t vs tt te (l.drop (i + 1)) (fgE ρ2 vs) = some (rest, ρz) := by simpa using hc
        show Wn (i + 1) H3
        obtain ⟨b1, b2⟩ := back ρ2 H3 k3.1
        exact ⟨by omega, pre, rest, xs, _, hc', hzz, by omega, b1, b2, (eM.trans (mask_mono e2)).trans k3.2.1, fun a h => k3.2.2.1 a (e2.some (eN a h)), fun a o h k => k3.2.2.2 a o (.inl h) (e2 a o (eO a o h k)), hD3, dpa_ex ((mask_mono e2).trans k3.2.1) hx⟩
      | true =>
        obtain ⟨⟨y, ρ3⟩, hy', hc⟩ := Option.bind_eq_some_iff.mp (show (te ρ2).bind _ = some (rest, ρz) by simpa using hc)
        obtain ⟨⟨rest', ρe⟩, hr, e⟩ := Option.map_eq_some_iff.mp hc
        cases e
        show tE K te σ2 H3 fun v H4 => ∃ acc, H4 D = some (.lst acc) ∧ acc.length < sizeLine ∧ Wn (i + 1) (upd H4 D (.lst (acc ++ [v])))
        refine ⟨f.aside D, A, ρ2, y, ρ3, k3.1, hy', fun v H4 k4 rv => ⟨xs, k4.2.2.2 _ _ (.inr rfl) hD3, by rw [sizeLine_eq, dpa_length hx]; omega, ?_⟩⟩
        have k34 := k3.trans k4
        obtain ⟨b1, b2⟩ := back ρ3 _ (k4.1.asideW (o := .lst (xs ++ [v])) hB hA)
        have em : Ex (mask H' (own (f.aside D) A)) (mask H4 (own (f.aside D) A)) := (mask_mono e2).trans k34.2.1
        refine ⟨by omega, pre ++ [y], rest', xs ++ [v], _, hr, by rw [hzz, List.append_assoc]; rfl, by rw [List.length_append, List.length_singleton]; omega, b1, b2, ?_, fun a h => ?_, fun a o h k => ?_, upd_same, ?_⟩
        · rw [mask_own oD]; exact eM.trans em
        · by_cases w : a = D
          · subst w; rw [upd_same]; exact fun q => by cases q
          · rw [upd_ne w]; exact k34.2.2.1 a (e2.some (eN a h))
        · rw [upd_ne (fun w => R1.fresh hD (.inl (by rw [← w]; exact h)))]
          exact k34.2.2.2 a o (.inl h) (e2 a o (eO a o h k))
        · rw [mask_own oD]
          exact dpa_snoc (dpa_ex em hx) rv
    · left
      have ei : i = l.length := by omega
      refine ⟨wstop ei, ?_⟩
      subst ei
      rw [List.drop_length] at hc
      have er := Option.some.inj (show some (([] : List PV), ρi) = some (rest, ρz) from hc)
      cases er
      rw [List.append_nil] at hzz
      subst hzz
      have lessM : Ex (mask H' (own (f.aside D) A)) (mask H' (own f A)) := mask_less fun b hb => own_aside.mpr (.inl hb)
      refine q D xs H' (e1.back hD) ⟨RA.unaside hB, (mask_mono e1).trans (eM.trans lessM), fun a h => eN a (e1.some h), fun a o h k => eO a o h (e1 a o k)⟩ RA hDx (dpa_ex (mask_less fun b hb => own_aside.mpr hb) hx)
  · cases hd
theorem dle_comp (hc : X.calm = true) (hN : X.N.Nodup) (hi : DI X tg iter di) (ok : BlkOk X.N X.env.scope scope own') (hsub : ∀ j ∈ tgS t, j ∈ own'.map (·.2))
    (hg : ∀ (s : Shared) (H : Hp) (C : Addr) (cl : List (Str × Addr)) (fp : List Addr), DG (X.blk s H scope (compEnvC scope cl C X.env) fp) tg t) (ht : ∀ (s : Shared) (H : Hp) (C : Addr) (cl : List (Str × Addr)) (fp : List Addr), DTsE (X.blk s H scope (compEnvC scope cl C X.env) fp) ifs tt)
    (he : ∀ (s : Shared) (H : Hp) (C : Addr) (cl : List (Str × Addr)) (fp : List Addr), DE (X.blk s H scope (compEnvC scope cl C X.env) fp) elt te) (hs : ∀ x, foldedSetIterable iter X.env x = pure x := by intro _; rfl) :
    DLE X (.ListComp elt [⟨tg, iter, ifs, 0⟩] scope pos) (eComp di t (own'.map (·.2)) tt te) :=
  ⟨pe_weak (pe_lc hc hN hi.pi ok (fun s H C cl fp => (hg s H C cl fp).pg) (fun s H C cl fp => (ht s H C cl fp).pts) (fun s H C cl fp => (he s H C cl fp).pe) hs) fun σ H Q h => eComp_read hsub h⟩
end
section
variable {X : Cx} {e : Expr} {qe : DQEv} {pos : Pos}
def eFz (qe : DQEv) : DEv := fun ρ => (qe ρ).map fun r => (.list r.1, r.2)
theorem de_l (h : DLE X e qe) : DE X e (eFz qe) := ⟨pe_weak h.pe fun σ H Q ⟨f, A, ρ, p, ρ', R, hd, q⟩ => by
  obtain ⟨⟨l, ρ1⟩, hl, e⟩ := Option.map_eq_some_iff.mp (show (qe ρ).map _ = some (p, ρ') from hd)
  cases e
  exact ⟨f, A, ρ, l, _, R, hl, fun a xs H1 hn k1 _ ha hx => q _ H1 k1 (fresh_dp (R.fresh hn) ha hx)⟩⟩
/-- name = [.. for ..], the name local -/
def eAsgF (i : Nat) (qe : DQEv) : DSv := eAsg i (eFz qe)
theorem ds_asgFcE {i : Nat} {y : Str} {py : Pos} {elt tg iter : Expr} {ifs : List Expr} {scope : Scope} {own' : List (Str × Nat)} {spos : Pos} {di : DQv} {t : Tg} {tt : DTEv} {te : DEv} (hc : X.calm = true) (hN : X.N.Nodup) (hy : X.N[i]? = some y) (hyl : X.env.scope.names.lookup y = some .local)
    (hsw : swapsWith (.ListComp elt [⟨tg, iter, ifs, 0⟩] scope pos) (some (.Name y py)) spos.line X.env = pure true) (hi : DI X tg iter di) (ok : BlkOk X.N X.env.scope scope own') (hsub : ∀ j ∈ tgS t, j ∈ own'.map (·.2))
    (hg : ∀ (s : Shared) (H : Hp) (C : Addr) (cl : List (Str × Addr)) (fp : List Addr), DG (X.blk s H scope (compEnvC scope cl C X.env) fp) tg t) (ht : ∀ (s : Shared) (H : Hp) (C : Addr) (cl : List (Str × Addr)) (fp : List Addr), DTsE (X.blk s H scope (compEnvC scope cl C X.env) fp) ifs tt)
    (he : ∀ (s : Shared) (H : Hp) (C : Addr) (cl : List (Str × Addr)) (fp : List Addr), DE (X.blk s H scope (compEnvC scope cl C X.env) fp) elt te) (hs : ∀ x, foldedSetIterable iter X.env x = pure x := by intro _; rfl) :
    DS X (.Assign [.Name y py] (.ListComp elt [⟨tg, iter, ifs, 0⟩] scope pos) spos) (eAsg i (eFz (eComp di t (own'.map (·.2)) tt te))) :=
  ⟨ps_weak (ps_setLc hc hN hy hyl hsw hi.pi ok (fun s H C cl fp => (hg s H C cl fp).pg) (fun s H C cl fp => (ht s H C cl fp).pts) (fun s H C cl fp => (he s H C cl fp).pe) hs) fun D σ H ⟨f, A, ρ, ρ', fl, R, hd, q⟩ => by
    obtain ⟨⟨p, ρ1⟩, hp, hd⟩ := Option.bind_eq_some_iff.mp (show (eFz _ ρ).bind _ = some (ρ', fl) from hd)
    obtain ⟨⟨l, ρ2⟩, hl, e⟩ := Option.map_eq_some_iff.mp (show (eComp di t (own'.map (·.2)) tt te ρ).map _ = some (p, ρ1) from hp)
    cases e
    obtain ⟨ρ3, h1, e⟩ := Option.map_eq_some_iff.mp hd
    cases e
    obtain ⟨rfl, _, hox⟩ := setS_some h1
    exact eComp_read hsub ⟨f, A, ρ, l, _, R, hl, fun a xs H1 hn k1 _ ha hx => q _ H1 _ (k1.1.setFz hox (fresh_dp (R.fresh hn) ha hx)) (k1.2.1.trans dropA_ex)⟩⟩
/-- name = [..], a list of one's own -/
def eAsgO (i : Nat) (qe : DQEv) : DSv := fun ρ => (qe ρ).bind fun r => (setS r.2 i (.ol r.1)).map fun ρ' => (ρ', .nx)
theorem RS.setOlA {K : PySem.W.Frag} {f : Fm} {A : Nat → List Addr} {ρ : En} {σ : St} {H : Hp} {a : Addr} (r : RS K (f.aside a) A ρ σ H) (hb : f.B a = none) (hn : ¬ own f A a) {i : Nat} {xs : List V} {l : List PV} (hi : i < ρ.length) (hx : ∀ (l : List PV), ρ[i]? ≠ some (Sl.ox l)) (ha : H a = some (.lst xs)) (hxs : DpAll K (mask H (fun b => own f A b ∨ b = a)) xs l) :
    RS K f (putA A i [a]) (ρ.set i (.ol l)) (σ.set i (some (.ref a))) H := by
  have ow : ∀ b, own f (putA A i [a]) b → own f A b ∨ b = a := fun b h => by
    rcases h with h | ⟨j, h⟩
    · exact .inl (.inl h)
    · unfold putA at h
      split at h
      · exact .inr (List.mem_singleton.mp h)
      · exact .inl (.inr ⟨j, h⟩)
  refine ⟨by rw [List.length_set, List.length_set]; exact r.len, r.ext, fun b h => r.old b (.inl h), fun j b h => ?_, fun j => ?_, fun j k b h h' => ?_, fun j t ht => ?_, fun j h => ?_, r.zi, pk_set hx r.pk⟩
  · unfold putA at h
    split at h
    · cases List.mem_singleton.mp h; exact ⟨hb, fun q => hn (.inl q)⟩
    · exact ⟨(r.new j b h).1, fun q => (r.new j b h).2 (.inl q)⟩
  · unfold putA
    split
    · simp
    · exact r.nd j
  · unfold putA at h h'
    split at h
    · split at h'
      · rename_i e e'; rw [e, e']
      · cases List.mem_singleton.mp h; exact absurd (.inr ⟨k, h'⟩) hn
    · split at h'
      · cases List.mem_singleton.mp h'; exact absurd (.inr ⟨j, h⟩) hn
      · exact r.dis j k b h h'
  · by_cases hj : j = i
    · subst hj
      rw [List.getElem?_set_self hi] at ht
      cases ht
      rw [List.getElem?_set_self (by rw [← r.len]; exact hi)]
      exact ⟨a, xs, by unfold putA; rw [if_pos rfl], rfl, ha, dpa_ex (mask_less ow) hxs⟩
    · rw [List.getElem?_set_ne (Ne.symm hj)] at ht
      rw [List.getElem?_set_ne (Ne.symm hj)]
      have e : putA A i [a] j = A j := by unfold putA; rw [if_neg hj]
      rw [e]
      exact ((r.sl j t ht).unaside hb).ex (Ex.refl _) (mask_less fun b w => own_aside.mpr (ow b w))
  · rw [List.length_set] at h
    unfold putA
    split
    · rename_i e; rw [e] at h; omega
    · exact r.out j h
theorem ds_asgOE {i : Nat} {x : Str} {pos' : Pos} (hN : X.N.Nodup) (hi : X.N[i]? = some x) (hx : Loc X.env.scope x) (he : DLE X e qe) (hs : swapsWith e (some (.Name x pos')) pos.line X.env = pure false := by rfl) (hf : X.fn x = true ∨ X.env.scope.names.lookup x = some .local := by first | exact .inl rfl | exact .inr rfl | assumption) :
    DS X (.Assign [.Name x pos'] e pos) (eAsgO i qe) := ⟨ps_weak (ps_set hN hi hx he.pe hs hf) fun D σ H ⟨f, A, ρ, ρ', fl, R, hd, q⟩ => by
  obtain ⟨⟨l, ρ1⟩, hl, hd⟩ := Option.bind_eq_some_iff.mp (show (qe ρ).bind _ = some (ρ', fl) from hd)
  obtain ⟨ρ2, h1, e⟩ := Option.map_eq_some_iff.mp hd
  cases e
  obtain ⟨rfl, hlt, hox⟩ := setS_some h1
  refine ⟨f, A, ρ, l, ρ1, R, hl, fun a xs H1 hn k1 RA ha hx => ?_⟩
  have hno : ¬ own f A a := R.fresh hn
  refine q _ H1 _ (RA.setOlA (R.ext.back hn) hno hlt hox ha hx) (mask_to fun b o h1 h2 => ⟨fun w => ?_, (mask_some.mp (k1.2.1 b o (mask_some.mpr ⟨h1, h2⟩))).2⟩)
  rcases w with w | ⟨j, w⟩
  · exact h1 (.inl w)
  · unfold putA at w
    split at w
    · have e := List.mem_singleton.mp w
      subst e
      rw [hn] at h2; cases h2
    · exact h1 (.inr ⟨j, w⟩)⟩
end
end Dn
end
section
set_option Elab.async false
set_option linter.all false
set_option maxRecDepth 100000
set_option maxHeartbeats 4000000
/-! sorted over a tuple or a list of texts -/
namespace Dn
open PySem PySem.Spec L2 PyProof.Rows

section
variable {prog : Program} {w : World} {A : Around} {E : Value → Shared → Prop} {s : Shared}
theorem sorted_tup_strs {it : Addr} {o : Obj} {vs : List Value} {n : Nat} {ss : List Str} {Q : Value → Shared → Prop} (ho : s.heap.get? it = some o) (hc : o.cls = .type "tuple") (hd : o.data = .seq vs.toArray n) (hS : StrsAre vs ss) (hL : vs.length ≤ sizeLine)
    (h : ∀ (h1 h2 : Heap) (p : Addr) (out : List Value) (e : Nat) (ss' : List Str), (∀ b u, s.heap.get? b = some u → h1.get? b = some u) → (∀ b u, h1.get? b = some u → h2.get? b = some u) → h1.objs.size ≤ p → h2.get? p = some (seqObj "list" out.toArray e) →
      StrsAre out ss' → ss'.Perm ss → sortedS ss' = true → Q (.ref p) { s with heap := h2 }) :
    wpAny (model prog w) A (call (.builtin "sorted") [.ref it]) Q E s := by
  refine Calls.call_function_entry kind_sorted plain_sorted entry_sorted (args_sorted1 _) ?_
  unfold Builtin.«sorted»
  refine wpAny_bind (m := checkCount "sorted" 1 1 _) (wpAny_pure ?_)
  refine wpAny_bind (wpAny_collect_seq it (.inr rfl) ho hc hd (fun h1 k1 => ?_) (by simpa using hL))
  rw [show vs.toArray.toList = vs by simp]
  refine wpAny_bind (wpAny_newList ?_ hL)
  have hoL : (h1.push (seqObj "list" vs.toArray 0)).get? h1.objs.size = some (seqObj "list" vs.toArray 0) := Heap.get?_push_size _ rfl
  show wpAny _ _ _ _ _ { s with heap := h1.push (seqObj "list" vs.toArray 0) }
  refine wpAny_bind (wpAny_holding (wpAny_call_entry slot_list_sort ⟨_, hoL, rfl⟩ entry_list_sort (list_sort_treeKAny (s := { s with heap := h1.push (seqObj "list" vs.toArray 0) }) strKind_oneLt hoL hS.keysOf (fun v₁ v₂ rest e => keyKind_strs (by rw [← e]; exact hS)) hL fun st' a1 a2 => ⟨_, rfl, ?_⟩) (args_list_sort _)))
  obtain ⟨ss', b1, b2, b3⟩ := sorted_out_str hS a1 a2
  obtain ⟨e, he⟩ := sortedHeap_at (vs := vs) (out := (arrOf st').map (·.2)) hoL
  refine wpAny_pure ⟨_, rfl, ?_⟩
  refine h h1 _ _ ((arrOf st').map (·.2)).toList e ss' k1 (fun b u hb => ?_) (Nat.le_refl _) (by rw [Array.toArray_toList]; exact he) b1 b2 b3
  have hlt : b < h1.objs.size := Heap.lt_size hb
  rw [sortedHeap_old (Nat.ne_of_lt hlt) (by rw [size_push']; exact Nat.lt_succ_of_lt hlt), Heap.get?_push_ne _ _ _ (Nat.ne_of_lt hlt)]
  exact hb
end
def rSortedQS (K : PySem.W.Frag) : List V → Hp → VK → Prop := fun vs H Q => ∃ (a : Addr) (xs : List Str), vs = [V.ref a] ∧ (SqL K H a (xs.map V.str) ∨ SqT K H a (xs.map V.str)) ∧
  ∀ (ys : List Str) (p : Addr), ys.Perm xs → sortedS ys = true → H p = none → Q (.ref p) (upd H p (.lst (ys.map V.str)))
section
variable {X : Cx}
theorem cr_sortedQS : CallR X (.builtin "sorted") (rSortedQS X.K) := by
  intro pins s σ H vs us Q I r h
  obtain ⟨a, xs, rfl, hs, q⟩ := h
  rcases hs with hs | hs
  · obtain ⟨its, rv, hl, hz⟩ := I.list hs
    rw [Vals.ref1 r]
    have hlen0 := rv.length
    refine PyProof.Rows.sorted_strsAny hl.isList rv.strs (by rw [← hlen0]; exact hz) fun out ys h1 h2 h3 => ?_
    obtain ⟨ep, he'⟩ := PyProof.Rows.sortedAll_at s.heap its out
    have hlen : (ys.map V.str).length ≤ sizeLine := by rw [List.length_map, h2.length_eq]; rw [List.length_map] at hz; exact hz
    exact ⟨.ref _, upd H (s.heap.objs.size + 1) (.lst (ys.map V.str)), I.laid (t' := s.toks) (fun _ _ => PyProof.Rows.sortedAll_old) (Nat.le_succ _) ⟨hlen, out.toList, ep, vals_of_strs h1, he'⟩, rfl, q ys _ h2 h3 (I.hok.fresh (Nat.le_succ _))⟩
  · obtain ⟨its, rv, ⟨o, ho, hc, n, hd⟩, hz⟩ := I.tuple hs
    rw [Vals.ref1 r]
    have hlen0 := rv.length
    refine sorted_tup_strs ho hc hd rv.strs (by rw [← hlen0]; exact hz) fun h1 h2 p out e ys k1 k2 hp hg b1 b2 b3 => ?_
    have I1 : Inv X pins σ H { s with heap := h1 } := I.kept (t' := s.toks) k1
    have hlen : (ys.map V.str).length ≤ sizeLine := by rw [List.length_map, b2.length_eq]; rw [List.length_map] at hz; exact hz
    exact ⟨.ref _, upd H p (.lst (ys.map V.str)), I1.laid (t' := s.toks) k2 hp ⟨hlen, out, e, vals_of_strs b1, hg⟩, rfl, q ys p b2 b3 (I1.hok.fresh hp)⟩
end

/-! by values -/
def strsP : List PV → Option (List Str)
  | [] => some []
  | .str n :: l => (strsP l).map fun r => n :: r
  | _ :: _ => none
theorem strsP_some : ∀ {l : List PV} {ns : List Str}, strsP l = some ns → l = ns.map .str
  | [], _, h => by cases h; rfl
  | x :: l, ns, h => by
    cases x with
    | str n =>
      obtain ⟨r, hr, rfl⟩ := Option.map_eq_some_iff.mp (show (strsP l).map _ = some ns from h)
      rw [strsP_some hr]; rfl
    | _ => cases h
theorem strsP_map : ∀ (ns : List Str), strsP (ns.map .str) = some ns
  | [] => rfl
  | n :: ns => by
    show (strsP (ns.map .str)).map _ = _
    rw [strsP_map ns]; rfl
def leS (a b : Str) : Bool := !ltCps b.cps.toList a.cps.toList
def sortS (l : List Str) : List Str := l.mergeSort leS
theorem leS_iff {a b : Str} : leS a b = true ↔ a.cps.toList ≤ b.cps.toList := by
  unfold leS
  rw [ltCps_eq]
  simp
theorem leS_trans (a b c : Str) (h1 : leS a b = true) (h2 : leS b c = true) : leS a c = true := leS_iff.mpr (List.le_trans (leS_iff.mp h1) (leS_iff.mp h2))
theorem leS_total (a b : Str) : (leS a b || leS b a) = true := by
  rcases List.le_total a.cps.toList b.cps.toList with h | h
  · rw [leS_iff.mpr h]; rfl
  · rw [leS_iff.mpr h, Bool.or_true]
theorem leS_anti {a b : Str} (h1 : leS a b = true) (h2 : leS b a = true) : a = b := by
  have e : a.cps.toList = b.cps.toList := List.le_antisymm (leS_iff.mp h1) (leS_iff.mp h2)
  cases a; cases b
  simp only at e
  rw [Array.toList_inj.mp e]
theorem pw_of_sortedS : ∀ {l : List Str}, sortedS l = true → l.Pairwise fun a b => leS a b = true
  | [], _ => .nil
  | x :: r, h => by
    have go : ∀ (r : List Str) (p : Str), risingS p r = true → (p :: r).Pairwise fun a b => leS a b = true := by
      intro r
      induction r with
      | nil => intro p _; simp
      | cons y r ih =>
        intro p hp
        have hp' : (leS p y && risingS y r) = true := hp
        rw [Bool.and_eq_true] at hp'
        have i := ih y hp'.2
        refine List.pairwise_cons.mpr ⟨fun z hz => ?_, i⟩
        rcases List.mem_cons.mp hz with w | w
        · rw [w]; exact hp'.1
        · exact leS_trans _ _ _ hp'.1 (List.rel_of_pairwise_cons i w)
    exact go r x h
theorem pw_uniq : ∀ {l m : List Str}, l.Perm m → l.Pairwise (fun a b => leS a b = true) → m.Pairwise (fun a b => leS a b = true) → l = m
  | [], m, p, _, _ => (List.nil_perm.mp p).symm ▸ rfl
  | x :: l, m, p, h1, h2 => by
    cases m with
    | nil => exact absurd p.symm (by simp)
    | cons y m =>
      have e : x = y := by
        have hx : x ∈ y :: m := p.mem_iff.mp List.mem_cons_self
        have hy : y ∈ x :: l := p.mem_iff.mpr List.mem_cons_self
        rcases List.mem_cons.mp hx with w | w
        · exact w
        rcases List.mem_cons.mp hy with v | v
        · exact v.symm
        exact leS_anti (List.rel_of_pairwise_cons h1 v) (List.rel_of_pairwise_cons h2 w)
      subst e
      rw [pw_uniq (List.Perm.cons_inv p) (List.pairwise_cons.mp h1).2 (List.pairwise_cons.mp h2).2]
theorem sortS_uniq {l m : List Str} (p : l.Perm m) (h : sortedS l = true) : l = sortS m :=
  pw_uniq (p.trans (List.mergeSort_perm m leS).symm) (pw_of_sortedS h) (List.pairwise_mergeSort leS_trans leS_total m)
def gSortS (l : List PV) : Option (List PV) := (strsP l).map fun ns => (sortS ns).map .str
theorem bl_sortS {K : PySem.W.Frag} : BL K (rSortedQS K) gSortS := fun H O a xs l z Q hq hx hz q => by
  obtain ⟨ns, hn, rfl⟩ := Option.map_eq_some_iff.mp hz
  have e := strsP_some hn
  subst e
  have e := dpa_strs hx
  subst e
  refine ⟨a, ns, rfl, hq, fun ys p hp hs hn => ?_⟩
  have e := sortS_uniq hp hs
  subst e
  exact q p _ hn (dpa_of_strs _)
end Dn
end
section
set_option Elab.async false
set_option linter.all false
set_option maxRecDepth 100000
set_option maxHeartbeats 4000000
/-! The defs of the text: what each does, by values (den_..), and that it does so (ok_..). Printed by gen.py. -/
namespace K04
open PySem PySem.Spec L2 Dn
def topS (i : Nat) : Stmt := PySem.Challenge.pw_ebbledger_k04_whole_steps_filling_and_se.main.body.getD i (.Pass ⟨0, 0, 0, 0⟩)
abbrev s_is_whole : Stmt := topS 1
theorem sc_is_whole : FnScope ["value"] ["value"] (defScope s_is_whole) := ⟨rfl, rfl, rfl, by decide +kernel, rfl, by decide +kernel, by decide +kernel⟩
abbrev s_least_of : Stmt := topS 2
theorem sc_least_of : FnScope ["one", "other"] ["one", "other"] (defScope s_least_of) := ⟨rfl, rfl, rfl, by decide +kernel, rfl, by decide +kernel, by decide +kernel⟩
abbrev s_less_by : Stmt := topS 3
theorem sc_less_by : FnScope ["value", "amount"] ["value", "amount"] (defScope s_less_by) := ⟨rfl, rfl, rfl, by decide +kernel, rfl, by decide +kernel, by decide +kernel⟩
abbrev s_node_names : Stmt := topS 5
theorem sc_node_names : FnScope ["net", "row"] ["net"] (defScope s_node_names) := ⟨rfl, rfl, rfl, by decide +kernel, rfl, by decide +kernel, by decide +kernel⟩
abbrev s_ends_by_place : Stmt := topS 6
theorem sc_ends_by_place : FnScope ["net", "places", "place", "name", "row"] ["net"] (defScope s_ends_by_place) := ⟨rfl, rfl, rfl, by decide +kernel, rfl, by decide +kernel, by decide +kernel⟩
abbrev s_turned_net : Stmt := topS 7
theorem sc_turned_net : FnScope ["net", "nodes", "name", "supply", "tail", "head", "low", "high", "price"] ["net"] (defScope s_turned_net) := ⟨rfl, rfl, rfl, by decide +kernel, rfl, by decide +kernel, by decide +kernel⟩
abbrev s_left_over : Stmt := topS 9
theorem sc_left_over : FnScope ["net", "flow", "found", "tail", "head", "amount", "row"] ["net", "flow"] (defScope s_left_over) := ⟨rfl, rfl, rfl, by decide +kernel, rfl, by decide +kernel, by decide +kernel⟩
abbrev s_flow_fault : Stmt := topS 10
theorem sc_flow_fault : FnScope ["net", "value", "row", "amount", "name"] ["net", "value"] (defScope s_flow_fault) := ⟨rfl, rfl, rfl, by decide +kernel, rfl, by decide +kernel, by decide +kernel⟩
abbrev s_is_flow : Stmt := topS 11
theorem sc_is_flow : FnScope ["net", "value"] ["net", "value"] (defScope s_is_flow) := ⟨rfl, rfl, rfl, by decide +kernel, rfl, by decide +kernel, by decide +kernel⟩
abbrev s_least_amounts : Stmt := topS 12
theorem sc_least_amounts : FnScope ["net", "row"] ["net"] (defScope s_least_amounts) := ⟨rfl, rfl, rfl, by decide +kernel, rfl, by decide +kernel, by decide +kernel⟩
abbrev s_steps_of : Stmt := topS 14
theorem sc_steps_of : FnScope ["net", "flow", "found", "ends", "place", "row", "tail", "head", "more"] ["net", "flow"] (defScope s_steps_of) := ⟨rfl, rfl, rfl, by decide +kernel, rfl, by decide +kernel, by decide +kernel⟩
abbrev s_steps_by_start : Stmt := topS 15
theorem sc_steps_by_start : FnScope ["net", "flow", "found", "step", "_"] ["net", "flow"] (defScope s_steps_by_start) := ⟨rfl, rfl, rfl, by decide +kernel, rfl, by decide +kernel, by decide +kernel⟩
abbrev s_reached_from : Stmt := topS 16
theorem sc_reached_from : FnScope ["net", "flow", "starts", "rows", "found", "order", "place", "at", "step", "_"] ["net", "flow", "starts"] (defScope s_reached_from) := ⟨rfl, rfl, rfl, by decide +kernel, rfl, by decide +kernel, by decide +kernel⟩
abbrev s_reaching : Stmt := topS 17
theorem sc_reaching : FnScope ["net", "flow", "goals", "back", "step", "found", "order", "place", "at", "_"] ["net", "flow", "goals"] (defScope s_reaching) := ⟨rfl, rfl, rfl, by decide +kernel, rfl, by decide +kernel, by decide +kernel⟩
abbrev s_way_to : Stmt := topS 18
theorem sc_way_to : FnScope ["met", "goal", "found"] ["met", "goal"] (defScope s_way_to) := ⟨rfl, rfl, rfl, by decide +kernel, rfl, by decide +kernel, by decide +kernel⟩
abbrev s_room_along : Stmt := topS 19
theorem sc_room_along : FnScope ["steps", "found", "step"] ["steps"] (defScope s_room_along) := ⟨rfl, rfl, rfl, by decide +kernel, rfl, by decide +kernel, by decide +kernel⟩
abbrev s_price_along : Stmt := topS 20
theorem sc_price_along : FnScope ["steps", "step"] ["steps"] (defScope s_price_along) := ⟨rfl, rfl, rfl, by decide +kernel, rfl, by decide +kernel, by decide +kernel⟩
abbrev s_pushed : Stmt := topS 21
theorem sc_pushed : FnScope ["flow", "steps", "amount", "found", "_", "arc", "way"] ["flow", "steps", "amount"] (defScope s_pushed) := ⟨rfl, rfl, rfl, by decide +kernel, rfl, by decide +kernel, by decide +kernel⟩
abbrev s_filled : Stmt := topS 23
theorem sc_filled : FnScope ["net", "flow", "rest", "starts", "met", "goals", "way", "start", "amount", "place"] ["net", "flow"] (defScope s_filled) := ⟨rfl, rfl, rfl, by decide +kernel, rfl, by decide +kernel, by decide +kernel⟩
abbrev s_lacking : Stmt := topS 25
theorem sc_lacking : FnScope ["net", "flow", "rest", "over", "under", "names", "met", "nodes", "marks", "place", "amount", "name"] ["net", "flow"] (defScope s_lacking) := ⟨rfl, rfl, rfl, by decide +kernel, rfl, by decide +kernel, by decide +kernel⟩
abbrev s_first_flow : Stmt := topS 24
theorem sc_first_flow : FnScope ["net", "flow"] ["net"] (defScope s_first_flow) := ⟨rfl, rfl, rfl, by decide +kernel, rfl, by decide +kernel, by decide +kernel⟩
abbrev s_gap_over : Stmt := topS 26
theorem sc_gap_over : FnScope ["net", "nodes", "found", "row", "name", "supply"] ["net", "nodes"] (defScope s_gap_over) := ⟨rfl, rfl, rfl, by decide +kernel, rfl, by decide +kernel, by decide +kernel⟩
abbrev s_gap_under : Stmt := topS 27
theorem sc_gap_under : FnScope ["net", "nodes", "found", "row", "name", "supply"] ["net", "nodes"] (defScope s_gap_under) := ⟨rfl, rfl, rfl, by decide +kernel, rfl, by decide +kernel, by decide +kernel⟩
abbrev s_judge_never : Stmt := topS 28
theorem sc_judge_never : FnScope ["net", "paper", "_", "amount", "word", "nodes", "gap", "name"] ["net", "paper"] (defScope s_judge_never) := ⟨rfl, rfl, rfl, by decide +kernel, rfl, by decide +kernel, by decide +kernel⟩
abbrev s_has_flow : Stmt := topS 29
theorem sc_has_flow : FnScope ["net"] ["net"] (defScope s_has_flow) := ⟨rfl, rfl, rfl, by decide +kernel, rfl, by decide +kernel, by decide +kernel⟩
abbrev s_law_state : Stmt := topS 31
theorem sc_law_state : FnScope ["script"] ["script"] (defScope s_law_state) := ⟨rfl, rfl, rfl, by decide +kernel, rfl, by decide +kernel, by decide +kernel⟩
abbrev s_law_draw : Stmt := topS 32
theorem sc_law_draw : FnScope ["state", "limit", "cell", "digit", "mixed"] ["state", "limit"] (defScope s_law_draw) := ⟨rfl, rfl, rfl, by decide +kernel, rfl, by decide +kernel, by decide +kernel⟩
abbrev s_law_truth : Stmt := topS 33
theorem sc_law_truth : FnScope ["told", "due"] ["told", "due"] (defScope s_law_truth) := ⟨rfl, rfl, rfl, by decide +kernel, rfl, by decide +kernel, by decide +kernel⟩
abbrev s_law_net : Stmt := topS 34
theorem sc_law_net : FnScope ["state", "most", "wide", "names", "supplies", "arcs", "k", "tail", "head", "low", "high", "nodes", "name"] ["state", "most", "wide"] (defScope s_law_net) := ⟨rfl, rfl, rfl, by decide +kernel, rfl, by decide +kernel, by decide +kernel⟩
abbrev s_law_rest : Stmt := topS 35
theorem sc_law_rest : FnScope ["net", "flow", "names", "rest", "k", "name", "supply"] ["net", "flow"] (defScope s_law_rest) := ⟨rfl, rfl, rfl, by decide +kernel, rfl, by decide +kernel, by decide +kernel⟩
abbrev s_law_sets : Stmt := topS 36
theorem sc_law_sets : FnScope ["net", "names", "rows", "name", "supply", "row"] ["net"] (defScope s_law_sets) := ⟨rfl, rfl, rfl, by decide +kernel, rfl, by decide +kernel, by decide +kernel⟩
abbrev s_law_gap : Stmt := topS 37
theorem sc_law_gap : FnScope ["net", "nodes", "sign", "total", "name", "tail", "head", "low", "high", "price", "out", "into", "supply"] ["net", "nodes", "sign"] (defScope s_law_gap) := ⟨rfl, rfl, rfl, by decide +kernel, rfl, by decide +kernel, by decide +kernel⟩
abbrev s_law_never : Stmt := topS 38
theorem sc_law_never : FnScope ["net", "sign", "best", "nodes", "gap"] ["net"] (defScope s_law_never) := ⟨rfl, rfl, rfl, by decide +kernel, rfl, by decide +kernel, by decide +kernel⟩
abbrev s_law_steps : Stmt := topS 39
theorem sc_law_steps : FnScope ["net", "flow", "names", "found", "k", "name", "tail", "head", "low", "high", "price", "i", "j", "supply"] ["net", "flow"] (defScope s_law_steps) := ⟨rfl, rfl, rfl, by decide +kernel, rfl, by decide +kernel, by decide +kernel⟩
abbrev s_law_close : Stmt := topS 40
theorem sc_law_close : FnScope ["steps", "starts", "back", "found", "turn", "step"] ["steps", "starts", "back"] (defScope s_law_close) := ⟨rfl, rfl, rfl, by decide +kernel, rfl, by decide +kernel, by decide +kernel⟩
abbrev s_law_inside : Stmt := topS 41
theorem sc_law_inside : FnScope ["state", "net", "row", "name", "tail", "head", "low", "high", "price", "top"] ["state", "net"] (defScope s_law_inside) := ⟨rfl, rfl, rfl, by decide +kernel, rfl, by decide +kernel, by decide +kernel⟩
abbrev s_law_walks_hold : Stmt := topS 42
theorem sc_law_walks_hold : FnScope ["state", "net", "flow", "steps", "starts", "met", "close", "marks", "goal", "way", "rooms", "room", "moved", "gap", "k", "step", "a", "b"] ["state", "net"] (defScope s_law_walks_hold) := ⟨rfl, rfl, rfl, by decide +kernel, rfl, by decide +kernel, by decide +kernel⟩
abbrev s_law : Stmt := topS 43
theorem sc_law : FnScope ["script", "state", "net", "due", "told", "inside", "made", "over", "under", "nodes", "gap", "word", "sign", "amount", "back", "part", "row"] ["script"] (defScope s_law) := ⟨rfl, rfl, rfl, by decide +kernel, rfl, by decide +kernel, by decide +kernel⟩
/-- is_whole(value): slots 0 value -/
noncomputable def bod_is_whole : DSv :=
    (dRet (dAndT (dIsi "int" (dVar 0)) (dNotT (dIsi "bool" (dVar 0)))))
noncomputable def den_is_whole : FD := runD 1 1 bod_is_whole
/-- least_of(one, other): slots 0 one, 1 other -/
noncomputable def bod_least_of : DSv :=
    (dSeq (dIfS (dTst (dB pIsN (dVar 0) (dC .none))) (dRet (dVar 1)) dSkip)
    (dRet (dIf (dTst (dB pIsN (dVar 1) (dC .none))) (dVar 0) (dG gMin2 (dCons (dVar 0) (dCons (dVar 1) dNil))))))
noncomputable def den_least_of : FD := runD 2 2 bod_least_of
/-- less_by(value, amount): slots 0 value, 1 amount -/
noncomputable def bod_less_by : DSv :=
    (dRet (dIf (dTst (dB pIsN (dVar 0) (dC .none))) (dC .none) (dB pSub (dVar 0) (dVar 1))))
noncomputable def den_less_by : FD := runD 2 2 bod_less_by
/-- node_names(net): slots 0 net, 1 row -/
noncomputable def bod_node_names : DSv :=
    (dRetL (dComp (dS (dIx (dS (dVar 0)) (dC (.int 1)))) (.nm 1) [1] dYes (dIx (dS (dVar 1)) (dC (.int 0)))))
noncomputable def den_node_names : FD := runD 1 2 bod_node_names
/-- ends_by_place(net): slots 0 net, 1 places, 2 place, 3 name, 4 row -/
noncomputable def bod_ends_by_place : DSv :=
    (dSeq (dAsgD 1 (dDict (dEnum (dCallL den_node_names (dCons (dVar 0) dNil))) (.tp [(.nm 2), (.nm 3)]) [2, 3] (dVar 3) (dVar 2)))
    (dRetL (dComp (dS (dIx (dS (dVar 0)) (dC (.int 2)))) (.nm 4) [4] dYes (dTup (dCons (dGet 1 (dIx (dS (dVar 4)) (dC (.int 1)))) (dCons (dGet 1 (dIx (dS (dVar 4)) (dC (.int 2)))) dNil))))))
noncomputable def den_ends_by_place : FD := runD 1 5 bod_ends_by_place
/-- turned_net(net): slots 0 net, 1 nodes, 2 name, 3 supply, 4 tail, 5 head, 6 low, 7 high, 8 price -/
noncomputable def bod_turned_net : DSv :=
    (dSeq (dAsg 1 (dG gTuple (dComp (dS (dIx (dS (dVar 0)) (dC (.int 1)))) (.tp [(.nm 2), (.nm 3)]) [2, 3] dYes (dTup (dCons (dVar 2) (dCons (dU pNeg (dVar 3)) dNil))))))
    (dRet (dTup (dCons (dC (.str "net")) (dCons (dVar 1) (dCons (dG gTuple (dComp (dS (dIx (dS (dVar 0)) (dC (.int 2)))) (.tp [(.nm 2), (.nm 4), (.nm 5), (.nm 6), (.nm 7), (.nm 8)]) [2, 4, 5, 6, 7, 8] dYes (dTup (dCons (dVar 2) (dCons (dVar 5) (dCons (dVar 4) (dCons (dVar 6) (dCons (dVar 7) (dCons (dVar 8) dNil))))))))) dNil))))))
noncomputable def den_turned_net : FD := runD 1 9 bod_turned_net
/-- left_over(net, flow): slots 0 net, 1 flow, 2 found, 3 tail, 4 head, 5 amount, 6 row -/
noncomputable def bod_left_over : DSv :=
    (dSeq (dAsgO 2 (dComp (dS (dIx (dS (dVar 0)) (dC (.int 1)))) (.nm 6) [6] dYes (dIx (dS (dVar 6)) (dC (.int 1)))))
    (dSeq (dFor (dZip (dS (dFz (dCallL den_ends_by_place (dCons (dVar 0) dNil)))) (dS (dVar 1))) [3, 4, 5] (.tp [(.tp [(.nm 3), (.nm 4)]), (.nm 5)]) (dSeq (dAugIx 2 (fun i j => i - j) (dVar 3) (dVar 5))
    (dAugIx 2 (fun i j => i + j) (dVar 4) (dVar 5))))
    (dRetO 2)))
noncomputable def den_left_over : FD := runD 2 7 bod_left_over
/-- flow_fault(net, value): slots 0 net, 1 value, 2 row, 3 amount, 4 name -/
noncomputable def bod_flow_fault : DSv :=
    (dSeq (dIfS (dOr (dNot (dTru (dIsi "tuple" (dVar 1)))) (dOr (dTst (dB pNe (dG gLen (dS (dVar 1))) (dG gLen (dS (dIx (dS (dVar 0)) (dC (.int 2))))))) (dNot (dTru (dG gAll (dComp (dS (dVar 1)) (.nm 3) [3] dYes (dCall den_is_whole (dCons (dVar 3) dNil)))))))) (dRet (dTup (dCons (dC (.str "form")) (dCons (dC (.str "")) dNil)))) dSkip)
    (dSeq (dFor (dZip (dS (dIx (dS (dVar 0)) (dC (.int 2)))) (dS (dVar 1))) [2, 3] (.tp [(.nm 2), (.nm 3)]) (dIfS (dOr (dTst (dB pLt (dVar 3) (dIx (dS (dVar 2)) (dC (.int 3))))) (dAnd (dTst (dB pNotN (dIx (dS (dVar 2)) (dC (.int 4))) (dC .none))) (dTst (dB pGt (dVar 3) (dIx (dS (dVar 2)) (dC (.int 4))))))) (dRet (dTup (dCons (dC (.str "bounds")) (dCons (dIx (dS (dVar 2)) (dC (.int 0))) dNil)))) dSkip))
    (dSeq (dFor (dZip (dS (dFz (dCallL den_node_names (dCons (dVar 0) dNil)))) (dS (dFz (dCallL den_left_over (dCons (dVar 0) (dCons (dVar 1) dNil)))))) [3, 4] (.tp [(.nm 4), (.nm 3)]) (dIfS (dTst (dB pNe (dVar 3) (dC (.int 0)))) (dRet (dTup (dCons (dC (.str "balance")) (dCons (dVar 4) dNil)))) dSkip))
    (dRet (dC .none)))))
noncomputable def den_flow_fault : FD := runD 2 5 bod_flow_fault
/-- is_flow(net, value): slots 0 net, 1 value -/
noncomputable def bod_is_flow : DSv :=
    (dRet (dB pIsN (dCall den_flow_fault (dCons (dVar 0) (dCons (dVar 1) dNil))) (dC .none)))
noncomputable def den_is_flow : FD := runD 2 2 bod_is_flow
/-- least_amounts(net): slots 0 net, 1 row -/
noncomputable def bod_least_amounts : DSv :=
    (dRet (dG gTuple (dComp (dS (dIx (dS (dVar 0)) (dC (.int 2)))) (.nm 1) [1] dYes (dIx (dS (dVar 1)) (dC (.int 3))))))
noncomputable def den_least_amounts : FD := runD 1 2 bod_least_amounts
/-- steps_of(net, flow): slots 0 net, 1 flow, 2 found, 3 ends, 4 place, 5 row, 6 tail, 7 head, 8 more -/
noncomputable def bod_steps_of : DSv :=
    (dSeq (dAsgO 2 (dLst dNil))
    (dSeq (dAsg 3 (dFz (dCallL den_ends_by_place (dCons (dVar 0) dNil))))
    (dSeq (dFor (dEnum (dS (dIx (dS (dVar 0)) (dC (.int 2))))) [4, 5, 6, 7, 8] (.tp [(.nm 4), (.nm 5)]) (dSeq (dTgt (.tp [(.nm 6), (.nm 7)]) (dIx (dS (dVar 3)) (dVar 4)))
    (dSeq (dAsg 8 (dCall den_less_by (dCons (dIx (dS (dVar 5)) (dC (.int 4))) (dCons (dIx (dS (dVar 1)) (dVar 4)) dNil))))
    (dSeq (dIfS (dOr (dTst (dB pIsN (dVar 8) (dC .none))) (dTst (dB pGt (dVar 8) (dC (.int 0))))) (dApp 2 (dTup (dCons (dVar 6) (dCons (dVar 7) (dCons (dVar 4) (dCons (dC (.int 1)) (dCons (dVar 8) (dCons (dIx (dS (dVar 5)) (dC (.int 5))) dNil)))))))) dSkip)
    (dIfS (dTst (dB pGt (dIx (dS (dVar 1)) (dVar 4)) (dIx (dS (dVar 5)) (dC (.int 3))))) (dApp 2 (dTup (dCons (dVar 7) (dCons (dVar 6) (dCons (dVar 4) (dCons (dU pNeg (dC (.int 1))) (dCons (dB pSub (dIx (dS (dVar 1)) (dVar 4)) (dIx (dS (dVar 5)) (dC (.int 3)))) (dCons (dU pNeg (dIx (dS (dVar 5)) (dC (.int 5)))) dNil)))))))) dSkip)))))
    (dRetO 2))))
noncomputable def den_steps_of : FD := runD 2 9 bod_steps_of
/-- steps_by_start(net, flow): slots 0 net, 1 flow, 2 found, 3 step, 4 _ -/
noncomputable def bod_steps_by_start : DSv :=
    (dSeq (dAsgOO 2 (dCompLL (dS (dIx (dS (dVar 0)) (dC (.int 1)))) (.nm 4) [4] (dLst dNil)))
    (dSeq (dFor (dS (dFz (dCallL den_steps_of (dCons (dVar 0) (dCons (dVar 1) dNil))))) [3] (.nm 3) (dApp2 2 (dIx (dS (dVar 3)) (dC (.int 0))) (dVar 3)))
    (dRetOO 2)))
noncomputable def den_steps_by_start : FD := runD 2 5 bod_steps_by_start
/-- reached_from(net, flow, starts): slots 0 net, 1 flow, 2 starts, 3 rows, 4 found, 5 order, 6 place, 7 at, 8 step, 9 _ -/
noncomputable def bod_reached_from : DSv :=
    (dSeq (dAsg 3 (dFz (dCallL den_steps_by_start (dCons (dVar 0) (dCons (dVar 1) dNil)))))
    (dSeq (dAsgO 4 (dComp (dS (dIx (dS (dVar 0)) (dC (.int 1)))) (.nm 9) [9] dYes (dC .none)))
    (dSeq (dAsgO 5 (dGl some (dS (dVar 2))))
    (dSeq (dForO 5 [6] (.nm 6) (dSetIx 4 (dVar 6) (dC (.bool true))))
    (dSeq (dAsg 7 (dC (.int 0)))
    (dSeq (dWhile [8] (dTst (dB pLt (dVar 7) (dG gLen (dOwn 5)))) (dSeq (dFor (dS (dIx (dS (dVar 3)) (dIx (dOwn 5) (dVar 7)))) [8] (.nm 8) (dIfS (dTst (dB pIsN (dIx (dOwn 4) (dIx (dS (dVar 8)) (dC (.int 1)))) (dC .none))) (dSeq (dSetIx 4 (dIx (dS (dVar 8)) (dC (.int 1))) (dVar 8))
    (dApp 5 (dIx (dS (dVar 8)) (dC (.int 1))))) dSkip))
    (dAug 7 (fun i j => i + j) (dC (.int 1)))))
    (dRetO 4)))))))
noncomputable def den_reached_from : FD := runD 3 10 bod_reached_from
/-- reaching(net, flow, goals): slots 0 net, 1 flow, 2 goals, 3 back, 4 step, 5 found, 6 order, 7 place, 8 at, 9 _ -/
noncomputable def bod_reaching : DSv :=
    (dSeq (dAsgOO 3 (dCompLL (dS (dIx (dS (dVar 0)) (dC (.int 1)))) (.nm 9) [9] (dLst dNil)))
    (dSeq (dFor (dS (dFz (dCallL den_steps_of (dCons (dVar 0) (dCons (dVar 1) dNil))))) [4] (.nm 4) (dApp2 3 (dIx (dS (dVar 4)) (dC (.int 1))) (dIx (dS (dVar 4)) (dC (.int 0)))))
    (dSeq (dAsgO 5 (dComp (dS (dIx (dS (dVar 0)) (dC (.int 1)))) (.nm 9) [9] dYes (dC (.bool false))))
    (dSeq (dAsgO 6 (dGl some (dS (dVar 2))))
    (dSeq (dForO 6 [7] (.nm 7) (dSetIx 5 (dVar 7) (dC (.bool true))))
    (dSeq (dAsg 8 (dC (.int 0)))
    (dFrz [3] (dSeq (dWhile [7] (dTst (dB pLt (dVar 8) (dG gLen (dOwn 6)))) (dSeq (dFor (dS (dIx (dS (dVar 3)) (dIx (dOwn 6) (dVar 8)))) [7] (.nm 7) (dIfS (dNot (dTru (dIx (dOwn 5) (dVar 7)))) (dSeq (dSetIx 5 (dVar 7) (dC (.bool true)))
    (dApp 6 (dVar 7))) dSkip))
    (dAug 8 (fun i j => i + j) (dC (.int 1)))))
    (dRetO 5)))))))))
noncomputable def den_reaching : FD := runD 3 10 bod_reaching
/-- way_to(met, goal): slots 0 met, 1 goal, 2 found -/
noncomputable def bod_way_to : DSv :=
    (dSeq (dAsgO 2 (dLst dNil))
    (dSeq (dWhile [] (dTst (dB pNotB (dIx (dS (dVar 0)) (dVar 1)) (dC (.bool true)))) (dSeq (dApp 2 (dIx (dS (dVar 0)) (dVar 1)))
    (dAsg 1 (dIx (dS (dIx (dS (dVar 0)) (dVar 1))) (dC (.int 0))))))
    (dRetL (dRev (dOwn 2)))))
noncomputable def den_way_to : FD := runD 2 3 bod_way_to
/-- room_along(steps): slots 0 steps, 1 found, 2 step -/
noncomputable def bod_room_along : DSv :=
    (dSeq (dAsg 1 (dC .none))
    (dSeq (dFor (dS (dVar 0)) [2] (.nm 2) (dAsg 1 (dCall den_least_of (dCons (dVar 1) (dCons (dIx (dS (dVar 2)) (dC (.int 4))) dNil)))))
    (dRet (dVar 1))))
noncomputable def den_room_along : FD := runD 1 3 bod_room_along
/-- price_along(steps): slots 0 steps, 1 step -/
noncomputable def bod_price_along : DSv :=
    (dRet (dG gSum (dComp (dS (dVar 0)) (.nm 1) [1] dYes (dIx (dS (dVar 1)) (dC (.int 5))))))
noncomputable def den_price_along : FD := runD 1 2 bod_price_along
/-- pushed(flow, steps, amount): slots 0 flow, 1 steps, 2 amount, 3 found, 4 _, 5 arc, 6 way -/
noncomputable def bod_pushed : DSv :=
    (dSeq (dAsgO 3 (dGl some (dS (dVar 0))))
    (dSeq (dFor (dS (dVar 1)) [4, 5, 6] (.tp [(.nm 4), (.nm 4), (.nm 5), (.nm 6), (.nm 4), (.nm 4)]) (dAugIx 3 (fun i j => i + j) (dVar 5) (dB pMul (dVar 6) (dVar 2))))
    (dRet (dG gTuple (dOwn 3)))))
noncomputable def den_pushed : FD := runD 3 7 bod_pushed
/-- filled(net, flow): slots 0 net, 1 flow, 2 rest, 3 starts, 4 met, 5 goals, 6 way, 7 start, 8 amount, 9 place -/
noncomputable def bod_filled : DSv :=
    (dSeq (dAsgO 2 (dCallL den_left_over (dCons (dVar 0) (dCons (dVar 1) dNil))))
    (dWhile [3, 4, 5, 6, 7, 8] (dTru (dC (.bool true))) (dSeq (dAsg 3 (dFz (dComp (dEnum (dOwn 2)) (.tp [(.nm 9), (.nm 8)]) [9, 8] (dTst (dB pGt (dVar 8) (dC (.int 0)))) (dVar 9))))
    (dSeq (dAsg 4 (dFz (dCallL den_reached_from (dCons (dVar 0) (dCons (dVar 1) (dCons (dVar 3) dNil))))))
    (dSeq (dAsg 5 (dFz (dComp (dEnum (dOwn 2)) (.tp [(.nm 9), (.nm 8)]) [9, 8] (dAnd (dTst (dB pLt (dVar 8) (dC (.int 0)))) (dTst (dB pNotN (dIx (dS (dVar 4)) (dVar 9)) (dC .none)))) (dVar 9))))
    (dSeq (dIfS (dTst (dB pEq (dVar 5) (dFz (dLst dNil)))) (dRet (dVar 1)) dSkip)
    (dSeq (dAsg 6 (dFz (dCallL den_way_to (dCons (dVar 4) (dCons (dIx (dS (dVar 5)) (dC (.int 0))) dNil)))))
    (dSeq (dAsg 7 (dIx (dS (dIx (dS (dVar 6)) (dC (.int 0)))) (dC (.int 0))))
    (dSeq (dAsg 8 (dCall den_least_of (dCons (dCall den_room_along (dCons (dVar 6) dNil)) (dCons (dG gMin2 (dCons (dIx (dOwn 2) (dVar 7)) (dCons (dU pNeg (dIx (dOwn 2) (dIx (dS (dVar 5)) (dC (.int 0))))) dNil))) dNil))))
    (dSeq (dAsg 1 (dCall den_pushed (dCons (dVar 1) (dCons (dVar 6) (dCons (dVar 8) dNil)))))
    (dSeq (dAugIx 2 (fun i j => i - j) (dVar 7) (dVar 8))
    (dAugIx 2 (fun i j => i + j) (dIx (dS (dVar 5)) (dC (.int 0))) (dVar 8)))))))))))))
noncomputable def den_filled : FD := runD 2 10 bod_filled
/-- lacking(net, flow): slots 0 net, 1 flow, 2 rest, 3 over, 4 under, 5 names, 6 met, 7 nodes, 8 marks, 9 place, 10 amount, 11 name -/
noncomputable def bod_lacking : DSv :=
    (dSeq (dAsg 2 (dFz (dCallL den_left_over (dCons (dVar 0) (dCons (dVar 1) dNil)))))
    (dSeq (dAsg 3 (dFz (dComp (dEnum (dS (dVar 2))) (.tp [(.nm 9), (.nm 10)]) [9, 10] (dTst (dB pGt (dVar 10) (dC (.int 0)))) (dVar 9))))
    (dSeq (dAsg 4 (dFz (dComp (dEnum (dS (dVar 2))) (.tp [(.nm 9), (.nm 10)]) [9, 10] (dTst (dB pLt (dVar 10) (dC (.int 0)))) (dVar 9))))
    (dSeq (dAsg 5 (dFz (dCallL den_node_names (dCons (dVar 0) dNil))))
    (dSeq (dIfS (dTru (dVar 3)) (dSeq (dAsg 6 (dFz (dCallL den_reached_from (dCons (dVar 0) (dCons (dVar 1) (dCons (dVar 3) dNil))))))
    (dSeq (dAsg 7 (dG gTuple (dComp (dEnum (dS (dVar 5))) (.tp [(.nm 9), (.nm 11)]) [9, 11] (dTst (dB pNotN (dIx (dS (dVar 6)) (dVar 9)) (dC .none))) (dVar 11))))
    (dRet (dTup (dCons (dC (.str "never")) (dCons (dG gSum (dComp (dS (dVar 3)) (.nm 9) [9] dYes (dIx (dS (dVar 2)) (dVar 9)))) (dCons (dC (.str "over")) (dCons (dVar 7) dNil)))))))) dSkip)
    (dSeq (dIfS (dTru (dVar 4)) (dSeq (dAsg 8 (dFz (dCallL den_reaching (dCons (dVar 0) (dCons (dVar 1) (dCons (dVar 4) dNil))))))
    (dSeq (dAsg 7 (dG gTuple (dComp (dEnum (dS (dVar 5))) (.tp [(.nm 9), (.nm 11)]) [9, 11] (dTru (dIx (dS (dVar 8)) (dVar 9))) (dVar 11))))
    (dRet (dTup (dCons (dC (.str "never")) (dCons (dU pNeg (dG gSum (dComp (dS (dVar 4)) (.nm 9) [9] dYes (dIx (dS (dVar 2)) (dVar 9))))) (dCons (dC (.str "under")) (dCons (dVar 7) dNil)))))))) dSkip)
    (dRet (dC .none))))))))
noncomputable def den_lacking : FD := runD 2 12 bod_lacking
/-- first_flow(net): slots 0 net, 1 flow -/
noncomputable def bod_first_flow : DSv :=
    (dSeq (dAsg 1 (dCall den_filled (dCons (dVar 0) (dCons (dCall den_least_amounts (dCons (dVar 0) dNil)) dNil))))
    (dRet (dOrT (dCall den_lacking (dCons (dVar 0) (dCons (dVar 1) dNil))) (dTup (dCons (dC (.str "flow")) (dCons (dVar 1) dNil))))))
noncomputable def den_first_flow : FD := runD 1 2 bod_first_flow
/-- gap_over(net, nodes): slots 0 net, 1 nodes, 2 found, 3 row, 4 name, 5 supply -/
noncomputable def bod_gap_over : DSv :=
    (dSeq (dAsg 2 (dG gSum (dComp (dS (dIx (dS (dVar 0)) (dC (.int 1)))) (.tp [(.nm 4), (.nm 5)]) [4, 5] (dTst (dInQ gIn (dVar 4) (dS (dVar 1)))) (dVar 5))))
    (dSeq (dFor (dS (dIx (dS (dVar 0)) (dC (.int 2)))) [3] (.nm 3) (dSeq (dIfS (dAnd (dTst (dInQ gNotIn (dIx (dS (dVar 3)) (dC (.int 1))) (dS (dVar 1)))) (dTst (dInQ gIn (dIx (dS (dVar 3)) (dC (.int 2))) (dS (dVar 1))))) (dAug 2 (fun i j => i + j) (dIx (dS (dVar 3)) (dC (.int 3)))) dSkip)
    (dIfS (dAnd (dTst (dInQ gIn (dIx (dS (dVar 3)) (dC (.int 1))) (dS (dVar 1)))) (dTst (dInQ gNotIn (dIx (dS (dVar 3)) (dC (.int 2))) (dS (dVar 1))))) (dSeq (dIfS (dTst (dB pIsN (dIx (dS (dVar 3)) (dC (.int 4))) (dC .none))) (dRet (dC .none)) dSkip)
    (dAug 2 (fun i j => i - j) (dIx (dS (dVar 3)) (dC (.int 4))))) dSkip)))
    (dRet (dVar 2))))
noncomputable def den_gap_over : FD := runD 2 6 bod_gap_over
/-- gap_under(net, nodes): slots 0 net, 1 nodes, 2 found, 3 row, 4 name, 5 supply -/
noncomputable def bod_gap_under : DSv :=
    (dSeq (dAsg 2 (dU pNeg (dG gSum (dComp (dS (dIx (dS (dVar 0)) (dC (.int 1)))) (.tp [(.nm 4), (.nm 5)]) [4, 5] (dTst (dInQ gIn (dVar 4) (dS (dVar 1)))) (dVar 5)))))
    (dSeq (dFor (dS (dIx (dS (dVar 0)) (dC (.int 2)))) [3] (.nm 3) (dSeq (dIfS (dAnd (dTst (dInQ gIn (dIx (dS (dVar 3)) (dC (.int 1))) (dS (dVar 1)))) (dTst (dInQ gNotIn (dIx (dS (dVar 3)) (dC (.int 2))) (dS (dVar 1))))) (dAug 2 (fun i j => i + j) (dIx (dS (dVar 3)) (dC (.int 3)))) dSkip)
    (dIfS (dAnd (dTst (dInQ gNotIn (dIx (dS (dVar 3)) (dC (.int 1))) (dS (dVar 1)))) (dTst (dInQ gIn (dIx (dS (dVar 3)) (dC (.int 2))) (dS (dVar 1))))) (dSeq (dIfS (dTst (dB pIsN (dIx (dS (dVar 3)) (dC (.int 4))) (dC .none))) (dRet (dC .none)) dSkip)
    (dAug 2 (fun i j => i - j) (dIx (dS (dVar 3)) (dC (.int 4))))) dSkip)))
    (dRet (dVar 2))))
noncomputable def den_gap_under : FD := runD 2 6 bod_gap_under
/-- judge_never(net, paper): slots 0 net, 1 paper, 2 _, 3 amount, 4 word, 5 nodes, 6 gap, 7 name -/
noncomputable def bod_judge_never : DSv :=
    (dSeq (dTgt (.tp [(.nm 2), (.nm 3), (.nm 4), (.nm 5)]) (dVar 1))
    (dSeq (dIfS (dOr (dTst (dInQ gNotIn (dVar 4) (dS (dTup (dCons (dC (.str "over")) (dCons (dC (.str "under")) dNil)))))) (dOr (dTst (dB pLt (dVar 3) (dC (.int 1)))) (dNot (dTru (dG gAll (dComp (dS (dVar 5)) (.nm 7) [7] dYes (dInQ gIn (dVar 7) (dCallL den_node_names (dCons (dVar 0) dNil))))))))) (dRet (dC (.bool false))) dSkip)
    (dSeq (dAsg 6 (dIf (dTst (dB pEq (dVar 4) (dC (.str "over")))) (dCall den_gap_over (dCons (dVar 0) (dCons (dVar 5) dNil))) (dCall den_gap_under (dCons (dVar 0) (dCons (dVar 5) dNil)))))
    (dRet (dB pEq (dVar 6) (dVar 3))))))
noncomputable def den_judge_never : FD := runD 2 8 bod_judge_never
/-- has_flow(net): slots 0 net -/
noncomputable def bod_has_flow : DSv :=
    (dRet (dB pEq (dIx (dS (dCall den_first_flow (dCons (dVar 0) dNil))) (dC (.int 0))) (dC (.str "flow"))))
noncomputable def den_has_flow : FD := runD 1 1 bod_has_flow
/-- _law_state(script): slots 0 script -/
noncomputable def bod_law_state : DSv :=
    (dRetL (dLst (dCons (dFz (dGl some (dS (dVar 0)))) (dCons (dC (.int 0)) (dCons (dC (.int 0)) (dCons (dC (.int 0)) (dCons (dC (.bool false)) (dCons (dC (.int 500)) dNil))))))))
noncomputable def den_law_state : FD := runD 1 1 bod_law_state
/-- _law_draw(state, limit): slots 0 state, 1 limit, 2 cell, 3 digit, 4 mixed -/
noncomputable def bod_law_draw : DSv :=
    (dSeq (dIfS (dTst (dB pEq (dIx (dOwn 0) (dC (.int 3))) (dC (.int 0)))) (dSeq (dIfS (dTst (dB pGe (dIx (dOwn 0) (dC (.int 1))) (dG gLen (dS (dIx (dOwn 0) (dC (.int 0))))))) (dRet (dC (.int 0))) dSkip)
    (dSeq (dAsg 2 (dIx (dS (dIx (dOwn 0) (dC (.int 0)))) (dIx (dOwn 0) (dC (.int 1)))))
    (dSeq (dIfS (dTst (dB pLt (dVar 2) (dC (.int 0)))) (dAsg 2 (dB pSub (dU pNeg (dC (.int 1))) (dVar 2))) dSkip)
    (dSeq (dSetIx 0 (dC (.int 1)) (dB pAdd (dIx (dOwn 0) (dC (.int 1))) (dC (.int 1))))
    (dSeq (dSetIx 0 (dC (.int 2)) (dVar 2))
    (dSeq (dSetIx 0 (dC (.int 4)) (dB pGe (dVar 2) (dB pPow (dC (.int 10)) (dC (.int 18)))))
    (dSeq (dSetIx 0 (dC (.int 3)) (dC (.int 6)))
    (dIfS (dTru (dIx (dOwn 0) (dC (.int 4)))) (dSetIx 0 (dC (.int 3)) (dC (.int 60))) dSkip)))))))) dSkip)
    (dSeq (dSetIx 0 (dC (.int 3)) (dB pSub (dIx (dOwn 0) (dC (.int 3))) (dC (.int 1))))
    (dSeq (dIfS (dTru (dIx (dOwn 0) (dC (.int 4)))) (dSeq (dAsg 3 (dB pMod (dG gInt (dCons (dIx (dOwn 0) (dC (.int 2))) dNil)) (dVar 1)))
    (dSeq (dSetIx 0 (dC (.int 2)) (dB pFdiv (dIx (dOwn 0) (dC (.int 2))) (dVar 1)))
    (dSeq (dIfS (dTst (dB pEq (dIx (dOwn 0) (dC (.int 2))) (dC (.int 0)))) (dSetIx 0 (dC (.int 3)) (dC (.int 0))) dSkip)
    (dRet (dVar 3))))) dSkip)
    (dSeq (dAsg 4 (dB pMod (dG gInt (dCons (dB pAdd (dB pAdd (dB pMul (dIx (dOwn 0) (dC (.int 2))) (dC (.int 48271))) (dB pMul (dIx (dOwn 0) (dC (.int 3))) (dC (.int 69621)))) (dC (.int 7))) dNil)) (dC (.int 2147483647))))
    (dSeq (dAsg 4 (dB pMod (dG gInt (dCons (dB pAdd (dB pAdd (dB pMul (dVar 4) (dVar 4)) (dB pMul (dIx (dOwn 0) (dC (.int 2))) (dC (.int 31)))) (dIx (dOwn 0) (dC (.int 3)))) dNil)) (dC (.int 1000003))))
    (dRet (dB pMod (dG gInt (dCons (dVar 4) dNil)) (dVar 1))))))))
noncomputable def den_law_draw : FX := runX 2 5 bod_law_draw
/-- _law_truth(told, due): slots 0 told, 1 due -/
noncomputable def bod_law_truth : DSv :=
    (dSeq (dIfS (dTru (dVar 1)) (dRet (dB pIsB (dVar 0) (dC (.bool true)))) dSkip)
    (dRet (dB pIsB (dVar 0) (dC (.bool false)))))
noncomputable def den_law_truth : FD := runD 2 2 bod_law_truth
/-- _law_net(state, most, wide): slots 0 state, 1 most, 2 wide, 3 names, 4 supplies, 5 arcs, 6 k, 7 tail, 8 head, 9 low, 10 high, 11 nodes, 12 name -/
noncomputable def bod_law_net : DSv :=
    (dSeq (eAsg 3 (eCut (dFz (dLst (dCons (dC (.str "a")) (dCons (dC (.str "b")) (dCons (dC (.str "c")) (dCons (dC (.str "d")) (dCons (dC (.str "e")) (dCons (dC (.str "f")) dNil)))))))) eNoPart (ePart (eB pAdd (ePure (dC (.int 2))) (eCall 0 den_law_draw (dCons (dB pSub (dVar 1) (dC (.int 1))) dNil))))))
    (dSeq (eAsgO 4 (eComp (dS (dVar 3)) (.nm 12) [12] eYes (eB pSub (eCall 0 den_law_draw (dCons (dC (.int 5)) dNil)) (ePure (dC (.int 2))))))
    (dSeq (eIfS (eTst (eB pGt (eCall 0 den_law_draw (dCons (dC (.int 8)) dNil)) (ePure (dC (.int 0))))) (dSetIx 4 (dB pSub (dG gLen (dOwn 4)) (dC (.int 1))) (dB pSub (dC (.int 0)) (dG gSum (dSlice (dOwn 4) dNoPart (dPart (dB pSub (dG gLen (dOwn 4)) (dC (.int 1)))))))) dSkip)
    (dSeq (dAsgO 5 (dLst dNil))
    (dSeq (eFor (eRng1 (eCall 0 den_law_draw (dCons (dB pMul (dC (.int 2)) (dVar 1)) dNil))) [6, 7, 8, 9, 10] (.nm 6) (dSeq (eAsg 7 (eCall 0 den_law_draw (dCons (dG gLen (dS (dVar 3))) dNil)))
    (dSeq (eAsg 8 (eB pMod (eG gInt (eCons (eB pAdd (ePure (dB pAdd (dVar 7) (dC (.int 1)))) (eCall 0 den_law_draw (dCons (dB pSub (dG gLen (dS (dVar 3))) (dC (.int 1))) dNil))) eNil)) (ePure (dG gLen (dS (dVar 3))))))
    (dSeq (eAsg 9 (eG gInt (eCons (eB pEq (eCall 0 den_law_draw (dCons (dC (.int 4)) dNil)) (ePure (dC (.int 3)))) eNil)))
    (dSeq (eAsg 10 (eB pAdd (ePure (dVar 9)) (eCall 0 den_law_draw (dCons (dC (.int 4)) dNil))))
    (dSeq (eIfS (eAnd (eTPure (dTru (dVar 2))) (eTst (eB pEq (eCall 0 den_law_draw (dCons (dC (.int 3)) dNil)) (ePure (dC (.int 0)))))) (dAsg 10 (dC .none)) dSkip)
    (eApp 5 (eTup (eCons (ePure (dB pAdd (dC (.str "e")) (dG gStr (dCons (dVar 6) dNil)))) (eCons (ePure (dIx (dS (dVar 3)) (dVar 7))) (eCons (ePure (dIx (dS (dVar 3)) (dVar 8))) (eCons (ePure (dVar 9)) (eCons (ePure (dVar 10)) (eCons (eB pSub (eCall 0 den_law_draw (dCons (dC (.int 8)) dNil)) (ePure (dC (.int 2)))) eNil))))))))))))))
    (dSeq (dAsg 11 (dG gTuple (dComp (dRng1 (dG gLen (dS (dVar 3)))) (.nm 6) [6] dYes (dTup (dCons (dIx (dS (dVar 3)) (dVar 6)) (dCons (dIx (dOwn 4) (dVar 6)) dNil))))))
    (dRet (dTup (dCons (dC (.str "net")) (dCons (dVar 11) (dCons (dG gTuple (dOwn 5)) dNil)))))))))))
noncomputable def den_law_net : FX := runX 3 13 bod_law_net
/-- _law_rest(net, flow): slots 0 net, 1 flow, 2 names, 3 rest, 4 k, 5 name, 6 supply -/
noncomputable def bod_law_rest : DSv :=
    (dSeq (dAsg 2 (dFz (dComp (dS (dIx (dS (dVar 0)) (dC (.int 1)))) (.tp [(.nm 5), (.nm 6)]) [5, 6] dYes (dVar 5))))
    (dSeq (dAsgO 3 (dComp (dS (dIx (dS (dVar 0)) (dC (.int 1)))) (.tp [(.nm 5), (.nm 6)]) [5, 6] dYes (dVar 6)))
    (dSeq (dFor (dRng1 (dG gLen (dS (dIx (dS (dVar 0)) (dC (.int 2)))))) [4] (.nm 4) (dSeq (dSetIx 3 (dIndex (dLs (dVar 2)) (dIx (dS (dIx (dS (dIx (dS (dVar 0)) (dC (.int 2)))) (dVar 4))) (dC (.int 1)))) (dB pSub (dIx (dOwn 3) (dIndex (dLs (dVar 2)) (dIx (dS (dIx (dS (dIx (dS (dVar 0)) (dC (.int 2)))) (dVar 4))) (dC (.int 1))))) (dIx (dS (dVar 1)) (dVar 4))))
    (dSetIx 3 (dIndex (dLs (dVar 2)) (dIx (dS (dIx (dS (dIx (dS (dVar 0)) (dC (.int 2)))) (dVar 4))) (dC (.int 2)))) (dB pAdd (dIx (dOwn 3) (dIndex (dLs (dVar 2)) (dIx (dS (dIx (dS (dIx (dS (dVar 0)) (dC (.int 2)))) (dVar 4))) (dC (.int 2))))) (dIx (dS (dVar 1)) (dVar 4))))))
    (dRetO 3))))
noncomputable def den_law_rest : FD := runD 2 7 bod_law_rest
/-- _law_sets(net): slots 0 net, 1 names, 2 rows, 3 name, 4 supply, 5 row -/
noncomputable def bod_law_sets : DSv :=
    (dSeq (dAsg 1 (dFz (dComp (dS (dIx (dS (dVar 0)) (dC (.int 1)))) (.tp [(.nm 3), (.nm 4)]) [3, 4] dYes (dVar 3))))
    (dSeq (dAsgO 2 (dLst (dCons (dTup dNil) dNil)))
    (dSeq (dFor (dS (dVar 1)) [3] (.nm 3) (dAsgO 2 (dCat 2 (dComp (dOwn 2) (.nm 5) [5] dYes (dB pAdd (dVar 5) (dTup (dCons (dVar 3) dNil)))))))
    (dRetO 2))))
noncomputable def den_law_sets : FD := runD 1 6 bod_law_sets
/-- _law_gap(net, nodes, sign): slots 0 net, 1 nodes, 2 sign, 3 total, 4 name, 5 tail, 6 head, 7 low, 8 high, 9 price, 10 out, 11 into, 12 supply -/
noncomputable def bod_law_gap : DSv :=
    (dSeq (dAsg 3 (dG gSum (dComp (dS (dIx (dS (dVar 0)) (dC (.int 1)))) (.tp [(.nm 4), (.nm 12)]) [4, 12] (dTst (dInQ gIn (dVar 4) (dS (dVar 1)))) (dB pMul (dVar 2) (dVar 12)))))
    (dSeq (dFor (dS (dIx (dS (dVar 0)) (dC (.int 2)))) [4, 5, 6, 7, 8, 9, 10, 11] (.tp [(.nm 4), (.nm 5), (.nm 6), (.nm 7), (.nm 8), (.nm 9)]) (dSeq (dAsg 10 (dAndT (dInQ gIn (dVar 5) (dS (dVar 1))) (dInQ gNotIn (dVar 6) (dS (dVar 1)))))
    (dSeq (dAsg 11 (dAndT (dInQ gIn (dVar 6) (dS (dVar 1))) (dInQ gNotIn (dVar 5) (dS (dVar 1)))))
    (dSeq (dIfS (dTst (dB pEq (dVar 2) (dU pNeg (dC (.int 1))))) (dPar 10 11 (dCons (dVar 11) (dCons (dVar 10) dNil))) dSkip)
    (dSeq (dIfS (dTru (dVar 11)) (dAsg 3 (dB pAdd (dVar 3) (dVar 7))) dSkip)
    (dIfS (dTru (dVar 10)) (dSeq (dIfS (dTst (dB pIsN (dVar 8) (dC .none))) (dRet (dC .none)) dSkip)
    (dAsg 3 (dB pSub (dVar 3) (dVar 8)))) dSkip))))))
    (dRet (dVar 3))))
noncomputable def den_law_gap : FD := runD 3 13 bod_law_gap
/-- _law_never(net): slots 0 net, 1 sign, 2 best, 3 nodes, 4 gap -/
noncomputable def bod_law_never : DSv :=
    (dSeq (dFor (dS (dFz (dLst (dCons (dC (.int 1)) (dCons (dU pNeg (dC (.int 1))) dNil))))) [1, 2, 3, 4] (.nm 1) (dSeq (dAsg 2 (dC .none))
    (dSeq (dFor (dS (dFz (dCallL den_law_sets (dCons (dVar 0) dNil)))) [3, 4] (.nm 3) (dSeq (dAsg 4 (dCall den_law_gap (dCons (dVar 0) (dCons (dVar 3) (dCons (dVar 1) dNil)))))
    (dIfS (dAnd (dTst (dB pNotN (dVar 4) (dC .none))) (dAnd (dTst (dB pGt (dVar 4) (dC (.int 0)))) (dOr (dTst (dB pIsN (dVar 2) (dC .none))) (dOr (dTst (dB pGt (dVar 4) (dIx (dS (dVar 2)) (dC (.int 0))))) (dAnd (dTst (dB pEq (dVar 4) (dIx (dS (dVar 2)) (dC (.int 0))))) (dTst (dB pLt (dG gLen (dS (dVar 3))) (dG gLen (dS (dIx (dS (dVar 2)) (dC (.int 1)))))))))))) (dAsg 2 (dTup (dCons (dVar 4) (dCons (dVar 3) dNil)))) dSkip)))
    (dIfS (dTst (dB pNotN (dVar 2) (dC .none))) (dRet (dTup (dCons (dC (.str "never")) (dCons (dIx (dS (dVar 2)) (dC (.int 0))) (dCons (dIx (dLst (dCons (dC (.str "under")) (dCons (dC (.str "over")) dNil))) (dG gInt (dCons (dB pEq (dVar 1) (dC (.int 1))) dNil))) (dCons (dG gTuple (dGl gSortS (dS (dIx (dS (dVar 2)) (dC (.int 1)))))) dNil)))))) dSkip))))
    (dRet (dC .none)))
noncomputable def den_law_never : FD := runD 1 5 bod_law_never
/-- _law_steps(net, flow): slots 0 net, 1 flow, 2 names, 3 found, 4 k, 5 name, 6 tail, 7 head, 8 low, 9 high, 10 price, 11 i, 12 j, 13 supply -/
noncomputable def bod_law_steps : DSv :=
    (dSeq (dAsg 2 (dFz (dComp (dS (dIx (dS (dVar 0)) (dC (.int 1)))) (.tp [(.nm 5), (.nm 13)]) [5, 13] dYes (dVar 5))))
    (dSeq (dAsgO 3 (dLst dNil))
    (dSeq (dFor (dRng1 (dG gLen (dS (dIx (dS (dVar 0)) (dC (.int 2)))))) [4, 5, 6, 7, 8, 9, 10, 11, 12] (.nm 4) (dSeq (dTgt (.tp [(.nm 5), (.nm 6), (.nm 7), (.nm 8), (.nm 9), (.nm 10)]) (dIx (dS (dIx (dS (dVar 0)) (dC (.int 2)))) (dVar 4)))
    (dSeq (dAsg 11 (dIndex (dLs (dVar 2)) (dVar 6)))
    (dSeq (dAsg 12 (dIndex (dLs (dVar 2)) (dVar 7)))
    (dSeq (dIfS (dTst (dB pIsN (dVar 9) (dC .none))) (dApp 3 (dTup (dCons (dVar 11) (dCons (dVar 12) (dCons (dVar 4) (dCons (dC (.int 1)) (dCons (dC .none) (dCons (dVar 10) dNil)))))))) (dIfS (dTst (dB pLt (dIx (dS (dVar 1)) (dVar 4)) (dVar 9))) (dApp 3 (dTup (dCons (dVar 11) (dCons (dVar 12) (dCons (dVar 4) (dCons (dC (.int 1)) (dCons (dB pSub (dVar 9) (dIx (dS (dVar 1)) (dVar 4))) (dCons (dVar 10) dNil)))))))) dSkip))
    (dIfS (dTst (dB pGt (dIx (dS (dVar 1)) (dVar 4)) (dVar 8))) (dApp 3 (dTup (dCons (dVar 12) (dCons (dVar 11) (dCons (dVar 4) (dCons (dU pNeg (dC (.int 1))) (dCons (dB pSub (dIx (dS (dVar 1)) (dVar 4)) (dVar 8)) (dCons (dB pSub (dC (.int 0)) (dVar 10)) dNil)))))))) dSkip))))))
    (dRetO 3))))
noncomputable def den_law_steps : FD := runD 2 14 bod_law_steps
/-- _law_close(steps, starts, back): slots 0 steps, 1 starts, 2 back, 3 found, 4 turn, 5 step -/
noncomputable def bod_law_close : DSv :=
    (dSeq (dAsgO 3 (dGl gSort (dLs (dVar 1))))
    (dSeq (dFor (dRng1 (dC (.int 8))) [4, 5] (.nm 4) (dFor (dS (dVar 0)) [5] (.nm 5) (dIfS (dAnd (dTst (dInQ gIn (dIx (dS (dVar 5)) (dG gInt (dCons (dVar 2) dNil))) (dOwn 3))) (dTst (dInQ gNotIn (dIx (dS (dVar 5)) (dB pSub (dC (.int 1)) (dG gInt (dCons (dVar 2) dNil)))) (dOwn 3)))) (dApp 3 (dIx (dS (dVar 5)) (dB pSub (dC (.int 1)) (dG gInt (dCons (dVar 2) dNil))))) dSkip)))
    (dRetL (dGl gSort (dOwn 3)))))
noncomputable def den_law_close : FD := runD 3 6 bod_law_close
/-- _law_inside(state, net): slots 0 state, 1 net, 2 row, 3 name, 4 tail, 5 head, 6 low, 7 high, 8 price, 9 top -/
noncomputable def bod_law_inside : DSv :=
    (dSeq (dAsgO 2 (dLst dNil))
    (dSeq (dFor (dS (dIx (dS (dVar 1)) (dC (.int 2)))) [3, 4, 5, 6, 7, 8, 9] (.tp [(.nm 3), (.nm 4), (.nm 5), (.nm 6), (.nm 7), (.nm 8)]) (dSeq (dAsg 9 (dC (.int 4)))
    (dSeq (dIfS (dTst (dB pNotN (dVar 7) (dC .none))) (dAsg 9 (dB pAdd (dB pSub (dVar 7) (dVar 6)) (dC (.int 1)))) dSkip)
    (eApp 2 (eB pAdd (ePure (dVar 6)) (eCall 0 den_law_draw (dCons (dVar 9) dNil)))))))
    (dRet (dG gTuple (dOwn 2)))))
noncomputable def den_law_inside : FX := runX 2 10 bod_law_inside
/-- _law_walks_hold(state, net): slots 0 state, 1 net, 2 flow, 3 steps, 4 starts, 5 met, 6 close, 7 marks, 8 goal, 9 way, 10 rooms, 11 room, 12 moved, 13 gap, 14 k, 15 step, 16 a, 17 b -/
noncomputable def bod_law_walks_hold : DSv :=
    (dSeq (eAsg 2 (eCall 0 den_law_inside (dCons (dVar 1) dNil)))
    (dSeq (dAsg 3 (dFz (dCallL den_law_steps (dCons (dVar 1) (dCons (dVar 2) dNil)))))
    (dSeq (dIfS (dOr (dTst (dB pNe (dFz (dCallL den_steps_of (dCons (dVar 1) (dCons (dVar 2) dNil)))) (dVar 3))) (dTst (dB pNe (dFz (dCallL den_steps_by_start (dCons (dVar 1) (dCons (dVar 2) dNil)))) (dFz (dComp (dRng1 (dG gLen (dS (dIx (dS (dVar 1)) (dC (.int 1)))))) (.nm 14) [14] dYes (dFz (dComp (dS (dVar 3)) (.nm 15) [15] (dTst (dB pEq (dIx (dS (dVar 15)) (dC (.int 0))) (dVar 14))) (dVar 15)))))))) (dRet (dC (.bool false))) dSkip)
    (dSeq (eAsg 4 (eFz (eComp (dRng1 (dG gLen (dS (dIx (dS (dVar 1)) (dC (.int 1)))))) (.nm 14) [14] (eTst (eB pEq (eCall 0 den_law_draw (dCons (dC (.int 3)) dNil)) (ePure (dC (.int 0))))) (ePure (dVar 14)))))
    (dSeq (dAsg 5 (dFz (dCallL den_reached_from (dCons (dVar 1) (dCons (dVar 2) (dCons (dFz (dGl some (dS (dVar 4)))) dNil))))))
    (dSeq (dAsg 6 (dFz (dCallL den_law_close (dCons (dVar 3) (dCons (dVar 4) (dCons (dC (.bool false)) dNil))))))
    (dSeq (dIfS (dOr (dTst (dB pNe (dFz (dComp (dRng1 (dG gLen (dS (dVar 5)))) (.nm 14) [14] (dTst (dB pNotN (dIx (dS (dVar 5)) (dVar 14)) (dC .none))) (dVar 14))) (dVar 6))) (dTst (dB pNe (dFz (dComp (dRng1 (dG gLen (dS (dVar 5)))) (.nm 14) [14] (dTst (dB pIsB (dIx (dS (dVar 5)) (dVar 14)) (dC (.bool true)))) (dVar 14))) (dVar 4)))) (dRet (dC (.bool false))) dSkip)
    (dSeq (dAsg 7 (dFz (dCallL den_reaching (dCons (dVar 1) (dCons (dVar 2) (dCons (dFz (dGl some (dS (dVar 4)))) dNil))))))
    (dSeq (dIfS (dTst (dB pNe (dFz (dComp (dRng1 (dG gLen (dS (dVar 7)))) (.nm 14) [14] (dTru (dIx (dS (dVar 7)) (dVar 14))) (dVar 14))) (dFz (dCallL den_law_close (dCons (dVar 3) (dCons (dVar 4) (dCons (dC (.bool true)) dNil))))))) (dRet (dC (.bool false))) dSkip)
    (dSeq (dFor (dS (dVar 6)) [8, 9, 10, 11, 12, 13] (.nm 8) (dSeq (dAsg 9 (dFz (dCallL den_way_to (dCons (dVar 5) (dCons (dVar 8) dNil)))))
    (dIfS (dTst (dB pGt (dG gLen (dS (dVar 9))) (dC (.int 0)))) (dSeq (dIfS (dOr (dTst (dInQ gNotIn (dIx (dS (dIx (dS (dVar 9)) (dC (.int 0)))) (dC (.int 0))) (dS (dVar 4)))) (dOr (dTst (dB pNe (dIx (dS (dIx (dS (dVar 9)) (dB pSub (dG gLen (dS (dVar 9))) (dC (.int 1))))) (dC (.int 1))) (dVar 8))) (dTst (dB pGt (dG gLen (dComp (dRng2 (dC (.int 1)) (dG gLen (dS (dVar 9)))) (.nm 14) [14] (dTst (dB pNe (dIx (dS (dIx (dS (dVar 9)) (dVar 14))) (dC (.int 0))) (dIx (dS (dIx (dS (dVar 9)) (dB pSub (dVar 14) (dC (.int 1))))) (dC (.int 1))))) (dVar 14))) (dC (.int 0)))))) (dRet (dC (.bool false))) dSkip)
    (dSeq (dAsg 10 (dFz (dComp (dS (dVar 9)) (.nm 15) [15] (dTst (dB pNotN (dIx (dS (dVar 15)) (dC (.int 4))) (dC .none))) (dIx (dS (dVar 15)) (dC (.int 4))))))
    (dSeq (dAsg 11 (dC .none))
    (dSeq (dIfS (dTst (dB pGt (dG gLen (dS (dVar 10))) (dC (.int 0)))) (dAsg 11 (dG gMin (dLs (dVar 10)))) dSkip)
    (dSeq (dIfS (dOr (dTst (dB pNe (dCall den_room_along (dCons (dVar 9) dNil)) (dVar 11))) (dTst (dB pNe (dCall den_price_along (dCons (dVar 9) dNil)) (dG gSum (dComp (dS (dVar 9)) (.nm 15) [15] dYes (dIx (dS (dVar 15)) (dC (.int 5)))))))) (dRet (dC (.bool false))) dSkip)
    (dSeq (dAsg 12 (dCall den_pushed (dCons (dVar 2) (dCons (dVar 9) (dCons (dC (.int 1)) dNil)))))
    (dSeq (dAsg 13 (dFz (dComp (dZip (dS (dFz (dCallL den_law_rest (dCons (dVar 1) (dCons (dVar 12) dNil))))) (dS (dFz (dCallL den_law_rest (dCons (dVar 1) (dCons (dVar 2) dNil)))))) (.tp [(.nm 16), (.nm 17)]) [16, 17] dYes (dB pSub (dVar 16) (dVar 17)))))
    (dIfS (dTst (dB pNe (dVar 13) (dFz (dComp (dRng1 (dG gLen (dS (dVar 13)))) (.nm 14) [14] dYes (dB pSub (dG gInt (dCons (dB pEq (dVar 14) (dVar 8)) dNil)) (dG gInt (dCons (dB pEq (dVar 14) (dIx (dS (dIx (dS (dVar 9)) (dC (.int 0)))) (dC (.int 0)))) dNil))))))) (dRet (dC (.bool false))) dSkip)))))))) dSkip)))
    (dRet (dC (.bool true)))))))))))))
noncomputable def den_law_walks_hold : FX := runX 2 18 bod_law_walks_hold
/-- law(script): slots 0 script, 1 state, 2 net, 3 due, 4 told, 5 inside, 6 made, 7 over, 8 under, 9 nodes, 10 gap, 11 word, 12 sign, 13 amount, 14 back, 15 part, 16 row -/
noncomputable def bod_law : DSv :=
    (dSeq (dAsgO 1 (dCallL den_law_state (dCons (dVar 0) dNil)))
    (dSeq (eAsg 2 (eCall 1 den_law_net (dCons (dC (.int 4)) (dCons (dC (.bool true)) dNil))))
    (dSeq (dAsg 3 (dCall den_law_never (dCons (dVar 2) dNil)))
    (dSeq (dAsg 4 (dCall den_first_flow (dCons (dVar 2) dNil)))
    (dSeq (dIfS (dOr (dNot (dTru (dCall den_law_truth (dCons (dCall den_has_flow (dCons (dVar 2) dNil)) (dCons (dB pIsN (dVar 3) (dC .none)) dNil))))) (dAnd (dTst (dB pNotN (dVar 3) (dC .none))) (dTst (dB pNe (dVar 4) (dVar 3))))) (dRet (dC (.bool false))) dSkip)
    (dSeq (dIfS (dAnd (dTst (dB pIsN (dVar 3) (dC .none))) (dOr (dTst (dB pNe (dIx (dS (dVar 4)) (dC (.int 0))) (dC (.str "flow")))) (dOr (dTst (dB pNotB (dCall den_is_flow (dCons (dVar 2) (dCons (dIx (dS (dVar 4)) (dC (.int 1))) dNil))) (dC (.bool true)))) (dTst (dB pNe (dFz (dCallL den_law_rest (dCons (dVar 2) (dCons (dIx (dS (dVar 4)) (dC (.int 1))) dNil)))) (dFz (dComp (dS (dIx (dS (dVar 2)) (dC (.int 1)))) (.nm 16) [16] dYes (dC (.int 0))))))))) (dRet (dC (.bool false))) dSkip)
    (dSeq (eAsg 5 (eCall 1 den_law_inside (dCons (dVar 2) dNil)))
    (dSeq (dAsg 6 (dCall den_filled (dCons (dVar 2) (dCons (dVar 5) dNil))))
    (dSeq (dIfS (dTst (dB pNe (dCall den_lacking (dCons (dVar 2) (dCons (dVar 6) dNil))) (dVar 3))) (dRet (dC (.bool false))) dSkip)
    (dSeq (dAsg 7 (dG gSum (dComp (dS (dFz (dCallL den_left_over (dCons (dVar 2) (dCons (dVar 6) dNil))))) (.nm 15) [15] (dTst (dB pGt (dVar 15) (dC (.int 0)))) (dVar 15))))
    (dSeq (dAsg 8 (dB pSub (dC (.int 0)) (dG gSum (dComp (dS (dFz (dCallL den_left_over (dCons (dVar 2) (dCons (dVar 6) dNil))))) (.nm 15) [15] (dTst (dB pLt (dVar 15) (dC (.int 0)))) (dVar 15)))))
    (dSeq (dIfS (dTst (dB pIsN (dVar 3) (dC .none))) (dIfS (dTst (dB pNe (dB pAdd (dVar 7) (dVar 8)) (dC (.int 0)))) (dRet (dC (.bool false))) dSkip) (dIfS (dTst (dB pNe (dIx (dS (dVar 3)) (dC (.int 1))) (dIx (dLst (dCons (dVar 8) (dCons (dVar 7) dNil))) (dG gInt (dCons (dB pEq (dIx (dS (dVar 3)) (dC (.int 2))) (dC (.str "over"))) dNil))))) (dRet (dC (.bool false))) dSkip))
    (dSeq (dFor (dS (dFz (dCallL den_law_sets (dCons (dVar 2) dNil)))) [9, 10, 11, 12, 13] (.nm 9) (dSeq (dIfS (dOr (dTst (dB pNe (dCall den_gap_over (dCons (dVar 2) (dCons (dVar 9) dNil))) (dCall den_law_gap (dCons (dVar 2) (dCons (dVar 9) (dCons (dC (.int 1)) dNil)))))) (dTst (dB pNe (dCall den_gap_under (dCons (dVar 2) (dCons (dVar 9) dNil))) (dCall den_law_gap (dCons (dVar 2) (dCons (dVar 9) (dCons (dU pNeg (dC (.int 1))) dNil))))))) (dRet (dC (.bool false))) dSkip)
    (dSeq (dAsg 10 (dCall den_law_gap (dCons (dVar 2) (dCons (dVar 9) (dCons (dC (.int 1)) dNil)))))
    (dSeq (dIfS (dAnd (dTst (dB pNotN (dVar 10) (dC .none))) (dTst (dB pGt (dVar 10) (dVar 7)))) (dRet (dC (.bool false))) dSkip)
    (dFor (dS (dFz (dLst (dCons (dTup (dCons (dC (.str "over")) (dCons (dC (.int 1)) dNil))) (dCons (dTup (dCons (dC (.str "under")) (dCons (dU pNeg (dC (.int 1))) dNil))) dNil))))) [10, 11, 12, 13] (.tp [(.nm 11), (.nm 12)]) (dSeq (dAsg 10 (dCall den_law_gap (dCons (dVar 2) (dCons (dVar 9) (dCons (dVar 12) dNil)))))
    (dSeq (eAsg 13 (eB pAdd (eCall 1 den_law_draw (dCons (dC (.int 3)) dNil)) (ePure (dC (.int 1)))))
    (dSeq (dIfS (dNot (dTru (dCall den_law_truth (dCons (dCall den_judge_never (dCons (dVar 2) (dCons (dTup (dCons (dC (.str "never")) (dCons (dVar 13) (dCons (dVar 11) (dCons (dVar 9) dNil))))) dNil))) (dCons (dB pEq (dVar 10) (dVar 13)) dNil))))) (dRet (dC (.bool false))) dSkip)
    (dIfS (dAnd (dTst (dB pNotN (dVar 10) (dC .none))) (dNot (dTru (dCall den_law_truth (dCons (dCall den_judge_never (dCons (dVar 2) (dCons (dTup (dCons (dC (.str "never")) (dCons (dVar 10) (dCons (dVar 11) (dCons (dVar 9) dNil))))) dNil))) (dCons (dB pGt (dVar 10) (dC (.int 0))) dNil)))))) (dRet (dC (.bool false))) dSkip)))))))))
    (dSeq (dIfS (dOr (dTst (dB pNotB (dCall den_judge_never (dCons (dVar 2) (dCons (dTup (dCons (dC (.str "never")) (dCons (dC (.int 1)) (dCons (dC (.str "beside")) (dCons (dTup (dCons (dC (.str "a")) dNil)) dNil))))) dNil))) (dC (.bool false)))) (dTst (dB pNotB (dCall den_judge_never (dCons (dVar 2) (dCons (dTup (dCons (dC (.str "never")) (dCons (dC (.int 1)) (dCons (dC (.str "over")) (dCons (dTup (dCons (dC (.str "zz")) dNil)) dNil))))) dNil))) (dC (.bool false))))) (dRet (dC (.bool false))) dSkip)
    (dSeq (dAsg 14 (dCall den_first_flow (dCons (dCall den_turned_net (dCons (dVar 2) dNil)) dNil)))
    (dSeq (dIfS (dTst (dB pNe (dB pEq (dIx (dS (dVar 14)) (dC (.int 0))) (dC (.str "flow"))) (dB pIsN (dVar 3) (dC .none)))) (dRet (dC (.bool false))) dSkip)
    (eRet (eCall 1 den_law_walks_hold (dCons (dVar 2) dNil)))))))))))))))))))
noncomputable def den_law : FD := runD 1 17 bod_law
/-- where the defs stand -/
structure Txt (K : PySem.W.Frag) (mg : Str → Option Value) where
  a_is_whole : Addr
  fd_is_whole : FuncData
  F_is_whole : Fun K "is_whole" "is_whole" s_is_whole a_is_whole fd_is_whole
  m_is_whole : mg "is_whole" = some (.ref a_is_whole)
  b_is_whole : Binds K fd_is_whole ["value"] []
  a_least_of : Addr
  fd_least_of : FuncData
  F_least_of : Fun K "least_of" "least_of" s_least_of a_least_of fd_least_of
  m_least_of : mg "least_of" = some (.ref a_least_of)
  b_least_of : Binds K fd_least_of ["one", "other"] []
  a_less_by : Addr
  fd_less_by : FuncData
  F_less_by : Fun K "less_by" "less_by" s_less_by a_less_by fd_less_by
  m_less_by : mg "less_by" = some (.ref a_less_by)
  b_less_by : Binds K fd_less_by ["value", "amount"] []
  a_node_names : Addr
  fd_node_names : FuncData
  F_node_names : Fun K "node_names" "node_names" s_node_names a_node_names fd_node_names
  m_node_names : mg "node_names" = some (.ref a_node_names)
  b_node_names : Binds K fd_node_names ["net"] []
  a_ends_by_place : Addr
  fd_ends_by_place : FuncData
  F_ends_by_place : Fun K "ends_by_place" "ends_by_place" s_ends_by_place a_ends_by_place fd_ends_by_place
  m_ends_by_place : mg "ends_by_place" = some (.ref a_ends_by_place)
  b_ends_by_place : Binds K fd_ends_by_place ["net"] []
  a_turned_net : Addr
  fd_turned_net : FuncData
  F_turned_net : Fun K "turned_net" "turned_net" s_turned_net a_turned_net fd_turned_net
  m_turned_net : mg "turned_net" = some (.ref a_turned_net)
  b_turned_net : Binds K fd_turned_net ["net"] []
  a_left_over : Addr
  fd_left_over : FuncData
  F_left_over : Fun K "left_over" "left_over" s_left_over a_left_over fd_left_over
  m_left_over : mg "left_over" = some (.ref a_left_over)
  b_left_over : Binds K fd_left_over ["net", "flow"] []
  a_flow_fault : Addr
  fd_flow_fault : FuncData
  F_flow_fault : Fun K "flow_fault" "flow_fault" s_flow_fault a_flow_fault fd_flow_fault
  m_flow_fault : mg "flow_fault" = some (.ref a_flow_fault)
  b_flow_fault : Binds K fd_flow_fault ["net", "value"] []
  a_is_flow : Addr
  fd_is_flow : FuncData
  F_is_flow : Fun K "is_flow" "is_flow" s_is_flow a_is_flow fd_is_flow
  m_is_flow : mg "is_flow" = some (.ref a_is_flow)
  b_is_flow : Binds K fd_is_flow ["net", "value"] []
  a_least_amounts : Addr
  fd_least_amounts : FuncData
  F_least_amounts : Fun K "least_amounts" "least_amounts" s_least_amounts a_least_amounts fd_least_amounts
  m_least_amounts : mg "least_amounts" = some (.ref a_least_amounts)
  b_least_amounts : Binds K fd_least_amounts ["net"] []
  a_steps_of : Addr
  fd_steps_of : FuncData
  F_steps_of : Fun K "steps_of" "steps_of" s_steps_of a_steps_of fd_steps_of
  m_steps_of : mg "steps_of" = some (.ref a_steps_of)
  b_steps_of : Binds K fd_steps_of ["net", "flow"] []
  a_steps_by_start : Addr
  fd_steps_by_start : FuncData
  F_steps_by_start : Fun K "steps_by_start" "steps_by_start" s_steps_by_start a_steps_by_start fd_steps_by_start
  m_steps_by_start : mg "steps_by_start" = some (.ref a_steps_by_start)
  b_steps_by_start : Binds K fd_steps_by_start ["net", "flow"] []
  a_reached_from : Addr
  fd_reached_from : FuncData
  F_reached_from : Fun K "reached_from" "reached_from" s_reached_from a_reached_from fd_reached_from
  m_reached_from : mg "reached_from" = some (.ref a_reached_from)
  b_reached_from : Binds K fd_reached_from ["net", "flow", "starts"] []
  a_reaching : Addr
  fd_reaching : FuncData
  F_reaching : Fun K "reaching" "reaching" s_reaching a_reaching fd_reaching
  m_reaching : mg "reaching" = some (.ref a_reaching)
  b_reaching : Binds K fd_reaching ["net", "flow", "goals"] []
  a_way_to : Addr
  fd_way_to : FuncData
  F_way_to : Fun K "way_to" "way_to" s_way_to a_way_to fd_way_to
  m_way_to : mg "way_to" = some (.ref a_way_to)
  b_way_to : Binds K fd_way_to ["met", "goal"] []
  a_room_along : Addr
  fd_room_along : FuncData
  F_room_along : Fun K "room_along" "room_along" s_room_along a_room_along fd_room_along
  m_room_along : mg "room_along" = some (.ref a_room_along)
  b_room_along : Binds K fd_room_along ["steps"] []
  a_price_along : Addr
  fd_price_along : FuncData
  F_price_along : Fun K "price_along" "price_along" s_price_along a_price_along fd_price_along
  m_price_along : mg "price_along" = some (.ref a_price_along)
  b_price_along : Binds K fd_price_along ["steps"] []
  a_pushed : Addr
  fd_pushed : FuncData
  F_pushed : Fun K "pushed" "pushed" s_pushed a_pushed fd_pushed
  m_pushed : mg "pushed" = some (.ref a_pushed)
  b_pushed : Binds K fd_pushed ["flow", "steps", "amount"] []
  a_filled : Addr
  fd_filled : FuncData
  F_filled : Fun K "filled" "filled" s_filled a_filled fd_filled
  m_filled : mg "filled" = some (.ref a_filled)
  b_filled : Binds K fd_filled ["net", "flow"] []
  a_lacking : Addr
  fd_lacking : FuncData
  F_lacking : Fun K "lacking" "lacking" s_lacking a_lacking fd_lacking
  m_lacking : mg "lacking" = some (.ref a_lacking)
  b_lacking : Binds K fd_lacking ["net", "flow"] []
  a_first_flow : Addr
  fd_first_flow : FuncData
  F_first_flow : Fun K "first_flow" "first_flow" s_first_flow a_first_flow fd_first_flow
  m_first_flow : mg "first_flow" = some (.ref a_first_flow)
  b_first_flow : Binds K fd_first_flow ["net"] []
  a_gap_over : Addr
  fd_gap_over : FuncData
  F_gap_over : Fun K "gap_over" "gap_over" s_gap_over a_gap_over fd_gap_over
  m_gap_over : mg "gap_over" = some (.ref a_gap_over)
  b_gap_over : Binds K fd_gap_over ["net", "nodes"] []
  a_gap_under : Addr
  fd_gap_under : FuncData
  F_gap_under : Fun K "gap_under" "gap_under" s_gap_under a_gap_under fd_gap_under
  m_gap_under : mg "gap_under" = some (.ref a_gap_under)
  b_gap_under : Binds K fd_gap_under ["net", "nodes"] []
  a_judge_never : Addr
  fd_judge_never : FuncData
  F_judge_never : Fun K "judge_never" "judge_never" s_judge_never a_judge_never fd_judge_never
  m_judge_never : mg "judge_never" = some (.ref a_judge_never)
  b_judge_never : Binds K fd_judge_never ["net", "paper"] []
  a_has_flow : Addr
  fd_has_flow : FuncData
  F_has_flow : Fun K "has_flow" "has_flow" s_has_flow a_has_flow fd_has_flow
  m_has_flow : mg "has_flow" = some (.ref a_has_flow)
  b_has_flow : Binds K fd_has_flow ["net"] []
  a_law_state : Addr
  fd_law_state : FuncData
  F_law_state : Fun K "_law_state" "_law_state" s_law_state a_law_state fd_law_state
  m_law_state : mg "_law_state" = some (.ref a_law_state)
  b_law_state : Binds K fd_law_state ["script"] []
  a_law_draw : Addr
  fd_law_draw : FuncData
  F_law_draw : Fun K "_law_draw" "_law_draw" s_law_draw a_law_draw fd_law_draw
  m_law_draw : mg "_law_draw" = some (.ref a_law_draw)
  b_law_draw : Binds K fd_law_draw ["state", "limit"] []
  a_law_truth : Addr
  fd_law_truth : FuncData
  F_law_truth : Fun K "_law_truth" "_law_truth" s_law_truth a_law_truth fd_law_truth
  m_law_truth : mg "_law_truth" = some (.ref a_law_truth)
  b_law_truth : Binds K fd_law_truth ["told", "due"] []
  a_law_net : Addr
  fd_law_net : FuncData
  F_law_net : Fun K "_law_net" "_law_net" s_law_net a_law_net fd_law_net
  m_law_net : mg "_law_net" = some (.ref a_law_net)
  b_law_net : Binds K fd_law_net ["state", "most", "wide"] []
  a_law_rest : Addr
  fd_law_rest : FuncData
  F_law_rest : Fun K "_law_rest" "_law_rest" s_law_rest a_law_rest fd_law_rest
  m_law_rest : mg "_law_rest" = some (.ref a_law_rest)
  b_law_rest : Binds K fd_law_rest ["net", "flow"] []
  a_law_sets : Addr
  fd_law_sets : FuncData
  F_law_sets : Fun K "_law_sets" "_law_sets" s_law_sets a_law_sets fd_law_sets
  m_law_sets : mg "_law_sets" = some (.ref a_law_sets)
  b_law_sets : Binds K fd_law_sets ["net"] []
  a_law_gap : Addr
  fd_law_gap : FuncData
  F_law_gap : Fun K "_law_gap" "_law_gap" s_law_gap a_law_gap fd_law_gap
  m_law_gap : mg "_law_gap" = some (.ref a_law_gap)
  b_law_gap : Binds K fd_law_gap ["net", "nodes", "sign"] []
  a_law_never : Addr
  fd_law_never : FuncData
  F_law_never : Fun K "_law_never" "_law_never" s_law_never a_law_never fd_law_never
  m_law_never : mg "_law_never" = some (.ref a_law_never)
  b_law_never : Binds K fd_law_never ["net"] []
  a_law_steps : Addr
  fd_law_steps : FuncData
  F_law_steps : Fun K "_law_steps" "_law_steps" s_law_steps a_law_steps fd_law_steps
  m_law_steps : mg "_law_steps" = some (.ref a_law_steps)
  b_law_steps : Binds K fd_law_steps ["net", "flow"] []
  a_law_close : Addr
  fd_law_close : FuncData
  F_law_close : Fun K "_law_close" "_law_close" s_law_close a_law_close fd_law_close
  m_law_close : mg "_law_close" = some (.ref a_law_close)
  b_law_close : Binds K fd_law_close ["steps", "starts", "back"] []
  a_law_inside : Addr
  fd_law_inside : FuncData
  F_law_inside : Fun K "_law_inside" "_law_inside" s_law_inside a_law_inside fd_law_inside
  m_law_inside : mg "_law_inside" = some (.ref a_law_inside)
  b_law_inside : Binds K fd_law_inside ["state", "net"] []
  a_law_walks_hold : Addr
  fd_law_walks_hold : FuncData
  F_law_walks_hold : Fun K "_law_walks_hold" "_law_walks_hold" s_law_walks_hold a_law_walks_hold fd_law_walks_hold
  m_law_walks_hold : mg "_law_walks_hold" = some (.ref a_law_walks_hold)
  b_law_walks_hold : Binds K fd_law_walks_hold ["state", "net"] []
  a_law : Addr
  fd_law : FuncData
  F_law : Fun K "law" "law" s_law a_law fd_law
  m_law : mg "law" = some (.ref a_law)
  b_law : Binds K fd_law ["script"] []
  n_all : mg "all" = none
  n_bool : mg "bool" = none
  n_enumerate : mg "enumerate" = none
  n_int : mg "int" = none
  n_isinstance : mg "isinstance" = none
  n_len : mg "len" = none
  n_list : mg "list" = none
  n_min : mg "min" = none
  n_range : mg "range" = none
  n_sorted : mg "sorted" = none
  n_str : mg "str" = none
  n_sum : mg "sum" = none
  n_tuple : mg "tuple" = none
  n_zip : mg "zip" = none
section
variable {P : Program} {w : World} {K : PySem.W.Frag} {mg : Str → Option Value} {base : Heap}
theorem ok_is_whole (T : Txt K mg) : FnOk P w K mg base CX0 1 T.a_is_whole T.fd_is_whole ["value"] (SpF K den_is_whole) :=
  ok_fn (N := ["value"]) (ps := ["value"]) (d := bod_is_whole) T.F_is_whole sc_is_whole fun cdv A outer s H E hr => (
    (dss_one (ds_ret (dp_andT (dp_isi (by rfl) T.n_isinstance (by rfl) T.n_int (by decide +kernel) (dp_var (pv 0))) (dp_one (dp_notT (dp_isi (by rfl) T.n_isinstance (by rfl) T.n_bool (by decide +kernel) (dp_var (pv 0)))))))) )
theorem ok_least_of (T : Txt K mg) : FnOk P w K mg base CX0 1 T.a_least_of T.fd_least_of ["one", "other"] (SpF K den_least_of) :=
  ok_fn (N := ["one", "other"]) (ps := ["one", "other"]) (d := bod_least_of) T.F_least_of sc_least_of fun cdv A outer s H E hr => (
    (dss_cons (ds_if (dt_isN (dp_var (pv 0)) dp_non) (dss_one (ds_ret (dp_var (pv 1)))) dss_nil)
    (dss_one (ds_ret (dp_if (dt_isN (dp_var (pv 1)) dp_non) (dp_var (pv 0)) (dp_callV2 (calls2_b (call_min2 rfl) (by rfl) T.n_min (by decide +kernel)) bv_min2 (da_cons (dp_var (pv 0)) (da_cons (dp_var (pv 1)) da_nil))))))) )
theorem ok_less_by (T : Txt K mg) : FnOk P w K mg base CX0 1 T.a_less_by T.fd_less_by ["value", "amount"] (SpF K den_less_by) :=
  ok_fn (N := ["value", "amount"]) (ps := ["value", "amount"]) (d := bod_less_by) T.F_less_by sc_less_by fun cdv A outer s H E hr => (
    (dss_one (ds_ret (dp_if (dt_isN (dp_var (pv 0)) dp_non) dp_non (dp_sub (dp_var (pv 0)) (dp_var (pv 1)))))) )
theorem ok_node_names (T : Txt K mg) : FnOk P w K mg base CX0 1 T.a_node_names T.fd_node_names ["net"] (SpF K den_node_names) :=
  ok_fn (N := ["net", "row"]) (ps := ["net"]) (d := bod_node_names) T.F_node_names sc_node_names fun cdv A outer s H E hr => (
    (dss_one (ds_retL (dl_comp (own' := [("row", 1)]) rfl sc_node_names.nd (dc_i (di_seq (dp_ix (dq_p (dp_var (pv 0))) dp_int (fun _ _ => rfl)))) (blkOk_by (by first | decide +kernel | exact rfl)) (by decide) (fun _ _ _ _ _ => (dg_nm (pg_name (i := 1) sc_node_names.nd rfl (by first | exact Or.inl rfl | exact Or.inr rfl)))) (fun _ _ _ _ _ => dts_nil) (fun _ _ _ _ _ => (dp_ix (dq_p (dp_var (pv 1))) dp_int (fun _ _ => rfl)))))) )
theorem ok_ends_by_place (T : Txt K mg) : FnOk P w K mg base CX0 2 T.a_ends_by_place T.fd_ends_by_place ["net"] (SpF K den_ends_by_place) :=
  ok_fn (N := ["net", "places", "place", "name", "row"]) (ps := ["net"]) (d := bod_ends_by_place) T.F_ends_by_place sc_ends_by_place fun cdv A outer s H E hr => (
    (dss_cons (ds_asgD (own' := [("place", 2), ("name", 3)]) rfl sc_ends_by_place.nd rfl (by first | exact Or.inl rfl | exact Or.inr rfl) (dc_i (di_enumL (by rfl) T.n_enumerate (dl_call (ok_node_names T) (hr.mono (by decide)) (by rfl) T.m_node_names T.F_node_names.kp T.b_node_names (da_cons (dp_var (pv 0)) da_nil)))) (blkOk_by (by first | decide +kernel | exact rfl)) (by decide) (fun _ _ _ _ _ => (dg_tp rfl (dgs_cons (dg_nm (pg_name (i := 2) sc_ends_by_place.nd rfl (by first | exact Or.inl rfl | exact Or.inr rfl))) (dgs_cons (dg_nm (pg_name (i := 3) sc_ends_by_place.nd rfl (by first | exact Or.inl rfl | exact Or.inr rfl))) dgs_nil)))) (fun _ _ _ _ _ => (dp_var (pv 3))) (fun _ _ _ _ _ => (dp_var (pv 2))))
    (dss_one (ds_retL (dl_comp (own' := [("row", 4)]) rfl sc_ends_by_place.nd (dc_i (di_seq (dp_ix (dq_p (dp_var (pv 0))) dp_int (fun _ _ => rfl)))) (blkOk_by (by first | decide +kernel | exact rfl)) (by decide) (fun _ _ _ _ _ => (dg_nm (pg_name (i := 4) sc_ends_by_place.nd rfl (by first | exact Or.inl rfl | exact Or.inr rfl)))) (fun _ _ _ _ _ => dts_nil) (fun _ _ _ _ _ => (dp_tup (da_cons (dp_get (hu_of hr) (pv 1) (dp_ix (dq_p (dp_var (pv 4))) dp_int (fun _ _ => rfl)) (fun _ _ => rfl)) (da_cons (dp_get (hu_of hr) (pv 1) (dp_ix (dq_p (dp_var (pv 4))) dp_int (fun _ _ => rfl)) (fun _ _ => rfl)) da_nil)))))))) )
theorem ok_turned_net (T : Txt K mg) : FnOk P w K mg base CX0 1 T.a_turned_net T.fd_turned_net ["net"] (SpF K den_turned_net) :=
  ok_fn (N := ["net", "nodes", "name", "supply", "tail", "head", "low", "high", "price"]) (ps := ["net"]) (d := bod_turned_net) T.F_turned_net sc_turned_net fun cdv A outer s H E hr => (
    (dss_cons (ds_asg sc_turned_net.nd rfl (by first | exact Or.inl rfl | exact Or.inr rfl) (dp_callQl (calls1_t call_tuple_of (by rfl) T.n_tuple (by decide +kernel)) bq_tuple (dql_l (dl_comp (own' := [("name", 2), ("supply", 3)]) rfl sc_turned_net.nd (dc_i (di_seq (dp_ix (dq_p (dp_var (pv 0))) dp_int (fun _ _ => rfl)))) (blkOk_by (by first | decide +kernel | exact rfl)) (by decide) (fun _ _ _ _ _ => (dg_tp rfl (dgs_cons (dg_nm (pg_name (i := 2) sc_turned_net.nd rfl (by first | exact Or.inl rfl | exact Or.inr rfl))) (dgs_cons (dg_nm (pg_name (i := 3) sc_turned_net.nd rfl (by first | exact Or.inl rfl | exact Or.inr rfl))) dgs_nil)))) (fun _ _ _ _ _ => dts_nil) (fun _ _ _ _ _ => (dp_tup (da_cons (dp_var (pv 2)) (da_cons (dp_neg (dp_var (pv 3))) da_nil))))))))
    (dss_one (ds_ret (dp_tup (da_cons dp_str (da_cons (dp_var (pv 1)) (da_cons (dp_callQl (calls1_t call_tuple_of (by rfl) T.n_tuple (by decide +kernel)) bq_tuple (dql_l (dl_comp (own' := [("name", 2), ("tail", 4), ("head", 5), ("low", 6), ("high", 7), ("price", 8)]) rfl sc_turned_net.nd (dc_i (di_seq (dp_ix (dq_p (dp_var (pv 0))) dp_int (fun _ _ => rfl)))) (blkOk_by (by first | decide +kernel | exact rfl)) (by decide) (fun _ _ _ _ _ => (dg_tp rfl (dgs_cons (dg_nm (pg_name (i := 2) sc_turned_net.nd rfl (by first | exact Or.inl rfl | exact Or.inr rfl))) (dgs_cons (dg_nm (pg_name (i := 4) sc_turned_net.nd rfl (by first | exact Or.inl rfl | exact Or.inr rfl))) (dgs_cons (dg_nm (pg_name (i := 5) sc_turned_net.nd rfl (by first | exact Or.inl rfl | exact Or.inr rfl))) (dgs_cons (dg_nm (pg_name (i := 6) sc_turned_net.nd rfl (by first | exact Or.inl rfl | exact Or.inr rfl))) (dgs_cons (dg_nm (pg_name (i := 7) sc_turned_net.nd rfl (by first | exact Or.inl rfl | exact Or.inr rfl))) (dgs_cons (dg_nm (pg_name (i := 8) sc_turned_net.nd rfl (by first | exact Or.inl rfl | exact Or.inr rfl))) dgs_nil)))))))) (fun _ _ _ _ _ => dts_nil) (fun _ _ _ _ _ => (dp_tup (da_cons (dp_var (pv 2)) (da_cons (dp_var (pv 5)) (da_cons (dp_var (pv 4)) (da_cons (dp_var (pv 6)) (da_cons (dp_var (pv 7)) (da_cons (dp_var (pv 8)) da_nil))))))))))) da_nil))))))) )
theorem ok_left_over (T : Txt K mg) : FnOk P w K mg base CX0 3 T.a_left_over T.fd_left_over ["net", "flow"] (SpF K den_left_over) :=
  ok_fn (N := ["net", "flow", "found", "tail", "head", "amount", "row"]) (ps := ["net", "flow"]) (d := bod_left_over) T.F_left_over sc_left_over fun cdv A outer s H E hr => (
    (dss_cons (ds_asgOc (own' := [("row", 6)]) rfl sc_left_over.nd rfl rfl (sw_true rfl rfl rfl (by decide +kernel)) (dc_i (di_seq (dp_ix (dq_p (dp_var (pv 0))) dp_int (fun _ _ => rfl)))) (blkOk_by (by first | decide +kernel | exact rfl)) (by decide) (fun _ _ _ _ _ => (dg_nm (pg_name (i := 6) sc_left_over.nd rfl (by first | exact Or.inl rfl | exact Or.inr rfl)))) (fun _ _ _ _ _ => dts_nil) (fun _ _ _ _ _ => (dp_ix (dq_p (dp_var (pv 6))) dp_int (fun _ _ => rfl))))
    (dss_cons (ds_for PassesOwn.never rfl (di_zip (by rfl) T.n_zip (dp_l (dl_call (ok_ends_by_place T) (hr.mono (by decide)) (by rfl) T.m_ends_by_place T.F_ends_by_place.kp T.b_ends_by_place (da_cons (dp_var (pv 0)) da_nil))) (dp_var (pv 1))) (dg_tp rfl (dgs_cons (dg_tp rfl (dgs_cons (dg_nm (pg_name (i := 3) sc_left_over.nd rfl (by first | exact Or.inl rfl | exact Or.inr rfl))) (dgs_cons (dg_nm (pg_name (i := 4) sc_left_over.nd rfl (by first | exact Or.inl rfl | exact Or.inr rfl))) dgs_nil))) (dgs_cons (dg_nm (pg_name (i := 5) sc_left_over.nd rfl (by first | exact Or.inl rfl | exact Or.inr rfl))) dgs_nil))) (dss_cons (ds_augIx (pv 2) (dp_var (pv 3)) (dp_var (pv 5)) ip_sub)
    (dss_one (ds_augIx (pv 2) (dp_var (pv 4)) (dp_var (pv 5)) ip_add))))
    (dss_one (ds_retO (pv 2))))) )
theorem ok_flow_fault (T : Txt K mg) : FnOk P w K mg base CX0 4 T.a_flow_fault T.fd_flow_fault ["net", "value"] (SpF K den_flow_fault) :=
  ok_fn (N := ["net", "value", "row", "amount", "name"]) (ps := ["net", "value"]) (d := bod_flow_fault) T.F_flow_fault sc_flow_fault fun cdv A outer s H E hr => (
    (dss_cons (ds_if (dt_w (dw_or (dt_not (dt_tru (dp_isi (by rfl) T.n_isinstance (by rfl) T.n_tuple (by decide +kernel) (dp_var (pv 1))))) (dw_or (dt_ne hr.units (dp_callQ (calls1_b call_len_seq (by rfl) T.n_len (by decide +kernel)) bq_len (dq_p (dp_var (pv 1)))) (dp_callQ (calls1_b call_len_seq (by rfl) T.n_len (by decide +kernel)) bq_len (dq_p (dp_ix (dq_p (dp_var (pv 0))) dp_int (fun _ _ => rfl))))) (dw_or1 (dt_not (dt_tru (dp_callQl (calls1_b (cr_all rfl) (by rfl) T.n_all (by decide +kernel)) bq_all (dql_l (dl_comp (own' := [("amount", 3)]) rfl sc_flow_fault.nd (dc_i (di_seq (dp_var (pv 1)))) (blkOk_by (by first | decide +kernel | exact rfl)) (by decide) (fun _ _ _ _ _ => (dg_nm (pg_name (i := 3) sc_flow_fault.nd rfl (by first | exact Or.inl rfl | exact Or.inr rfl)))) (fun _ _ _ _ _ => dts_nil) (fun _ _ _ _ _ => (dp_call (ok_is_whole T) (hr.mono (by decide)) (by rfl) T.m_is_whole T.F_is_whole.kp T.b_is_whole (da_cons (dp_var (pv 3)) da_nil)))))))))))) (dss_one (ds_ret (dp_tup (da_cons dp_str (da_cons dp_str da_nil))))) dss_nil)
    (dss_cons (ds_for PassesOwn.never rfl (di_zip (by rfl) T.n_zip (dp_ix (dq_p (dp_var (pv 0))) dp_int (fun _ _ => rfl)) (dp_var (pv 1))) (dg_tp rfl (dgs_cons (dg_nm (pg_name (i := 2) sc_flow_fault.nd rfl (by first | exact Or.inl rfl | exact Or.inr rfl))) (dgs_cons (dg_nm (pg_name (i := 3) sc_flow_fault.nd rfl (by first | exact Or.inl rfl | exact Or.inr rfl))) dgs_nil))) (dss_one (ds_if (dt_w (dw_or (dt_lt (dp_var (pv 3)) (dp_ix (dq_p (dp_var (pv 2))) dp_int (fun _ _ => rfl))) (dw_or1 (dt_w (dw_and (dt_notN (dp_ix (dq_p (dp_var (pv 2))) dp_int (fun _ _ => rfl)) dp_non) (dw_and1 (dt_gt (dp_var (pv 3)) (dp_ix (dq_p (dp_var (pv 2))) dp_int (fun _ _ => rfl))))))))) (dss_one (ds_ret (dp_tup (da_cons dp_str (da_cons (dp_ix (dq_p (dp_var (pv 2))) dp_int (fun _ _ => rfl)) da_nil))))) dss_nil)))
    (dss_cons (ds_for PassesOwn.never rfl (di_zip (by rfl) T.n_zip (dp_l (dl_call (ok_node_names T) (hr.mono (by decide)) (by rfl) T.m_node_names T.F_node_names.kp T.b_node_names (da_cons (dp_var (pv 0)) da_nil))) (dp_l (dl_call (ok_left_over T) (hr.mono (by decide)) (by rfl) T.m_left_over T.F_left_over.kp T.b_left_over (da_cons (dp_var (pv 0)) (da_cons (dp_var (pv 1)) da_nil))))) (dg_tp rfl (dgs_cons (dg_nm (pg_name (i := 4) sc_flow_fault.nd rfl (by first | exact Or.inl rfl | exact Or.inr rfl))) (dgs_cons (dg_nm (pg_name (i := 3) sc_flow_fault.nd rfl (by first | exact Or.inl rfl | exact Or.inr rfl))) dgs_nil))) (dss_one (ds_if (dt_ne hr.units (dp_var (pv 3)) dp_int) (dss_one (ds_ret (dp_tup (da_cons dp_str (da_cons (dp_var (pv 4)) da_nil))))) dss_nil)))
    (dss_one (ds_ret dp_non))))) )
theorem ok_is_flow (T : Txt K mg) : FnOk P w K mg base CX0 5 T.a_is_flow T.fd_is_flow ["net", "value"] (SpF K den_is_flow) :=
  ok_fn (N := ["net", "value"]) (ps := ["net", "value"]) (d := bod_is_flow) T.F_is_flow sc_is_flow fun cdv A outer s H E hr => (
    (dss_one (ds_ret (dp_isN (dp_call (ok_flow_fault T) (hr.mono (by decide)) (by rfl) T.m_flow_fault T.F_flow_fault.kp T.b_flow_fault (da_cons (dp_var (pv 0)) (da_cons (dp_var (pv 1)) da_nil))) dp_non))) )
theorem ok_least_amounts (T : Txt K mg) : FnOk P w K mg base CX0 1 T.a_least_amounts T.fd_least_amounts ["net"] (SpF K den_least_amounts) :=
  ok_fn (N := ["net", "row"]) (ps := ["net"]) (d := bod_least_amounts) T.F_least_amounts sc_least_amounts fun cdv A outer s H E hr => (
    (dss_one (ds_ret (dp_callQl (calls1_t call_tuple_of (by rfl) T.n_tuple (by decide +kernel)) bq_tuple (dql_l (dl_comp (own' := [("row", 1)]) rfl sc_least_amounts.nd (dc_i (di_seq (dp_ix (dq_p (dp_var (pv 0))) dp_int (fun _ _ => rfl)))) (blkOk_by (by first | decide +kernel | exact rfl)) (by decide) (fun _ _ _ _ _ => (dg_nm (pg_name (i := 1) sc_least_amounts.nd rfl (by first | exact Or.inl rfl | exact Or.inr rfl)))) (fun _ _ _ _ _ => dts_nil) (fun _ _ _ _ _ => (dp_ix (dq_p (dp_var (pv 1))) dp_int (fun _ _ => rfl)))))))) )
theorem ok_steps_of (T : Txt K mg) : FnOk P w K mg base CX0 3 T.a_steps_of T.fd_steps_of ["net", "flow"] (SpF K den_steps_of) :=
  ok_fn (N := ["net", "flow", "found", "ends", "place", "row", "tail", "head", "more"]) (ps := ["net", "flow"]) (d := bod_steps_of) T.F_steps_of sc_steps_of fun cdv A outer s H E hr => (
    (dss_cons (ds_asgO sc_steps_of.nd rfl (by first | exact Or.inl rfl | exact Or.inr rfl) (dl_lst da_nil))
    (dss_cons (ds_asg sc_steps_of.nd rfl (by first | exact Or.inl rfl | exact Or.inr rfl) (dp_l (dl_call (ok_ends_by_place T) (hr.mono (by decide)) (by rfl) T.m_ends_by_place T.F_ends_by_place.kp T.b_ends_by_place (da_cons (dp_var (pv 0)) da_nil))))
    (dss_cons (ds_for PassesOwn.never rfl (di_enum (by rfl) T.n_enumerate (dp_ix (dq_p (dp_var (pv 0))) dp_int (fun _ _ => rfl))) (dg_tp rfl (dgs_cons (dg_nm (pg_name (i := 4) sc_steps_of.nd rfl (by first | exact Or.inl rfl | exact Or.inr rfl))) (dgs_cons (dg_nm (pg_name (i := 5) sc_steps_of.nd rfl (by first | exact Or.inl rfl | exact Or.inr rfl))) dgs_nil))) (dss_cons (ds_tgt (dp_ix (dq_p (dp_var (pv 3))) (dp_var (pv 4)) (fun _ _ => rfl)) (dg_tp rfl (dgs_cons (dg_nm (pg_name (i := 6) sc_steps_of.nd rfl (by first | exact Or.inl rfl | exact Or.inr rfl))) (dgs_cons (dg_nm (pg_name (i := 7) sc_steps_of.nd rfl (by first | exact Or.inl rfl | exact Or.inr rfl))) dgs_nil))))
    (dss_cons (ds_asg sc_steps_of.nd rfl (by first | exact Or.inl rfl | exact Or.inr rfl) (dp_call (ok_less_by T) (hr.mono (by decide)) (by rfl) T.m_less_by T.F_less_by.kp T.b_less_by (da_cons (dp_ix (dq_p (dp_var (pv 5))) dp_int (fun _ _ => rfl)) (da_cons (dp_ix (dq_p (dp_var (pv 1))) (dp_var (pv 4)) (fun _ _ => rfl)) da_nil))))
    (dss_cons (ds_if (dt_w (dw_or (dt_isN (dp_var (pv 8)) dp_non) (dw_or1 (dt_gt (dp_var (pv 8)) dp_int)))) (dss_one (ds_append (pv 2) (dp_tup (da_cons (dp_var (pv 6)) (da_cons (dp_var (pv 7)) (da_cons (dp_var (pv 4)) (da_cons dp_int (da_cons (dp_var (pv 8)) (da_cons (dp_ix (dq_p (dp_var (pv 5))) dp_int (fun _ _ => rfl)) da_nil))))))))) dss_nil)
    (dss_one (ds_if (dt_gt (dp_ix (dq_p (dp_var (pv 1))) (dp_var (pv 4)) (fun _ _ => rfl)) (dp_ix (dq_p (dp_var (pv 5))) dp_int (fun _ _ => rfl))) (dss_one (ds_append (pv 2) (dp_tup (da_cons (dp_var (pv 7)) (da_cons (dp_var (pv 6)) (da_cons (dp_var (pv 4)) (da_cons (dp_neg dp_int) (da_cons (dp_sub (dp_ix (dq_p (dp_var (pv 1))) (dp_var (pv 4)) (fun _ _ => rfl)) (dp_ix (dq_p (dp_var (pv 5))) dp_int (fun _ _ => rfl))) (da_cons (dp_neg (dp_ix (dq_p (dp_var (pv 5))) dp_int (fun _ _ => rfl))) da_nil))))))))) dss_nil))))))
    (dss_one (ds_retO (pv 2)))))) )
theorem ok_steps_by_start (T : Txt K mg) : FnOk P w K mg base CX0 4 T.a_steps_by_start T.fd_steps_by_start ["net", "flow"] (SpF K den_steps_by_start) :=
  ok_fn (N := ["net", "flow", "found", "step", "_"]) (ps := ["net", "flow"]) (d := bod_steps_by_start) T.F_steps_by_start sc_steps_by_start fun cdv A outer s H E hr => (
    (dss_cons (ds_asgOO (own' := [("_", 4)]) rfl sc_steps_by_start.nd rfl rfl (sw_true rfl rfl rfl (by decide +kernel)) (dc_i (di_seq (dp_ix (dq_p (dp_var (pv 0))) dp_int (fun _ _ => rfl)))) (blkOk_by (by first | decide +kernel | exact rfl)) (by decide) (fun _ _ _ _ _ => (dg_nm (pg_name (i := 4) sc_steps_by_start.nd rfl (by first | exact Or.inl rfl | exact Or.inr rfl)))) (fun _ _ _ _ _ => (dl_lst da_nil)))
    (dss_cons (ds_for PassesOwn.never rfl (di_seq (dp_l (dl_call (ok_steps_of T) (hr.mono (by decide)) (by rfl) T.m_steps_of T.F_steps_of.kp T.b_steps_of (da_cons (dp_var (pv 0)) (da_cons (dp_var (pv 1)) da_nil))))) (dg_nm (pg_name (i := 3) sc_steps_by_start.nd rfl (by first | exact Or.inl rfl | exact Or.inr rfl))) (dss_one (ds_append2 (pv 2) (dp_ix (dq_p (dp_var (pv 3))) dp_int (fun _ _ => rfl)) (fun _ _ => rfl) (dp_var (pv 3)))))
    (dss_one (ds_retOO (pv 2))))) )
theorem ok_reached_from (T : Txt K mg) : FnOk P w K mg base CX0 5 T.a_reached_from T.fd_reached_from ["net", "flow", "starts"] (SpF K den_reached_from) :=
  ok_fn (N := ["net", "flow", "starts", "rows", "found", "order", "place", "at", "step", "_"]) (ps := ["net", "flow", "starts"]) (d := bod_reached_from) T.F_reached_from sc_reached_from fun cdv A outer s H E hr => (
    (dss_cons (ds_asg sc_reached_from.nd rfl (by first | exact Or.inl rfl | exact Or.inr rfl) (dp_l (dl_call (ok_steps_by_start T) (hr.mono (by decide)) (by rfl) T.m_steps_by_start T.F_steps_by_start.kp T.b_steps_by_start (da_cons (dp_var (pv 0)) (da_cons (dp_var (pv 1)) da_nil)))))
    (dss_cons (ds_asgOc (own' := [("_", 9)]) rfl sc_reached_from.nd rfl rfl (sw_true rfl rfl rfl (by decide +kernel)) (dc_i (di_seq (dp_ix (dq_p (dp_var (pv 0))) dp_int (fun _ _ => rfl)))) (blkOk_by (by first | decide +kernel | exact rfl)) (by decide) (fun _ _ _ _ _ => (dg_nm (pg_name (i := 9) sc_reached_from.nd rfl (by first | exact Or.inl rfl | exact Or.inr rfl)))) (fun _ _ _ _ _ => dts_nil) (fun _ _ _ _ _ => dp_non))
    (dss_cons (ds_asgO sc_reached_from.nd rfl (by first | exact Or.inl rfl | exact Or.inr rfl) (dl_callQ (calls1_t call_list_of (by rfl) T.n_list (by decide +kernel)) bl_list (dq_p (dp_var (pv 2)))))
    (dss_cons (ds_forO PassesOwn.never rfl (pv 5) (dg_nm (pg_name (i := 6) sc_reached_from.nd rfl (by first | exact Or.inl rfl | exact Or.inr rfl))) (dss_one (ds_setIx (pv 4) (dp_var (pv 6)) dp_bl)))
    (dss_cons (ds_asg sc_reached_from.nd rfl (by first | exact Or.inl rfl | exact Or.inr rfl) dp_int)
    (dss_cons (ds_while PassesOwn.never (dt_lt (dp_var (pv 7)) (dp_callQ (calls1_b call_len_seq (by rfl) T.n_len (by decide +kernel)) bq_len (dq_own (pv 5)))) (dss_cons (ds_for PassesOwn.never rfl (di_seq (dp_ix (dq_p (dp_var (pv 3))) (dp_ix (dq_own (pv 5)) (dp_var (pv 7)) (fun _ _ => rfl)) (fun _ _ => rfl))) (dg_nm (pg_name (i := 8) sc_reached_from.nd rfl (by first | exact Or.inl rfl | exact Or.inr rfl))) (dss_one (ds_if (dt_isN (dp_ix (dq_own (pv 4)) (dp_ix (dq_p (dp_var (pv 8))) dp_int (fun _ _ => rfl)) (fun _ _ => rfl)) dp_non) (dss_cons (ds_setIx (pv 4) (dp_ix (dq_p (dp_var (pv 8))) dp_int (fun _ _ => rfl)) (dp_var (pv 8)))
    (dss_one (ds_append (pv 5) (dp_ix (dq_p (dp_var (pv 8))) dp_int (fun _ _ => rfl))))) dss_nil)))
    (dss_one (ds_aug sc_reached_from.nd rfl (by first | exact Or.inl rfl | exact Or.inr rfl) dp_int ip_add))))
    (dss_one (ds_retO (pv 4))))))))) )
theorem ok_reaching (T : Txt K mg) : FnOk P w K mg base CX0 4 T.a_reaching T.fd_reaching ["net", "flow", "goals"] (SpF K den_reaching) :=
  ok_fn (N := ["net", "flow", "goals", "back", "step", "found", "order", "place", "at", "_"]) (ps := ["net", "flow", "goals"]) (d := bod_reaching) T.F_reaching sc_reaching fun cdv A outer s H E hr => (
    (dss_cons (ds_asgOO (own' := [("_", 9)]) rfl sc_reaching.nd rfl rfl (sw_true rfl rfl rfl (by decide +kernel)) (dc_i (di_seq (dp_ix (dq_p (dp_var (pv 0))) dp_int (fun _ _ => rfl)))) (blkOk_by (by first | decide +kernel | exact rfl)) (by decide) (fun _ _ _ _ _ => (dg_nm (pg_name (i := 9) sc_reaching.nd rfl (by first | exact Or.inl rfl | exact Or.inr rfl)))) (fun _ _ _ _ _ => (dl_lst da_nil)))
    (dss_cons (ds_for PassesOwn.never rfl (di_seq (dp_l (dl_call (ok_steps_of T) (hr.mono (by decide)) (by rfl) T.m_steps_of T.F_steps_of.kp T.b_steps_of (da_cons (dp_var (pv 0)) (da_cons (dp_var (pv 1)) da_nil))))) (dg_nm (pg_name (i := 4) sc_reaching.nd rfl (by first | exact Or.inl rfl | exact Or.inr rfl))) (dss_one (ds_append2 (pv 3) (dp_ix (dq_p (dp_var (pv 4))) dp_int (fun _ _ => rfl)) (fun _ _ => rfl) (dp_ix (dq_p (dp_var (pv 4))) dp_int (fun _ _ => rfl)))))
    (dss_cons (ds_asgOc (own' := [("_", 9)]) rfl sc_reaching.nd rfl rfl (sw_true rfl rfl rfl (by decide +kernel)) (dc_i (di_seq (dp_ix (dq_p (dp_var (pv 0))) dp_int (fun _ _ => rfl)))) (blkOk_by (by first | decide +kernel | exact rfl)) (by decide) (fun _ _ _ _ _ => (dg_nm (pg_name (i := 9) sc_reaching.nd rfl (by first | exact Or.inl rfl | exact Or.inr rfl)))) (fun _ _ _ _ _ => dts_nil) (fun _ _ _ _ _ => dp_bl))
    (dss_cons (ds_asgO sc_reaching.nd rfl (by first | exact Or.inl rfl | exact Or.inr rfl) (dl_callQ (calls1_t call_list_of (by rfl) T.n_list (by decide +kernel)) bl_list (dq_p (dp_var (pv 2)))))
    (dss_cons (ds_forO PassesOwn.never rfl (pv 6) (dg_nm (pg_name (i := 7) sc_reaching.nd rfl (by first | exact Or.inl rfl | exact Or.inr rfl))) (dss_one (ds_setIx (pv 5) (dp_var (pv 7)) dp_bl)))
    (dss_cons (ds_asg sc_reaching.nd rfl (by first | exact Or.inl rfl | exact Or.inr rfl) dp_int)
    (dss_frz (vs := [3]) (dss_cons (ds_while PassesOwn.never (dt_lt (dp_var (pv 8)) (dp_callQ (calls1_b call_len_seq (by rfl) T.n_len (by decide +kernel)) bq_len (dq_own (pv 6)))) (dss_cons (ds_for PassesOwn.never rfl (di_seq (dp_ix (dq_p (dp_var (pv 3))) (dp_ix (dq_own (pv 6)) (dp_var (pv 8)) (fun _ _ => rfl)) (fun _ _ => rfl))) (dg_nm (pg_name (i := 7) sc_reaching.nd rfl (by first | exact Or.inl rfl | exact Or.inr rfl))) (dss_one (ds_if (dt_not (dt_tru (dp_ix (dq_own (pv 5)) (dp_var (pv 7)) (fun _ _ => rfl)))) (dss_cons (ds_setIx (pv 5) (dp_var (pv 7)) dp_bl)
    (dss_one (ds_append (pv 6) (dp_var (pv 7))))) dss_nil)))
    (dss_one (ds_aug sc_reaching.nd rfl (by first | exact Or.inl rfl | exact Or.inr rfl) dp_int ip_add))))
    (dss_one (ds_retO (pv 5))))))))))) )
theorem ok_way_to (T : Txt K mg) : FnOk P w K mg base CX0 1 T.a_way_to T.fd_way_to ["met", "goal"] (SpF K den_way_to) :=
  ok_fn (N := ["met", "goal", "found"]) (ps := ["met", "goal"]) (d := bod_way_to) T.F_way_to sc_way_to fun cdv A outer s H E hr => (
    (dss_cons (ds_asgO sc_way_to.nd rfl (by first | exact Or.inl rfl | exact Or.inr rfl) (dl_lst da_nil))
    (dss_cons (ds_while PassesOwn.never (dt_notB (dp_ix (dq_p (dp_var (pv 0))) (dp_var (pv 1)) (fun _ _ => rfl)) dp_bl) (dss_cons (ds_append (pv 2) (dp_ix (dq_p (dp_var (pv 0))) (dp_var (pv 1)) (fun _ _ => rfl)))
    (dss_one (ds_asg sc_way_to.nd rfl (by first | exact Or.inl rfl | exact Or.inr rfl) (dp_ix (dq_p (dp_ix (dq_p (dp_var (pv 0))) (dp_var (pv 1)) (fun _ _ => rfl))) dp_int (fun _ _ => rfl))))))
    (dss_one (ds_retL (dl_rev (dql_own (pv 2))))))) )
theorem ok_room_along (T : Txt K mg) : FnOk P w K mg base CX0 2 T.a_room_along T.fd_room_along ["steps"] (SpF K den_room_along) :=
  ok_fn (N := ["steps", "found", "step"]) (ps := ["steps"]) (d := bod_room_along) T.F_room_along sc_room_along fun cdv A outer s H E hr => (
    (dss_cons (ds_asg sc_room_along.nd rfl (by first | exact Or.inl rfl | exact Or.inr rfl) dp_non)
    (dss_cons (ds_for PassesOwn.never rfl (di_seq (dp_var (pv 0))) (dg_nm (pg_name (i := 2) sc_room_along.nd rfl (by first | exact Or.inl rfl | exact Or.inr rfl))) (dss_one (ds_asg sc_room_along.nd rfl (by first | exact Or.inl rfl | exact Or.inr rfl) (dp_call (ok_least_of T) (hr.mono (by decide)) (by rfl) T.m_least_of T.F_least_of.kp T.b_least_of (da_cons (dp_var (pv 1)) (da_cons (dp_ix (dq_p (dp_var (pv 2))) dp_int (fun _ _ => rfl)) da_nil))))))
    (dss_one (ds_ret (dp_var (pv 1)))))) )
theorem ok_price_along (T : Txt K mg) : FnOk P w K mg base CX0 1 T.a_price_along T.fd_price_along ["steps"] (SpF K den_price_along) :=
  ok_fn (N := ["steps", "step"]) (ps := ["steps"]) (d := bod_price_along) T.F_price_along sc_price_along fun cdv A outer s H E hr => (
    (dss_one (ds_ret (dp_callQl (calls1_b (cr_sum rfl) (by rfl) T.n_sum (by decide +kernel)) bq_sum (dql_l (dl_comp (own' := [("step", 1)]) rfl sc_price_along.nd (dc_i (di_seq (dp_var (pv 0)))) (blkOk_by (by first | decide +kernel | exact rfl)) (by decide) (fun _ _ _ _ _ => (dg_nm (pg_name (i := 1) sc_price_along.nd rfl (by first | exact Or.inl rfl | exact Or.inr rfl)))) (fun _ _ _ _ _ => dts_nil) (fun _ _ _ _ _ => (dp_ix (dq_p (dp_var (pv 1))) dp_int (fun _ _ => rfl)))))))) )
theorem ok_pushed (T : Txt K mg) : FnOk P w K mg base CX0 1 T.a_pushed T.fd_pushed ["flow", "steps", "amount"] (SpF K den_pushed) :=
  ok_fn (N := ["flow", "steps", "amount", "found", "_", "arc", "way"]) (ps := ["flow", "steps", "amount"]) (d := bod_pushed) T.F_pushed sc_pushed fun cdv A outer s H E hr => (
    (dss_cons (ds_asgO sc_pushed.nd rfl (by first | exact Or.inl rfl | exact Or.inr rfl) (dl_callQ (calls1_t call_list_of (by rfl) T.n_list (by decide +kernel)) bl_list (dq_p (dp_var (pv 0)))))
    (dss_cons (ds_for PassesOwn.never rfl (di_seq (dp_var (pv 1))) (dg_tp rfl (dgs_cons (dg_nm (pg_name (i := 4) sc_pushed.nd rfl (by first | exact Or.inl rfl | exact Or.inr rfl))) (dgs_cons (dg_nm (pg_name (i := 4) sc_pushed.nd rfl (by first | exact Or.inl rfl | exact Or.inr rfl))) (dgs_cons (dg_nm (pg_name (i := 5) sc_pushed.nd rfl (by first | exact Or.inl rfl | exact Or.inr rfl))) (dgs_cons (dg_nm (pg_name (i := 6) sc_pushed.nd rfl (by first | exact Or.inl rfl | exact Or.inr rfl))) (dgs_cons (dg_nm (pg_name (i := 4) sc_pushed.nd rfl (by first | exact Or.inl rfl | exact Or.inr rfl))) (dgs_cons (dg_nm (pg_name (i := 4) sc_pushed.nd rfl (by first | exact Or.inl rfl | exact Or.inr rfl))) dgs_nil))))))) (dss_one (ds_augIx (pv 3) (dp_var (pv 5)) (dp_mul (dp_var (pv 6)) (dp_var (pv 2))) ip_add)))
    (dss_one (ds_ret (dp_callQl (calls1_t call_tuple_of (by rfl) T.n_tuple (by decide +kernel)) bq_tuple (dql_own (pv 3))))))) )
theorem ok_filled (T : Txt K mg) : FnOk P w K mg base CX0 6 T.a_filled T.fd_filled ["net", "flow"] (SpF K den_filled) :=
  ok_fn (N := ["net", "flow", "rest", "starts", "met", "goals", "way", "start", "amount", "place"]) (ps := ["net", "flow"]) (d := bod_filled) T.F_filled sc_filled fun cdv A outer s H E hr => (
    (dss_cons (ds_asgO sc_filled.nd rfl (by first | exact Or.inl rfl | exact Or.inr rfl) (dl_call (ok_left_over T) (hr.mono (by decide)) (by rfl) T.m_left_over T.F_left_over.kp T.b_left_over (da_cons (dp_var (pv 0)) (da_cons (dp_var (pv 1)) da_nil))))
    (dss_one (ds_while PassesOwn.never (dt_tru dp_bl) (dss_cons (ds_asgFc (own' := [("place", 9), ("amount", 8)]) rfl sc_filled.nd rfl rfl (sw_true rfl rfl rfl (by decide +kernel)) (dc_enum (by rfl) T.n_enumerate (dq_own (pv 2))) (blkOk_by (by first | decide +kernel | exact rfl)) (by decide) (fun _ _ _ _ _ => (dg_tp rfl (dgs_cons (dg_nm (pg_name (i := 9) sc_filled.nd rfl (by first | exact Or.inl rfl | exact Or.inr rfl))) (dgs_cons (dg_nm (pg_name (i := 8) sc_filled.nd rfl (by first | exact Or.inl rfl | exact Or.inr rfl))) dgs_nil)))) (fun _ _ _ _ _ => (dts_one (dt_gt (dp_var (pv 8)) dp_int))) (fun _ _ _ _ _ => (dp_var (pv 9))))
    (dss_cons (ds_asg sc_filled.nd rfl (by first | exact Or.inl rfl | exact Or.inr rfl) (dp_l (dl_call (ok_reached_from T) (hr.mono (by decide)) (by rfl) T.m_reached_from T.F_reached_from.kp T.b_reached_from (da_cons (dp_var (pv 0)) (da_cons (dp_var (pv 1)) (da_cons (dp_var (pv 3)) da_nil))))))
    (dss_cons (ds_asgFc (own' := [("place", 9), ("amount", 8)]) rfl sc_filled.nd rfl rfl (sw_true rfl rfl rfl (by decide +kernel)) (dc_enum (by rfl) T.n_enumerate (dq_own (pv 2))) (blkOk_by (by first | decide +kernel | exact rfl)) (by decide) (fun _ _ _ _ _ => (dg_tp rfl (dgs_cons (dg_nm (pg_name (i := 9) sc_filled.nd rfl (by first | exact Or.inl rfl | exact Or.inr rfl))) (dgs_cons (dg_nm (pg_name (i := 8) sc_filled.nd rfl (by first | exact Or.inl rfl | exact Or.inr rfl))) dgs_nil)))) (fun _ _ _ _ _ => (dts_one (dt_w (dw_and (dt_lt (dp_var (pv 8)) dp_int) (dw_and1 (dt_notN (dp_ix (dq_p (dp_var (pv 4))) (dp_var (pv 9)) (fun _ _ => rfl)) dp_non)))))) (fun _ _ _ _ _ => (dp_var (pv 9))))
    (dss_cons (ds_if (dt_eq hr.units (dp_var (pv 5)) (dp_l (dl_lst da_nil))) (dss_one (ds_ret (dp_var (pv 1)))) dss_nil)
    (dss_cons (ds_asg sc_filled.nd rfl (by first | exact Or.inl rfl | exact Or.inr rfl) (dp_l (dl_call (ok_way_to T) (hr.mono (by decide)) (by rfl) T.m_way_to T.F_way_to.kp T.b_way_to (da_cons (dp_var (pv 4)) (da_cons (dp_ix (dq_p (dp_var (pv 5))) dp_int (fun _ _ => rfl)) da_nil)))))
    (dss_cons (ds_asg sc_filled.nd rfl (by first | exact Or.inl rfl | exact Or.inr rfl) (dp_ix (dq_p (dp_ix (dq_p (dp_var (pv 6))) dp_int (fun _ _ => rfl))) dp_int (fun _ _ => rfl)))
    (dss_cons (ds_asg sc_filled.nd rfl (by first | exact Or.inl rfl | exact Or.inr rfl) (dp_call (ok_least_of T) (hr.mono (by decide)) (by rfl) T.m_least_of T.F_least_of.kp T.b_least_of (da_cons (dp_call (ok_room_along T) (hr.mono (by decide)) (by rfl) T.m_room_along T.F_room_along.kp T.b_room_along (da_cons (dp_var (pv 6)) da_nil)) (da_cons (dp_callV2 (calls2_b (call_min2 rfl) (by rfl) T.n_min (by decide +kernel)) bv_min2 (da_cons (dp_ix (dq_own (pv 2)) (dp_var (pv 7)) (fun _ _ => rfl)) (da_cons (dp_neg (dp_ix (dq_own (pv 2)) (dp_ix (dq_p (dp_var (pv 5))) dp_int (fun _ _ => rfl)) (fun _ _ => rfl))) da_nil))) da_nil))))
    (dss_cons (ds_asg sc_filled.nd rfl (by first | exact Or.inl rfl | exact Or.inr rfl) (dp_call (ok_pushed T) (hr.mono (by decide)) (by rfl) T.m_pushed T.F_pushed.kp T.b_pushed (da_cons (dp_var (pv 1)) (da_cons (dp_var (pv 6)) (da_cons (dp_var (pv 8)) da_nil)))))
    (dss_cons (ds_augIx (pv 2) (dp_var (pv 7)) (dp_var (pv 8)) ip_sub)
    (dss_one (ds_augIx (pv 2) (dp_ix (dq_p (dp_var (pv 5))) dp_int (fun _ _ => rfl)) (dp_var (pv 8)) ip_add)))))))))))))) )
theorem ok_lacking (T : Txt K mg) : FnOk P w K mg base CX0 6 T.a_lacking T.fd_lacking ["net", "flow"] (SpF K den_lacking) :=
  ok_fn (N := ["net", "flow", "rest", "over", "under", "names", "met", "nodes", "marks", "place", "amount", "name"]) (ps := ["net", "flow"]) (d := bod_lacking) T.F_lacking sc_lacking fun cdv A outer s H E hr => (
    (dss_cons (ds_asg sc_lacking.nd rfl (by first | exact Or.inl rfl | exact Or.inr rfl) (dp_l (dl_call (ok_left_over T) (hr.mono (by decide)) (by rfl) T.m_left_over T.F_left_over.kp T.b_left_over (da_cons (dp_var (pv 0)) (da_cons (dp_var (pv 1)) da_nil)))))
    (dss_cons (ds_asgFc (own' := [("place", 9), ("amount", 10)]) rfl sc_lacking.nd rfl rfl (sw_true rfl rfl rfl (by decide +kernel)) (dc_i (di_enum (by rfl) T.n_enumerate (dp_var (pv 2)))) (blkOk_by (by first | decide +kernel | exact rfl)) (by decide) (fun _ _ _ _ _ => (dg_tp rfl (dgs_cons (dg_nm (pg_name (i := 9) sc_lacking.nd rfl (by first | exact Or.inl rfl | exact Or.inr rfl))) (dgs_cons (dg_nm (pg_name (i := 10) sc_lacking.nd rfl (by first | exact Or.inl rfl | exact Or.inr rfl))) dgs_nil)))) (fun _ _ _ _ _ => (dts_one (dt_gt (dp_var (pv 10)) dp_int))) (fun _ _ _ _ _ => (dp_var (pv 9))))
    (dss_cons (ds_asgFc (own' := [("place", 9), ("amount", 10)]) rfl sc_lacking.nd rfl rfl (sw_true rfl rfl rfl (by decide +kernel)) (dc_i (di_enum (by rfl) T.n_enumerate (dp_var (pv 2)))) (blkOk_by (by first | decide +kernel | exact rfl)) (by decide) (fun _ _ _ _ _ => (dg_tp rfl (dgs_cons (dg_nm (pg_name (i := 9) sc_lacking.nd rfl (by first | exact Or.inl rfl | exact Or.inr rfl))) (dgs_cons (dg_nm (pg_name (i := 10) sc_lacking.nd rfl (by first | exact Or.inl rfl | exact Or.inr rfl))) dgs_nil)))) (fun _ _ _ _ _ => (dts_one (dt_lt (dp_var (pv 10)) dp_int))) (fun _ _ _ _ _ => (dp_var (pv 9))))
    (dss_cons (ds_asg sc_lacking.nd rfl (by first | exact Or.inl rfl | exact Or.inr rfl) (dp_l (dl_call (ok_node_names T) (hr.mono (by decide)) (by rfl) T.m_node_names T.F_node_names.kp T.b_node_names (da_cons (dp_var (pv 0)) da_nil))))
    (dss_cons (ds_if (dt_tru (dp_var (pv 3))) (dss_cons (ds_asg sc_lacking.nd rfl (by first | exact Or.inl rfl | exact Or.inr rfl) (dp_l (dl_call (ok_reached_from T) (hr.mono (by decide)) (by rfl) T.m_reached_from T.F_reached_from.kp T.b_reached_from (da_cons (dp_var (pv 0)) (da_cons (dp_var (pv 1)) (da_cons (dp_var (pv 3)) da_nil))))))
    (dss_cons (ds_asg sc_lacking.nd rfl (by first | exact Or.inl rfl | exact Or.inr rfl) (dp_callQl (calls1_t call_tuple_of (by rfl) T.n_tuple (by decide +kernel)) bq_tuple (dql_l (dl_comp (own' := [("place", 9), ("name", 11)]) rfl sc_lacking.nd (dc_i (di_enum (by rfl) T.n_enumerate (dp_var (pv 5)))) (blkOk_by (by first | decide +kernel | exact rfl)) (by decide) (fun _ _ _ _ _ => (dg_tp rfl (dgs_cons (dg_nm (pg_name (i := 9) sc_lacking.nd rfl (by first | exact Or.inl rfl | exact Or.inr rfl))) (dgs_cons (dg_nm (pg_name (i := 11) sc_lacking.nd rfl (by first | exact Or.inl rfl | exact Or.inr rfl))) dgs_nil)))) (fun _ _ _ _ _ => (dts_one (dt_notN (dp_ix (dq_p (dp_var (pv 6))) (dp_var (pv 9)) (fun _ _ => rfl)) dp_non))) (fun _ _ _ _ _ => (dp_var (pv 11)))))))
    (dss_one (ds_ret (dp_tup (da_cons dp_str (da_cons (dp_callQl (calls1_b (cr_sum rfl) (by rfl) T.n_sum (by decide +kernel)) bq_sum (dql_l (dl_comp (own' := [("place", 9)]) rfl sc_lacking.nd (dc_i (di_seq (dp_var (pv 3)))) (blkOk_by (by first | decide +kernel | exact rfl)) (by decide) (fun _ _ _ _ _ => (dg_nm (pg_name (i := 9) sc_lacking.nd rfl (by first | exact Or.inl rfl | exact Or.inr rfl)))) (fun _ _ _ _ _ => dts_nil) (fun _ _ _ _ _ => (dp_ix (dq_p (dp_var (pv 2))) (dp_var (pv 9)) (fun _ _ => rfl)))))) (da_cons dp_str (da_cons (dp_var (pv 7)) da_nil))))))))) dss_nil)
    (dss_cons (ds_if (dt_tru (dp_var (pv 4))) (dss_cons (ds_asg sc_lacking.nd rfl (by first | exact Or.inl rfl | exact Or.inr rfl) (dp_l (dl_call (ok_reaching T) (hr.mono (by decide)) (by rfl) T.m_reaching T.F_reaching.kp T.b_reaching (da_cons (dp_var (pv 0)) (da_cons (dp_var (pv 1)) (da_cons (dp_var (pv 4)) da_nil))))))
    (dss_cons (ds_asg sc_lacking.nd rfl (by first | exact Or.inl rfl | exact Or.inr rfl) (dp_callQl (calls1_t call_tuple_of (by rfl) T.n_tuple (by decide +kernel)) bq_tuple (dql_l (dl_comp (own' := [("place", 9), ("name", 11)]) rfl sc_lacking.nd (dc_i (di_enum (by rfl) T.n_enumerate (dp_var (pv 5)))) (blkOk_by (by first | decide +kernel | exact rfl)) (by decide) (fun _ _ _ _ _ => (dg_tp rfl (dgs_cons (dg_nm (pg_name (i := 9) sc_lacking.nd rfl (by first | exact Or.inl rfl | exact Or.inr rfl))) (dgs_cons (dg_nm (pg_name (i := 11) sc_lacking.nd rfl (by first | exact Or.inl rfl | exact Or.inr rfl))) dgs_nil)))) (fun _ _ _ _ _ => (dts_one (dt_tru (dp_ix (dq_p (dp_var (pv 8))) (dp_var (pv 9)) (fun _ _ => rfl))))) (fun _ _ _ _ _ => (dp_var (pv 11)))))))
    (dss_one (ds_ret (dp_tup (da_cons dp_str (da_cons (dp_neg (dp_callQl (calls1_b (cr_sum rfl) (by rfl) T.n_sum (by decide +kernel)) bq_sum (dql_l (dl_comp (own' := [("place", 9)]) rfl sc_lacking.nd (dc_i (di_seq (dp_var (pv 4)))) (blkOk_by (by first | decide +kernel | exact rfl)) (by decide) (fun _ _ _ _ _ => (dg_nm (pg_name (i := 9) sc_lacking.nd rfl (by first | exact Or.inl rfl | exact Or.inr rfl)))) (fun _ _ _ _ _ => dts_nil) (fun _ _ _ _ _ => (dp_ix (dq_p (dp_var (pv 2))) (dp_var (pv 9)) (fun _ _ => rfl))))))) (da_cons dp_str (da_cons (dp_var (pv 7)) da_nil))))))))) dss_nil)
    (dss_one (ds_ret dp_non)))))))) )
theorem ok_first_flow (T : Txt K mg) : FnOk P w K mg base CX0 7 T.a_first_flow T.fd_first_flow ["net"] (SpF K den_first_flow) :=
  ok_fn (N := ["net", "flow"]) (ps := ["net"]) (d := bod_first_flow) T.F_first_flow sc_first_flow fun cdv A outer s H E hr => (
    (dss_cons (ds_asg sc_first_flow.nd rfl (by first | exact Or.inl rfl | exact Or.inr rfl) (dp_call (ok_filled T) (hr.mono (by decide)) (by rfl) T.m_filled T.F_filled.kp T.b_filled (da_cons (dp_var (pv 0)) (da_cons (dp_call (ok_least_amounts T) (hr.mono (by decide)) (by rfl) T.m_least_amounts T.F_least_amounts.kp T.b_least_amounts (da_cons (dp_var (pv 0)) da_nil)) da_nil))))
    (dss_one (ds_ret (dp_orT (dp_call (ok_lacking T) (hr.mono (by decide)) (by rfl) T.m_lacking T.F_lacking.kp T.b_lacking (da_cons (dp_var (pv 0)) (da_cons (dp_var (pv 1)) da_nil))) (dp_one (dp_tup (da_cons dp_str (da_cons (dp_var (pv 1)) da_nil)))))))) )
theorem ok_gap_over (T : Txt K mg) : FnOk P w K mg base CX0 1 T.a_gap_over T.fd_gap_over ["net", "nodes"] (SpF K den_gap_over) :=
  ok_fn (N := ["net", "nodes", "found", "row", "name", "supply"]) (ps := ["net", "nodes"]) (d := bod_gap_over) T.F_gap_over sc_gap_over fun cdv A outer s H E hr => (
    (dss_cons (ds_asg sc_gap_over.nd rfl (by first | exact Or.inl rfl | exact Or.inr rfl) (dp_callQl (calls1_b (cr_sum rfl) (by rfl) T.n_sum (by decide +kernel)) bq_sum (dql_l (dl_comp (own' := [("name", 4), ("supply", 5)]) rfl sc_gap_over.nd (dc_i (di_seq (dp_ix (dq_p (dp_var (pv 0))) dp_int (fun _ _ => rfl)))) (blkOk_by (by first | decide +kernel | exact rfl)) (by decide) (fun _ _ _ _ _ => (dg_tp rfl (dgs_cons (dg_nm (pg_name (i := 4) sc_gap_over.nd rfl (by first | exact Or.inl rfl | exact Or.inr rfl))) (dgs_cons (dg_nm (pg_name (i := 5) sc_gap_over.nd rfl (by first | exact Or.inl rfl | exact Or.inr rfl))) dgs_nil)))) (fun _ _ _ _ _ => (dts_one (dt_in (dp_var (pv 4)) (dq_p (dp_var (pv 1)))))) (fun _ _ _ _ _ => (dp_var (pv 5)))))))
    (dss_cons (ds_for PassesOwn.never rfl (di_seq (dp_ix (dq_p (dp_var (pv 0))) dp_int (fun _ _ => rfl))) (dg_nm (pg_name (i := 3) sc_gap_over.nd rfl (by first | exact Or.inl rfl | exact Or.inr rfl))) (dss_cons (ds_if (dt_w (dw_and (dt_notin (dp_ix (dq_p (dp_var (pv 3))) dp_int (fun _ _ => rfl)) (dq_p (dp_var (pv 1)))) (dw_and1 (dt_in (dp_ix (dq_p (dp_var (pv 3))) dp_int (fun _ _ => rfl)) (dq_p (dp_var (pv 1))))))) (dss_one (ds_aug sc_gap_over.nd rfl (by first | exact Or.inl rfl | exact Or.inr rfl) (dp_ix (dq_p (dp_var (pv 3))) dp_int (fun _ _ => rfl)) ip_add)) dss_nil)
    (dss_one (ds_if (dt_w (dw_and (dt_in (dp_ix (dq_p (dp_var (pv 3))) dp_int (fun _ _ => rfl)) (dq_p (dp_var (pv 1)))) (dw_and1 (dt_notin (dp_ix (dq_p (dp_var (pv 3))) dp_int (fun _ _ => rfl)) (dq_p (dp_var (pv 1))))))) (dss_cons (ds_if (dt_isN (dp_ix (dq_p (dp_var (pv 3))) dp_int (fun _ _ => rfl)) dp_non) (dss_one (ds_ret dp_non)) dss_nil)
    (dss_one (ds_aug sc_gap_over.nd rfl (by first | exact Or.inl rfl | exact Or.inr rfl) (dp_ix (dq_p (dp_var (pv 3))) dp_int (fun _ _ => rfl)) ip_sub))) dss_nil))))
    (dss_one (ds_ret (dp_var (pv 2)))))) )
theorem ok_gap_under (T : Txt K mg) : FnOk P w K mg base CX0 1 T.a_gap_under T.fd_gap_under ["net", "nodes"] (SpF K den_gap_under) :=
  ok_fn (N := ["net", "nodes", "found", "row", "name", "supply"]) (ps := ["net", "nodes"]) (d := bod_gap_under) T.F_gap_under sc_gap_under fun cdv A outer s H E hr => (
    (dss_cons (ds_asg sc_gap_under.nd rfl (by first | exact Or.inl rfl | exact Or.inr rfl) (dp_neg (dp_callQl (calls1_b (cr_sum rfl) (by rfl) T.n_sum (by decide +kernel)) bq_sum (dql_l (dl_comp (own' := [("name", 4), ("supply", 5)]) rfl sc_gap_under.nd (dc_i (di_seq (dp_ix (dq_p (dp_var (pv 0))) dp_int (fun _ _ => rfl)))) (blkOk_by (by first | decide +kernel | exact rfl)) (by decide) (fun _ _ _ _ _ => (dg_tp rfl (dgs_cons (dg_nm (pg_name (i := 4) sc_gap_under.nd rfl (by first | exact Or.inl rfl | exact Or.inr rfl))) (dgs_cons (dg_nm (pg_name (i := 5) sc_gap_under.nd rfl (by first | exact Or.inl rfl | exact Or.inr rfl))) dgs_nil)))) (fun _ _ _ _ _ => (dts_one (dt_in (dp_var (pv 4)) (dq_p (dp_var (pv 1)))))) (fun _ _ _ _ _ => (dp_var (pv 5))))))))
    (dss_cons (ds_for PassesOwn.never rfl (di_seq (dp_ix (dq_p (dp_var (pv 0))) dp_int (fun _ _ => rfl))) (dg_nm (pg_name (i := 3) sc_gap_under.nd rfl (by first | exact Or.inl rfl | exact Or.inr rfl))) (dss_cons (ds_if (dt_w (dw_and (dt_in (dp_ix (dq_p (dp_var (pv 3))) dp_int (fun _ _ => rfl)) (dq_p (dp_var (pv 1)))) (dw_and1 (dt_notin (dp_ix (dq_p (dp_var (pv 3))) dp_int (fun _ _ => rfl)) (dq_p (dp_var (pv 1))))))) (dss_one (ds_aug sc_gap_under.nd rfl (by first | exact Or.inl rfl | exact Or.inr rfl) (dp_ix (dq_p (dp_var (pv 3))) dp_int (fun _ _ => rfl)) ip_add)) dss_nil)
    (dss_one (ds_if (dt_w (dw_and (dt_notin (dp_ix (dq_p (dp_var (pv 3))) dp_int (fun _ _ => rfl)) (dq_p (dp_var (pv 1)))) (dw_and1 (dt_in (dp_ix (dq_p (dp_var (pv 3))) dp_int (fun _ _ => rfl)) (dq_p (dp_var (pv 1))))))) (dss_cons (ds_if (dt_isN (dp_ix (dq_p (dp_var (pv 3))) dp_int (fun _ _ => rfl)) dp_non) (dss_one (ds_ret dp_non)) dss_nil)
    (dss_one (ds_aug sc_gap_under.nd rfl (by first | exact Or.inl rfl | exact Or.inr rfl) (dp_ix (dq_p (dp_var (pv 3))) dp_int (fun _ _ => rfl)) ip_sub))) dss_nil))))
    (dss_one (ds_ret (dp_var (pv 2)))))) )
theorem ok_judge_never (T : Txt K mg) : FnOk P w K mg base CX0 2 T.a_judge_never T.fd_judge_never ["net", "paper"] (SpF K den_judge_never) :=
  ok_fn (N := ["net", "paper", "_", "amount", "word", "nodes", "gap", "name"]) (ps := ["net", "paper"]) (d := bod_judge_never) T.F_judge_never sc_judge_never fun cdv A outer s H E hr => (
    (dss_cons (ds_tgt (dp_var (pv 1)) (dg_tp rfl (dgs_cons (dg_nm (pg_name (i := 2) sc_judge_never.nd rfl (by first | exact Or.inl rfl | exact Or.inr rfl))) (dgs_cons (dg_nm (pg_name (i := 3) sc_judge_never.nd rfl (by first | exact Or.inl rfl | exact Or.inr rfl))) (dgs_cons (dg_nm (pg_name (i := 4) sc_judge_never.nd rfl (by first | exact Or.inl rfl | exact Or.inr rfl))) (dgs_cons (dg_nm (pg_name (i := 5) sc_judge_never.nd rfl (by first | exact Or.inl rfl | exact Or.inr rfl))) dgs_nil))))))
    (dss_cons (ds_if (dt_w (dw_or (dt_notin (dp_var (pv 4)) (dq_p (dp_tup (da_cons dp_str (da_cons dp_str da_nil))))) (dw_or (dt_lt (dp_var (pv 3)) dp_int) (dw_or1 (dt_not (dt_tru (dp_callQl (calls1_b (cr_all rfl) (by rfl) T.n_all (by decide +kernel)) bq_all (dql_l (dl_comp (own' := [("name", 7)]) rfl sc_judge_never.nd (dc_i (di_seq (dp_var (pv 5)))) (blkOk_by (by first | decide +kernel | exact rfl)) (by decide) (fun _ _ _ _ _ => (dg_nm (pg_name (i := 7) sc_judge_never.nd rfl (by first | exact Or.inl rfl | exact Or.inr rfl)))) (fun _ _ _ _ _ => dts_nil) (fun _ _ _ _ _ => (dp_in (dp_var (pv 7)) (dq_l (dl_call (ok_node_names T) (hr.mono (by decide)) (by rfl) T.m_node_names T.F_node_names.kp T.b_node_names (da_cons (dp_var (pv 0)) da_nil)))))))))))))) (dss_one (ds_ret dp_bl)) dss_nil)
    (dss_cons (ds_asg sc_judge_never.nd rfl (by first | exact Or.inl rfl | exact Or.inr rfl) (dp_if (dt_eq hr.units (dp_var (pv 4)) dp_str) (dp_call (ok_gap_over T) (hr.mono (by decide)) (by rfl) T.m_gap_over T.F_gap_over.kp T.b_gap_over (da_cons (dp_var (pv 0)) (da_cons (dp_var (pv 5)) da_nil))) (dp_call (ok_gap_under T) (hr.mono (by decide)) (by rfl) T.m_gap_under T.F_gap_under.kp T.b_gap_under (da_cons (dp_var (pv 0)) (da_cons (dp_var (pv 5)) da_nil)))))
    (dss_one (ds_ret (dp_eq hr.units (dp_var (pv 6)) (dp_var (pv 3)))))))) )
theorem ok_has_flow (T : Txt K mg) : FnOk P w K mg base CX0 8 T.a_has_flow T.fd_has_flow ["net"] (SpF K den_has_flow) :=
  ok_fn (N := ["net"]) (ps := ["net"]) (d := bod_has_flow) T.F_has_flow sc_has_flow fun cdv A outer s H E hr => (
    (dss_one (ds_ret (dp_eq hr.units (dp_ix (dq_p (dp_call (ok_first_flow T) (hr.mono (by decide)) (by rfl) T.m_first_flow T.F_first_flow.kp T.b_first_flow (da_cons (dp_var (pv 0)) da_nil))) dp_int (fun _ _ => rfl)) dp_str))) )
theorem ok_law_state (T : Txt K mg) : FnOk P w K mg base CX0 1 T.a_law_state T.fd_law_state ["script"] (SpF K den_law_state) :=
  ok_fn (N := ["script"]) (ps := ["script"]) (d := bod_law_state) T.F_law_state sc_law_state fun cdv A outer s H E hr => (
    (dss_one (ds_retL (dl_lst (da_cons (dp_l (dl_callQ (calls1_t call_list_of (by rfl) T.n_list (by decide +kernel)) bl_list (dq_p (dp_var (pv 0))))) (da_cons dp_int (da_cons dp_int (da_cons dp_int (da_cons dp_bl (da_cons dp_int da_nil))))))))) )
theorem ok_law_draw (T : Txt K mg) : FnOk P w K mg base CX0 1 T.a_law_draw T.fd_law_draw ["state", "limit"] (SpX K den_law_draw) :=
  ok_fnX (N := ["state", "limit", "cell", "digit", "mixed"]) (ps := ["state", "limit"]) (d := bod_law_draw) T.F_law_draw sc_law_draw fun cdv A outer s H E hr => (
    (dss_cons (ds_if (dt_eq hr.units (dp_ix (dq_own (pv 0)) dp_int (fun _ _ => rfl)) dp_int) (dss_cons (ds_if (dt_ge (dp_ix (dq_own (pv 0)) dp_int (fun _ _ => rfl)) (dp_callQ (calls1_b call_len_seq (by rfl) T.n_len (by decide +kernel)) bq_len (dq_p (dp_ix (dq_own (pv 0)) dp_int (fun _ _ => rfl))))) (dss_one (ds_ret dp_int)) dss_nil)
    (dss_cons (ds_asg sc_law_draw.nd rfl (by first | exact Or.inl rfl | exact Or.inr rfl) (dp_ix (dq_p (dp_ix (dq_own (pv 0)) dp_int (fun _ _ => rfl))) (dp_ix (dq_own (pv 0)) dp_int (fun _ _ => rfl)) (fun _ _ => rfl)))
    (dss_cons (ds_if (dt_lt (dp_var (pv 2)) dp_int) (dss_one (ds_asg sc_law_draw.nd rfl (by first | exact Or.inl rfl | exact Or.inr rfl) (dp_sub (dp_neg dp_int) (dp_var (pv 2))))) dss_nil)
    (dss_cons (ds_setIx (pv 0) dp_int (dp_add (dp_ix (dq_own (pv 0)) dp_int (fun _ _ => rfl)) dp_int))
    (dss_cons (ds_setIx (pv 0) dp_int (dp_var (pv 2)))
    (dss_cons (ds_setIx (pv 0) dp_int (dp_ge (dp_var (pv 2)) (dp_pow dp_int dp_int)))
    (dss_cons (ds_setIx (pv 0) dp_int dp_int)
    (dss_one (ds_if (dt_tru (dp_ix (dq_own (pv 0)) dp_int (fun _ _ => rfl))) (dss_one (ds_setIx (pv 0) dp_int dp_int)) dss_nil))))))))) dss_nil)
    (dss_cons (ds_setIx (pv 0) dp_int (dp_sub (dp_ix (dq_own (pv 0)) dp_int (fun _ _ => rfl)) dp_int))
    (dss_cons (ds_if (dt_tru (dp_ix (dq_own (pv 0)) dp_int (fun _ _ => rfl))) (dss_cons (ds_asg sc_law_draw.nd rfl (by first | exact Or.inl rfl | exact Or.inr rfl) (dp_mod (dp_callV1 (calls1_t call_int1 (by rfl) T.n_int (by decide +kernel)) bv_int (da_cons (dp_ix (dq_own (pv 0)) dp_int (fun _ _ => rfl)) da_nil)) (dp_var (pv 1))))
    (dss_cons (ds_setIx (pv 0) dp_int (dp_fdiv (dp_ix (dq_own (pv 0)) dp_int (fun _ _ => rfl)) (dp_var (pv 1))))
    (dss_cons (ds_if (dt_eq hr.units (dp_ix (dq_own (pv 0)) dp_int (fun _ _ => rfl)) dp_int) (dss_one (ds_setIx (pv 0) dp_int dp_int)) dss_nil)
    (dss_one (ds_ret (dp_var (pv 3))))))) dss_nil)
    (dss_cons (ds_asg sc_law_draw.nd rfl (by first | exact Or.inl rfl | exact Or.inr rfl) (dp_mod (dp_callV1 (calls1_t call_int1 (by rfl) T.n_int (by decide +kernel)) bv_int (da_cons (dp_add (dp_add (dp_mul (dp_ix (dq_own (pv 0)) dp_int (fun _ _ => rfl)) dp_int) (dp_mul (dp_ix (dq_own (pv 0)) dp_int (fun _ _ => rfl)) dp_int)) dp_int) da_nil)) dp_int))
    (dss_cons (ds_asg sc_law_draw.nd rfl (by first | exact Or.inl rfl | exact Or.inr rfl) (dp_mod (dp_callV1 (calls1_t call_int1 (by rfl) T.n_int (by decide +kernel)) bv_int (da_cons (dp_add (dp_add (dp_mul (dp_var (pv 4)) (dp_var (pv 4))) (dp_mul (dp_ix (dq_own (pv 0)) dp_int (fun _ _ => rfl)) dp_int)) (dp_ix (dq_own (pv 0)) dp_int (fun _ _ => rfl))) da_nil)) dp_int))
    (dss_one (ds_ret (dp_mod (dp_callV1 (calls1_t call_int1 (by rfl) T.n_int (by decide +kernel)) bv_int (da_cons (dp_var (pv 4)) da_nil)) (dp_var (pv 1)))))))))) )
theorem ok_law_truth (T : Txt K mg) : FnOk P w K mg base CX0 1 T.a_law_truth T.fd_law_truth ["told", "due"] (SpF K den_law_truth) :=
  ok_fn (N := ["told", "due"]) (ps := ["told", "due"]) (d := bod_law_truth) T.F_law_truth sc_law_truth fun cdv A outer s H E hr => (
    (dss_cons (ds_if (dt_tru (dp_var (pv 1))) (dss_one (ds_ret (dp_isB (dp_var (pv 0)) dp_bl))) dss_nil)
    (dss_one (ds_ret (dp_isB (dp_var (pv 0)) dp_bl)))) )
theorem ok_law_net (T : Txt K mg) : FnOk P w K mg base CX0 2 T.a_law_net T.fd_law_net ["state", "most", "wide"] (SpX K den_law_net) :=
  ok_fnX (N := ["state", "most", "wide", "names", "supplies", "arcs", "k", "tail", "head", "low", "high", "nodes", "name"]) (ps := ["state", "most", "wide"]) (d := bod_law_net) T.F_law_net sc_law_net fun cdv A outer s H E hr => (
    (dss_cons (ds_asgE sc_law_net.nd rfl (by first | exact Or.inl rfl | exact Or.inr rfl) (de_cut (dp_l (dl_lst (da_cons dp_str (da_cons dp_str (da_cons dp_str (da_cons dp_str (da_cons dp_str (da_cons dp_str da_nil)))))))) doe_none (doe_some (de_add (de_p dp_int) (de_callX (ok_law_draw T) (hr.mono (by decide)) (by rfl) T.m_law_draw T.F_law_draw.kp T.b_law_draw (pv 0) (da_cons (dp_sub (dp_var (pv 1)) dp_int) da_nil))))))
    (dss_cons (ds_asgOE sc_law_net.nd rfl (by first | exact Or.inl rfl | exact Or.inr rfl) (dle_comp (own' := [("name", 12)]) rfl sc_law_net.nd (di_seq (dp_var (pv 3))) (blkOk_by (by first | decide +kernel | exact rfl)) (by decide) (fun _ _ _ _ _ => (dg_nm (pg_name (i := 12) sc_law_net.nd rfl (by first | exact Or.inl rfl | exact Or.inr rfl)))) (fun _ _ _ _ _ => dtse_nil) (fun _ _ _ _ _ => (de_sub (de_callX (ok_law_draw T) (hr.mono (by decide)) (by rfl) T.m_law_draw T.F_law_draw.kp T.b_law_draw (pv 0) (da_cons dp_int da_nil)) (de_p dp_int)))))
    (dss_cons (ds_ifE (dte_gt (de_callX (ok_law_draw T) (hr.mono (by decide)) (by rfl) T.m_law_draw T.F_law_draw.kp T.b_law_draw (pv 0) (da_cons dp_int da_nil)) (de_p dp_int)) (dss_one (ds_setIx (pv 4) (dp_sub (dp_callQ (calls1_b call_len_seq (by rfl) T.n_len (by decide +kernel)) bq_len (dq_own (pv 4))) dp_int) (dp_sub dp_int (dp_callQl (calls1_b (cr_sum rfl) (by rfl) T.n_sum (by decide +kernel)) bq_sum (dql_l (dl_slice (dql_own (pv 4)) do_none (do_some (dp_sub (dp_callQ (calls1_b call_len_seq (by rfl) T.n_len (by decide +kernel)) bq_len (dq_own (pv 4))) dp_int)))))))) dss_nil)
    (dss_cons (ds_asgO sc_law_net.nd rfl (by first | exact Or.inl rfl | exact Or.inr rfl) (dl_lst da_nil))
    (dss_cons (ds_forE PassesOwn.never rfl (die_rng1 (by rfl) T.n_range (de_callX (ok_law_draw T) (hr.mono (by decide)) (by rfl) T.m_law_draw T.F_law_draw.kp T.b_law_draw (pv 0) (da_cons (dp_mul dp_int (dp_var (pv 1))) da_nil))) (dg_nm (pg_name (i := 6) sc_law_net.nd rfl (by first | exact Or.inl rfl | exact Or.inr rfl))) (dss_cons (ds_asgE sc_law_net.nd rfl (by first | exact Or.inl rfl | exact Or.inr rfl) (de_callX (ok_law_draw T) (hr.mono (by decide)) (by rfl) T.m_law_draw T.F_law_draw.kp T.b_law_draw (pv 0) (da_cons (dp_callQ (calls1_b call_len_seq (by rfl) T.n_len (by decide +kernel)) bq_len (dq_p (dp_var (pv 3)))) da_nil)))
    (dss_cons (ds_asgE sc_law_net.nd rfl (by first | exact Or.inl rfl | exact Or.inr rfl) (de_mod (de_callV1 (calls1_t call_int1 (by rfl) T.n_int (by decide +kernel)) bv_int (dae_cons (de_add (de_p (dp_add (dp_var (pv 7)) dp_int)) (de_callX (ok_law_draw T) (hr.mono (by decide)) (by rfl) T.m_law_draw T.F_law_draw.kp T.b_law_draw (pv 0) (da_cons (dp_sub (dp_callQ (calls1_b call_len_seq (by rfl) T.n_len (by decide +kernel)) bq_len (dq_p (dp_var (pv 3)))) dp_int) da_nil))) dae_nil)) (de_p (dp_callQ (calls1_b call_len_seq (by rfl) T.n_len (by decide +kernel)) bq_len (dq_p (dp_var (pv 3)))))))
    (dss_cons (ds_asgE sc_law_net.nd rfl (by first | exact Or.inl rfl | exact Or.inr rfl) (de_callV1 (calls1_t call_int1 (by rfl) T.n_int (by decide +kernel)) bv_int (dae_cons (de_eq hr.units (de_callX (ok_law_draw T) (hr.mono (by decide)) (by rfl) T.m_law_draw T.F_law_draw.kp T.b_law_draw (pv 0) (da_cons dp_int da_nil)) (de_p dp_int)) dae_nil)))
    (dss_cons (ds_asgE sc_law_net.nd rfl (by first | exact Or.inl rfl | exact Or.inr rfl) (de_add (de_p (dp_var (pv 9))) (de_callX (ok_law_draw T) (hr.mono (by decide)) (by rfl) T.m_law_draw T.F_law_draw.kp T.b_law_draw (pv 0) (da_cons dp_int da_nil))))
    (dss_cons (ds_ifE (dte_w (dwe_and (dte_t (dt_tru (dp_var (pv 2)))) (dwe_and1 (dte_eq hr.units (de_callX (ok_law_draw T) (hr.mono (by decide)) (by rfl) T.m_law_draw T.F_law_draw.kp T.b_law_draw (pv 0) (da_cons dp_int da_nil)) (de_p dp_int))))) (dss_one (ds_asg sc_law_net.nd rfl (by first | exact Or.inl rfl | exact Or.inr rfl) dp_non)) dss_nil)
    (dss_one (ds_appendE (pv 5) (de_tup (dae_cons (de_p (dp_add dp_str (dp_callV1 (calls1_t call_str_int (by rfl) T.n_str (by decide +kernel)) bv_str (da_cons (dp_var (pv 6)) da_nil)))) (dae_cons (de_p (dp_ix (dq_p (dp_var (pv 3))) (dp_var (pv 7)) (fun _ _ => rfl))) (dae_cons (de_p (dp_ix (dq_p (dp_var (pv 3))) (dp_var (pv 8)) (fun _ _ => rfl))) (dae_cons (de_p (dp_var (pv 9))) (dae_cons (de_p (dp_var (pv 10))) (dae_cons (de_sub (de_callX (ok_law_draw T) (hr.mono (by decide)) (by rfl) T.m_law_draw T.F_law_draw.kp T.b_law_draw (pv 0) (da_cons dp_int da_nil)) (de_p dp_int)) dae_nil)))))))))))))))
    (dss_cons (ds_asg sc_law_net.nd rfl (by first | exact Or.inl rfl | exact Or.inr rfl) (dp_callQl (calls1_t call_tuple_of (by rfl) T.n_tuple (by decide +kernel)) bq_tuple (dql_l (dl_comp (own' := [("k", 6)]) rfl sc_law_net.nd (dc_i (di_rng1 (by rfl) T.n_range (dp_callQ (calls1_b call_len_seq (by rfl) T.n_len (by decide +kernel)) bq_len (dq_p (dp_var (pv 3)))))) (blkOk_by (by first | decide +kernel | exact rfl)) (by decide) (fun _ _ _ _ _ => (dg_nm (pg_name (i := 6) sc_law_net.nd rfl (by first | exact Or.inl rfl | exact Or.inr rfl)))) (fun _ _ _ _ _ => dts_nil) (fun _ _ _ _ _ => (dp_tup (da_cons (dp_ix (dq_p (dp_var (pv 3))) (dp_var (pv 6)) (fun _ _ => rfl)) (da_cons (dp_ix (dq_own (pv 4)) (dp_var (pv 6)) (fun _ _ => rfl)) da_nil))))))))
    (dss_one (ds_ret (dp_tup (da_cons dp_str (da_cons (dp_var (pv 11)) (da_cons (dp_callQl (calls1_t call_tuple_of (by rfl) T.n_tuple (by decide +kernel)) bq_tuple (dql_own (pv 5))) da_nil)))))))))))) )
theorem ok_law_rest (T : Txt K mg) : FnOk P w K mg base CX0 1 T.a_law_rest T.fd_law_rest ["net", "flow"] (SpF K den_law_rest) :=
  ok_fn (N := ["net", "flow", "names", "rest", "k", "name", "supply"]) (ps := ["net", "flow"]) (d := bod_law_rest) T.F_law_rest sc_law_rest fun cdv A outer s H E hr => (
    (dss_cons (ds_asgFc (own' := [("name", 5), ("supply", 6)]) rfl sc_law_rest.nd rfl rfl (sw_true rfl rfl rfl (by decide +kernel)) (dc_i (di_seq (dp_ix (dq_p (dp_var (pv 0))) dp_int (fun _ _ => rfl)))) (blkOk_by (by first | decide +kernel | exact rfl)) (by decide) (fun _ _ _ _ _ => (dg_tp rfl (dgs_cons (dg_nm (pg_name (i := 5) sc_law_rest.nd rfl (by first | exact Or.inl rfl | exact Or.inr rfl))) (dgs_cons (dg_nm (pg_name (i := 6) sc_law_rest.nd rfl (by first | exact Or.inl rfl | exact Or.inr rfl))) dgs_nil)))) (fun _ _ _ _ _ => dts_nil) (fun _ _ _ _ _ => (dp_var (pv 5))))
    (dss_cons (ds_asgOc (own' := [("name", 5), ("supply", 6)]) rfl sc_law_rest.nd rfl rfl (sw_true rfl rfl rfl (by decide +kernel)) (dc_i (di_seq (dp_ix (dq_p (dp_var (pv 0))) dp_int (fun _ _ => rfl)))) (blkOk_by (by first | decide +kernel | exact rfl)) (by decide) (fun _ _ _ _ _ => (dg_tp rfl (dgs_cons (dg_nm (pg_name (i := 5) sc_law_rest.nd rfl (by first | exact Or.inl rfl | exact Or.inr rfl))) (dgs_cons (dg_nm (pg_name (i := 6) sc_law_rest.nd rfl (by first | exact Or.inl rfl | exact Or.inr rfl))) dgs_nil)))) (fun _ _ _ _ _ => dts_nil) (fun _ _ _ _ _ => (dp_var (pv 6))))
    (dss_cons (ds_for PassesOwn.never rfl (di_rng1 (by rfl) T.n_range (dp_callQ (calls1_b call_len_seq (by rfl) T.n_len (by decide +kernel)) bq_len (dq_p (dp_ix (dq_p (dp_var (pv 0))) dp_int (fun _ _ => rfl))))) (dg_nm (pg_name (i := 4) sc_law_rest.nd rfl (by first | exact Or.inl rfl | exact Or.inr rfl))) (dss_cons (ds_setIx (pv 3) (dp_index (dql_p (dp_var (pv 2))) (dp_ix (dq_p (dp_ix (dq_p (dp_ix (dq_p (dp_var (pv 0))) dp_int (fun _ _ => rfl))) (dp_var (pv 4)) (fun _ _ => rfl))) dp_int (fun _ _ => rfl))) (dp_sub (dp_ix (dq_own (pv 3)) (dp_index (dql_p (dp_var (pv 2))) (dp_ix (dq_p (dp_ix (dq_p (dp_ix (dq_p (dp_var (pv 0))) dp_int (fun _ _ => rfl))) (dp_var (pv 4)) (fun _ _ => rfl))) dp_int (fun _ _ => rfl))) (fun _ _ => rfl)) (dp_ix (dq_p (dp_var (pv 1))) (dp_var (pv 4)) (fun _ _ => rfl))))
    (dss_one (ds_setIx (pv 3) (dp_index (dql_p (dp_var (pv 2))) (dp_ix (dq_p (dp_ix (dq_p (dp_ix (dq_p (dp_var (pv 0))) dp_int (fun _ _ => rfl))) (dp_var (pv 4)) (fun _ _ => rfl))) dp_int (fun _ _ => rfl))) (dp_add (dp_ix (dq_own (pv 3)) (dp_index (dql_p (dp_var (pv 2))) (dp_ix (dq_p (dp_ix (dq_p (dp_ix (dq_p (dp_var (pv 0))) dp_int (fun _ _ => rfl))) (dp_var (pv 4)) (fun _ _ => rfl))) dp_int (fun _ _ => rfl))) (fun _ _ => rfl)) (dp_ix (dq_p (dp_var (pv 1))) (dp_var (pv 4)) (fun _ _ => rfl)))))))
    (dss_one (ds_retO (pv 3)))))) )
theorem ok_law_sets (T : Txt K mg) : FnOk P w K mg base CX0 1 T.a_law_sets T.fd_law_sets ["net"] (SpF K den_law_sets) :=
  ok_fn (N := ["net", "names", "rows", "name", "supply", "row"]) (ps := ["net"]) (d := bod_law_sets) T.F_law_sets sc_law_sets fun cdv A outer s H E hr => (
    (dss_cons (ds_asgFc (own' := [("name", 3), ("supply", 4)]) rfl sc_law_sets.nd rfl rfl (sw_true rfl rfl rfl (by decide +kernel)) (dc_i (di_seq (dp_ix (dq_p (dp_var (pv 0))) dp_int (fun _ _ => rfl)))) (blkOk_by (by first | decide +kernel | exact rfl)) (by decide) (fun _ _ _ _ _ => (dg_tp rfl (dgs_cons (dg_nm (pg_name (i := 3) sc_law_sets.nd rfl (by first | exact Or.inl rfl | exact Or.inr rfl))) (dgs_cons (dg_nm (pg_name (i := 4) sc_law_sets.nd rfl (by first | exact Or.inl rfl | exact Or.inr rfl))) dgs_nil)))) (fun _ _ _ _ _ => dts_nil) (fun _ _ _ _ _ => (dp_var (pv 3))))
    (dss_cons (ds_asgO sc_law_sets.nd rfl (by first | exact Or.inl rfl | exact Or.inr rfl) (dl_lst (da_cons (dp_tup da_nil) da_nil)))
    (dss_cons (ds_for PassesOwn.never rfl (di_seq (dp_var (pv 1))) (dg_nm (pg_name (i := 3) sc_law_sets.nd rfl (by first | exact Or.inl rfl | exact Or.inr rfl))) (dss_one (ds_asgO sc_law_sets.nd rfl (by first | exact Or.inl rfl | exact Or.inr rfl) (dl_cat (pv 2) (dl_comp (own' := [("row", 5)]) rfl sc_law_sets.nd (dc_list (dql_own (pv 2))) (blkOk_by (by first | decide +kernel | exact rfl)) (by decide) (fun _ _ _ _ _ => (dg_nm (pg_name (i := 5) sc_law_sets.nd rfl (by first | exact Or.inl rfl | exact Or.inr rfl)))) (fun _ _ _ _ _ => dts_nil) (fun _ _ _ _ _ => (dp_add (dp_var (pv 5)) (dp_tup (da_cons (dp_var (pv 3)) da_nil)))))))))
    (dss_one (ds_retO (pv 2)))))) )
theorem ok_law_gap (T : Txt K mg) : FnOk P w K mg base CX0 1 T.a_law_gap T.fd_law_gap ["net", "nodes", "sign"] (SpF K den_law_gap) :=
  ok_fn (N := ["net", "nodes", "sign", "total", "name", "tail", "head", "low", "high", "price", "out", "into", "supply"]) (ps := ["net", "nodes", "sign"]) (d := bod_law_gap) T.F_law_gap sc_law_gap fun cdv A outer s H E hr => (
    (dss_cons (ds_asg sc_law_gap.nd rfl (by first | exact Or.inl rfl | exact Or.inr rfl) (dp_callQl (calls1_b (cr_sum rfl) (by rfl) T.n_sum (by decide +kernel)) bq_sum (dql_l (dl_comp (own' := [("name", 4), ("supply", 12)]) rfl sc_law_gap.nd (dc_i (di_seq (dp_ix (dq_p (dp_var (pv 0))) dp_int (fun _ _ => rfl)))) (blkOk_by (by first | decide +kernel | exact rfl)) (by decide) (fun _ _ _ _ _ => (dg_tp rfl (dgs_cons (dg_nm (pg_name (i := 4) sc_law_gap.nd rfl (by first | exact Or.inl rfl | exact Or.inr rfl))) (dgs_cons (dg_nm (pg_name (i := 12) sc_law_gap.nd rfl (by first | exact Or.inl rfl | exact Or.inr rfl))) dgs_nil)))) (fun _ _ _ _ _ => (dts_one (dt_in (dp_var (pv 4)) (dq_p (dp_var (pv 1)))))) (fun _ _ _ _ _ => (dp_mul (dp_var (pv 2)) (dp_var (pv 12))))))))
    (dss_cons (ds_for PassesOwn.never rfl (di_seq (dp_ix (dq_p (dp_var (pv 0))) dp_int (fun _ _ => rfl))) (dg_tp rfl (dgs_cons (dg_nm (pg_name (i := 4) sc_law_gap.nd rfl (by first | exact Or.inl rfl | exact Or.inr rfl))) (dgs_cons (dg_nm (pg_name (i := 5) sc_law_gap.nd rfl (by first | exact Or.inl rfl | exact Or.inr rfl))) (dgs_cons (dg_nm (pg_name (i := 6) sc_law_gap.nd rfl (by first | exact Or.inl rfl | exact Or.inr rfl))) (dgs_cons (dg_nm (pg_name (i := 7) sc_law_gap.nd rfl (by first | exact Or.inl rfl | exact Or.inr rfl))) (dgs_cons (dg_nm (pg_name (i := 8) sc_law_gap.nd rfl (by first | exact Or.inl rfl | exact Or.inr rfl))) (dgs_cons (dg_nm (pg_name (i := 9) sc_law_gap.nd rfl (by first | exact Or.inl rfl | exact Or.inr rfl))) dgs_nil))))))) (dss_cons (ds_asg sc_law_gap.nd rfl (by first | exact Or.inl rfl | exact Or.inr rfl) (dp_andT (dp_in (dp_var (pv 5)) (dq_p (dp_var (pv 1)))) (dp_one (dp_notin (dp_var (pv 6)) (dq_p (dp_var (pv 1)))))))
    (dss_cons (ds_asg sc_law_gap.nd rfl (by first | exact Or.inl rfl | exact Or.inr rfl) (dp_andT (dp_in (dp_var (pv 6)) (dq_p (dp_var (pv 1)))) (dp_one (dp_notin (dp_var (pv 5)) (dq_p (dp_var (pv 1)))))))
    (dss_cons (ds_if (dt_eq hr.units (dp_var (pv 2)) (dp_neg dp_int)) (dss_one (ds_par rfl sc_law_gap.nd rfl rfl (by decide) rfl rfl (da_cons (dp_var (pv 11)) (da_cons (dp_var (pv 10)) da_nil)) (by rfl))) dss_nil)
    (dss_cons (ds_if (dt_tru (dp_var (pv 11))) (dss_one (ds_asg sc_law_gap.nd rfl (by first | exact Or.inl rfl | exact Or.inr rfl) (dp_add (dp_var (pv 3)) (dp_var (pv 7))))) dss_nil)
    (dss_one (ds_if (dt_tru (dp_var (pv 10))) (dss_cons (ds_if (dt_isN (dp_var (pv 8)) dp_non) (dss_one (ds_ret dp_non)) dss_nil)
    (dss_one (ds_asg sc_law_gap.nd rfl (by first | exact Or.inl rfl | exact Or.inr rfl) (dp_sub (dp_var (pv 3)) (dp_var (pv 8)))))) dss_nil)))))))
    (dss_one (ds_ret (dp_var (pv 3)))))) )
theorem ok_law_never (T : Txt K mg) : FnOk P w K mg base CX0 2 T.a_law_never T.fd_law_never ["net"] (SpF K den_law_never) :=
  ok_fn (N := ["net", "sign", "best", "nodes", "gap"]) (ps := ["net"]) (d := bod_law_never) T.F_law_never sc_law_never fun cdv A outer s H E hr => (
    (dss_cons (ds_for PassesOwn.never rfl (di_seq (dp_l (dl_lst (da_cons dp_int (da_cons (dp_neg dp_int) da_nil))))) (dg_nm (pg_name (i := 1) sc_law_never.nd rfl (by first | exact Or.inl rfl | exact Or.inr rfl))) (dss_cons (ds_asg sc_law_never.nd rfl (by first | exact Or.inl rfl | exact Or.inr rfl) dp_non)
    (dss_cons (ds_for PassesOwn.never rfl (di_seq (dp_l (dl_call (ok_law_sets T) (hr.mono (by decide)) (by rfl) T.m_law_sets T.F_law_sets.kp T.b_law_sets (da_cons (dp_var (pv 0)) da_nil)))) (dg_nm (pg_name (i := 3) sc_law_never.nd rfl (by first | exact Or.inl rfl | exact Or.inr rfl))) (dss_cons (ds_asg sc_law_never.nd rfl (by first | exact Or.inl rfl | exact Or.inr rfl) (dp_call (ok_law_gap T) (hr.mono (by decide)) (by rfl) T.m_law_gap T.F_law_gap.kp T.b_law_gap (da_cons (dp_var (pv 0)) (da_cons (dp_var (pv 3)) (da_cons (dp_var (pv 1)) da_nil)))))
    (dss_one (ds_if (dt_w (dw_and (dt_notN (dp_var (pv 4)) dp_non) (dw_and (dt_gt (dp_var (pv 4)) dp_int) (dw_and1 (dt_w (dw_or (dt_isN (dp_var (pv 2)) dp_non) (dw_or (dt_gt (dp_var (pv 4)) (dp_ix (dq_p (dp_var (pv 2))) dp_int (fun _ _ => rfl))) (dw_or1 (dt_w (dw_and (dt_eq hr.units (dp_var (pv 4)) (dp_ix (dq_p (dp_var (pv 2))) dp_int (fun _ _ => rfl))) (dw_and1 (dt_lt (dp_callQ (calls1_b call_len_seq (by rfl) T.n_len (by decide +kernel)) bq_len (dq_p (dp_var (pv 3)))) (dp_callQ (calls1_b call_len_seq (by rfl) T.n_len (by decide +kernel)) bq_len (dq_p (dp_ix (dq_p (dp_var (pv 2))) dp_int (fun _ _ => rfl)))))))))))))))) (dss_one (ds_asg sc_law_never.nd rfl (by first | exact Or.inl rfl | exact Or.inr rfl) (dp_tup (da_cons (dp_var (pv 4)) (da_cons (dp_var (pv 3)) da_nil))))) dss_nil))))
    (dss_one (ds_if (dt_notN (dp_var (pv 2)) dp_non) (dss_one (ds_ret (dp_tup (da_cons dp_str (da_cons (dp_ix (dq_p (dp_var (pv 2))) dp_int (fun _ _ => rfl)) (da_cons (dp_ix (dq_l (dl_lst (da_cons dp_str (da_cons dp_str da_nil)))) (dp_callV1 (calls1_t call_int1 (by rfl) T.n_int (by decide +kernel)) bv_int (da_cons (dp_eq hr.units (dp_var (pv 1)) dp_int) da_nil)) (fun _ _ => rfl)) (da_cons (dp_callQl (calls1_t call_tuple_of (by rfl) T.n_tuple (by decide +kernel)) bq_tuple (dql_l (dl_callQ (calls1_b cr_sortedQS (by rfl) T.n_sorted (by decide +kernel)) bl_sortS (dq_p (dp_ix (dq_p (dp_var (pv 2))) dp_int (fun _ _ => rfl)))))) da_nil))))))) dss_nil)))))
    (dss_one (ds_ret dp_non))) )
theorem ok_law_steps (T : Txt K mg) : FnOk P w K mg base CX0 1 T.a_law_steps T.fd_law_steps ["net", "flow"] (SpF K den_law_steps) :=
  ok_fn (N := ["net", "flow", "names", "found", "k", "name", "tail", "head", "low", "high", "price", "i", "j", "supply"]) (ps := ["net", "flow"]) (d := bod_law_steps) T.F_law_steps sc_law_steps fun cdv A outer s H E hr => (
    (dss_cons (ds_asgFc (own' := [("name", 5), ("supply", 13)]) rfl sc_law_steps.nd rfl rfl (sw_true rfl rfl rfl (by decide +kernel)) (dc_i (di_seq (dp_ix (dq_p (dp_var (pv 0))) dp_int (fun _ _ => rfl)))) (blkOk_by (by first | decide +kernel | exact rfl)) (by decide) (fun _ _ _ _ _ => (dg_tp rfl (dgs_cons (dg_nm (pg_name (i := 5) sc_law_steps.nd rfl (by first | exact Or.inl rfl | exact Or.inr rfl))) (dgs_cons (dg_nm (pg_name (i := 13) sc_law_steps.nd rfl (by first | exact Or.inl rfl | exact Or.inr rfl))) dgs_nil)))) (fun _ _ _ _ _ => dts_nil) (fun _ _ _ _ _ => (dp_var (pv 5))))
    (dss_cons (ds_asgO sc_law_steps.nd rfl (by first | exact Or.inl rfl | exact Or.inr rfl) (dl_lst da_nil))
    (dss_cons (ds_for PassesOwn.never rfl (di_rng1 (by rfl) T.n_range (dp_callQ (calls1_b call_len_seq (by rfl) T.n_len (by decide +kernel)) bq_len (dq_p (dp_ix (dq_p (dp_var (pv 0))) dp_int (fun _ _ => rfl))))) (dg_nm (pg_name (i := 4) sc_law_steps.nd rfl (by first | exact Or.inl rfl | exact Or.inr rfl))) (dss_cons (ds_tgt (dp_ix (dq_p (dp_ix (dq_p (dp_var (pv 0))) dp_int (fun _ _ => rfl))) (dp_var (pv 4)) (fun _ _ => rfl)) (dg_tp rfl (dgs_cons (dg_nm (pg_name (i := 5) sc_law_steps.nd rfl (by first | exact Or.inl rfl | exact Or.inr rfl))) (dgs_cons (dg_nm (pg_name (i := 6) sc_law_steps.nd rfl (by first | exact Or.inl rfl | exact Or.inr rfl))) (dgs_cons (dg_nm (pg_name (i := 7) sc_law_steps.nd rfl (by first | exact Or.inl rfl | exact Or.inr rfl))) (dgs_cons (dg_nm (pg_name (i := 8) sc_law_steps.nd rfl (by first | exact Or.inl rfl | exact Or.inr rfl))) (dgs_cons (dg_nm (pg_name (i := 9) sc_law_steps.nd rfl (by first | exact Or.inl rfl | exact Or.inr rfl))) (dgs_cons (dg_nm (pg_name (i := 10) sc_law_steps.nd rfl (by first | exact Or.inl rfl | exact Or.inr rfl))) dgs_nil))))))))
    (dss_cons (ds_asg sc_law_steps.nd rfl (by first | exact Or.inl rfl | exact Or.inr rfl) (dp_index (dql_p (dp_var (pv 2))) (dp_var (pv 6))))
    (dss_cons (ds_asg sc_law_steps.nd rfl (by first | exact Or.inl rfl | exact Or.inr rfl) (dp_index (dql_p (dp_var (pv 2))) (dp_var (pv 7))))
    (dss_cons (ds_if (dt_isN (dp_var (pv 9)) dp_non) (dss_one (ds_append (pv 3) (dp_tup (da_cons (dp_var (pv 11)) (da_cons (dp_var (pv 12)) (da_cons (dp_var (pv 4)) (da_cons dp_int (da_cons dp_non (da_cons (dp_var (pv 10)) da_nil))))))))) (dss_one (ds_if (dt_lt (dp_ix (dq_p (dp_var (pv 1))) (dp_var (pv 4)) (fun _ _ => rfl)) (dp_var (pv 9))) (dss_one (ds_append (pv 3) (dp_tup (da_cons (dp_var (pv 11)) (da_cons (dp_var (pv 12)) (da_cons (dp_var (pv 4)) (da_cons dp_int (da_cons (dp_sub (dp_var (pv 9)) (dp_ix (dq_p (dp_var (pv 1))) (dp_var (pv 4)) (fun _ _ => rfl))) (da_cons (dp_var (pv 10)) da_nil))))))))) dss_nil)))
    (dss_one (ds_if (dt_gt (dp_ix (dq_p (dp_var (pv 1))) (dp_var (pv 4)) (fun _ _ => rfl)) (dp_var (pv 8))) (dss_one (ds_append (pv 3) (dp_tup (da_cons (dp_var (pv 12)) (da_cons (dp_var (pv 11)) (da_cons (dp_var (pv 4)) (da_cons (dp_neg dp_int) (da_cons (dp_sub (dp_ix (dq_p (dp_var (pv 1))) (dp_var (pv 4)) (fun _ _ => rfl)) (dp_var (pv 8))) (da_cons (dp_sub dp_int (dp_var (pv 10))) da_nil))))))))) dss_nil)))))))
    (dss_one (ds_retO (pv 3)))))) )
theorem ok_law_close (T : Txt K mg) : FnOk P w K mg base CX0 1 T.a_law_close T.fd_law_close ["steps", "starts", "back"] (SpF K den_law_close) :=
  ok_fn (N := ["steps", "starts", "back", "found", "turn", "step"]) (ps := ["steps", "starts", "back"]) (d := bod_law_close) T.F_law_close sc_law_close fun cdv A outer s H E hr => (
    (dss_cons (ds_asgO sc_law_close.nd rfl (by first | exact Or.inl rfl | exact Or.inr rfl) (dl_callQl (calls1_b cr_sortedI (by rfl) T.n_sorted (by decide +kernel)) bl_sort (dql_p (dp_var (pv 1)))))
    (dss_cons (ds_for PassesOwn.never rfl (di_rng1 (by rfl) T.n_range dp_int) (dg_nm (pg_name (i := 4) sc_law_close.nd rfl (by first | exact Or.inl rfl | exact Or.inr rfl))) (dss_one (ds_for PassesOwn.never rfl (di_seq (dp_var (pv 0))) (dg_nm (pg_name (i := 5) sc_law_close.nd rfl (by first | exact Or.inl rfl | exact Or.inr rfl))) (dss_one (ds_if (dt_w (dw_and (dt_in (dp_ix (dq_p (dp_var (pv 5))) (dp_callV1 (calls1_t call_int1 (by rfl) T.n_int (by decide +kernel)) bv_int (da_cons (dp_var (pv 2)) da_nil)) (fun _ _ => rfl)) (dq_own (pv 3))) (dw_and1 (dt_notin (dp_ix (dq_p (dp_var (pv 5))) (dp_sub dp_int (dp_callV1 (calls1_t call_int1 (by rfl) T.n_int (by decide +kernel)) bv_int (da_cons (dp_var (pv 2)) da_nil))) (fun _ _ => rfl)) (dq_own (pv 3)))))) (dss_one (ds_append (pv 3) (dp_ix (dq_p (dp_var (pv 5))) (dp_sub dp_int (dp_callV1 (calls1_t call_int1 (by rfl) T.n_int (by decide +kernel)) bv_int (da_cons (dp_var (pv 2)) da_nil))) (fun _ _ => rfl)))) dss_nil)))))
    (dss_one (ds_retL (dl_callQl (calls1_b cr_sortedI (by rfl) T.n_sorted (by decide +kernel)) bl_sort (dql_own (pv 3))))))) )
theorem ok_law_inside (T : Txt K mg) : FnOk P w K mg base CX0 2 T.a_law_inside T.fd_law_inside ["state", "net"] (SpX K den_law_inside) :=
  ok_fnX (N := ["state", "net", "row", "name", "tail", "head", "low", "high", "price", "top"]) (ps := ["state", "net"]) (d := bod_law_inside) T.F_law_inside sc_law_inside fun cdv A outer s H E hr => (
    (dss_cons (ds_asgO sc_law_inside.nd rfl (by first | exact Or.inl rfl | exact Or.inr rfl) (dl_lst da_nil))
    (dss_cons (ds_for PassesOwn.never rfl (di_seq (dp_ix (dq_p (dp_var (pv 1))) dp_int (fun _ _ => rfl))) (dg_tp rfl (dgs_cons (dg_nm (pg_name (i := 3) sc_law_inside.nd rfl (by first | exact Or.inl rfl | exact Or.inr rfl))) (dgs_cons (dg_nm (pg_name (i := 4) sc_law_inside.nd rfl (by first | exact Or.inl rfl | exact Or.inr rfl))) (dgs_cons (dg_nm (pg_name (i := 5) sc_law_inside.nd rfl (by first | exact Or.inl rfl | exact Or.inr rfl))) (dgs_cons (dg_nm (pg_name (i := 6) sc_law_inside.nd rfl (by first | exact Or.inl rfl | exact Or.inr rfl))) (dgs_cons (dg_nm (pg_name (i := 7) sc_law_inside.nd rfl (by first | exact Or.inl rfl | exact Or.inr rfl))) (dgs_cons (dg_nm (pg_name (i := 8) sc_law_inside.nd rfl (by first | exact Or.inl rfl | exact Or.inr rfl))) dgs_nil))))))) (dss_cons (ds_asg sc_law_inside.nd rfl (by first | exact Or.inl rfl | exact Or.inr rfl) dp_int)
    (dss_cons (ds_if (dt_notN (dp_var (pv 7)) dp_non) (dss_one (ds_asg sc_law_inside.nd rfl (by first | exact Or.inl rfl | exact Or.inr rfl) (dp_add (dp_sub (dp_var (pv 7)) (dp_var (pv 6))) dp_int))) dss_nil)
    (dss_one (ds_appendE (pv 2) (de_add (de_p (dp_var (pv 6))) (de_callX (ok_law_draw T) (hr.mono (by decide)) (by rfl) T.m_law_draw T.F_law_draw.kp T.b_law_draw (pv 0) (da_cons (dp_var (pv 9)) da_nil))))))))
    (dss_one (ds_ret (dp_callQl (calls1_t call_tuple_of (by rfl) T.n_tuple (by decide +kernel)) bq_tuple (dql_own (pv 2))))))) )
theorem ok_law_walks_hold (T : Txt K mg) : FnOk P w K mg base CX0 6 T.a_law_walks_hold T.fd_law_walks_hold ["state", "net"] (SpX K den_law_walks_hold) :=
  ok_fnX (N := ["state", "net", "flow", "steps", "starts", "met", "close", "marks", "goal", "way", "rooms", "room", "moved", "gap", "k", "step", "a", "b"]) (ps := ["state", "net"]) (d := bod_law_walks_hold) T.F_law_walks_hold sc_law_walks_hold fun cdv A outer s H E hr => (
    (dss_cons (ds_asgE sc_law_walks_hold.nd rfl (by first | exact Or.inl rfl | exact Or.inr rfl) (de_callX (ok_law_inside T) (hr.mono (by decide)) (by rfl) T.m_law_inside T.F_law_inside.kp T.b_law_inside (pv 0) (da_cons (dp_var (pv 1)) da_nil)))
    (dss_cons (ds_asg sc_law_walks_hold.nd rfl (by first | exact Or.inl rfl | exact Or.inr rfl) (dp_l (dl_call (ok_law_steps T) (hr.mono (by decide)) (by rfl) T.m_law_steps T.F_law_steps.kp T.b_law_steps (da_cons (dp_var (pv 1)) (da_cons (dp_var (pv 2)) da_nil)))))
    (dss_cons (ds_if (dt_w (dw_or (dt_ne hr.units (dp_l (dl_call (ok_steps_of T) (hr.mono (by decide)) (by rfl) T.m_steps_of T.F_steps_of.kp T.b_steps_of (da_cons (dp_var (pv 1)) (da_cons (dp_var (pv 2)) da_nil)))) (dp_var (pv 3))) (dw_or1 (dt_ne hr.units (dp_l (dl_call (ok_steps_by_start T) (hr.mono (by decide)) (by rfl) T.m_steps_by_start T.F_steps_by_start.kp T.b_steps_by_start (da_cons (dp_var (pv 1)) (da_cons (dp_var (pv 2)) da_nil)))) (dp_l (dl_comp (own' := [("k", 14)]) rfl sc_law_walks_hold.nd (dc_i (di_rng1 (by rfl) T.n_range (dp_callQ (calls1_b call_len_seq (by rfl) T.n_len (by decide +kernel)) bq_len (dq_p (dp_ix (dq_p (dp_var (pv 1))) dp_int (fun _ _ => rfl)))))) (blkOk_by (by first | decide +kernel | exact rfl)) (by decide) (fun _ _ _ _ _ => (dg_nm (pg_name (i := 14) sc_law_walks_hold.nd rfl (by first | exact Or.inl rfl | exact Or.inr rfl)))) (fun _ _ _ _ _ => dts_nil) (fun _ _ _ _ _ => (dp_l (dl_comp (own' := [("step", 15)]) rfl sc_law_walks_hold.nd (dc_i (di_seq (dp_var (pv 3)))) (blkOk_by (by first | decide +kernel | exact rfl)) (by decide) (fun _ _ _ _ _ => (dg_nm (pg_name (i := 15) sc_law_walks_hold.nd rfl (by first | exact Or.inl rfl | exact Or.inr rfl)))) (fun _ _ _ _ _ => (dts_one (dt_eq hr.units (dp_ix (dq_p (dp_var (pv 15))) dp_int (fun _ _ => rfl)) (dp_var (pv 14))))) (fun _ _ _ _ _ => (dp_var (pv 15)))))))))))) (dss_one (ds_ret dp_bl)) dss_nil)
    (dss_cons (ds_asgFcE (own' := [("k", 14)]) rfl sc_law_walks_hold.nd rfl rfl (sw_true rfl rfl rfl (by decide +kernel)) (di_rng1 (by rfl) T.n_range (dp_callQ (calls1_b call_len_seq (by rfl) T.n_len (by decide +kernel)) bq_len (dq_p (dp_ix (dq_p (dp_var (pv 1))) dp_int (fun _ _ => rfl))))) (blkOk_by (by first | decide +kernel | exact rfl)) (by decide) (fun _ _ _ _ _ => (dg_nm (pg_name (i := 14) sc_law_walks_hold.nd rfl (by first | exact Or.inl rfl | exact Or.inr rfl)))) (fun _ _ _ _ _ => (dtse_one (dte_eq hr.units (de_callX (ok_law_draw T) (hr.mono (by decide)) (by rfl) T.m_law_draw T.F_law_draw.kp T.b_law_draw (pv 0) (da_cons dp_int da_nil)) (de_p dp_int)))) (fun _ _ _ _ _ => (de_p (dp_var (pv 14)))))
    (dss_cons (ds_asg sc_law_walks_hold.nd rfl (by first | exact Or.inl rfl | exact Or.inr rfl) (dp_l (dl_call (ok_reached_from T) (hr.mono (by decide)) (by rfl) T.m_reached_from T.F_reached_from.kp T.b_reached_from (da_cons (dp_var (pv 1)) (da_cons (dp_var (pv 2)) (da_cons (dp_l (dl_callQ (calls1_t call_list_of (by rfl) T.n_list (by decide +kernel)) bl_list (dq_p (dp_var (pv 4))))) da_nil))))))
    (dss_cons (ds_asg sc_law_walks_hold.nd rfl (by first | exact Or.inl rfl | exact Or.inr rfl) (dp_l (dl_call (ok_law_close T) (hr.mono (by decide)) (by rfl) T.m_law_close T.F_law_close.kp T.b_law_close (da_cons (dp_var (pv 3)) (da_cons (dp_var (pv 4)) (da_cons dp_bl da_nil))))))
    (dss_cons (ds_if (dt_w (dw_or (dt_ne hr.units (dp_l (dl_comp (own' := [("k", 14)]) rfl sc_law_walks_hold.nd (dc_i (di_rng1 (by rfl) T.n_range (dp_callQ (calls1_b call_len_seq (by rfl) T.n_len (by decide +kernel)) bq_len (dq_p (dp_var (pv 5)))))) (blkOk_by (by first | decide +kernel | exact rfl)) (by decide) (fun _ _ _ _ _ => (dg_nm (pg_name (i := 14) sc_law_walks_hold.nd rfl (by first | exact Or.inl rfl | exact Or.inr rfl)))) (fun _ _ _ _ _ => (dts_one (dt_notN (dp_ix (dq_p (dp_var (pv 5))) (dp_var (pv 14)) (fun _ _ => rfl)) dp_non))) (fun _ _ _ _ _ => (dp_var (pv 14))))) (dp_var (pv 6))) (dw_or1 (dt_ne hr.units (dp_l (dl_comp (own' := [("k", 14)]) rfl sc_law_walks_hold.nd (dc_i (di_rng1 (by rfl) T.n_range (dp_callQ (calls1_b call_len_seq (by rfl) T.n_len (by decide +kernel)) bq_len (dq_p (dp_var (pv 5)))))) (blkOk_by (by first | decide +kernel | exact rfl)) (by decide) (fun _ _ _ _ _ => (dg_nm (pg_name (i := 14) sc_law_walks_hold.nd rfl (by first | exact Or.inl rfl | exact Or.inr rfl)))) (fun _ _ _ _ _ => (dts_one (dt_isB (dp_ix (dq_p (dp_var (pv 5))) (dp_var (pv 14)) (fun _ _ => rfl)) dp_bl))) (fun _ _ _ _ _ => (dp_var (pv 14))))) (dp_var (pv 4)))))) (dss_one (ds_ret dp_bl)) dss_nil)
    (dss_cons (ds_asg sc_law_walks_hold.nd rfl (by first | exact Or.inl rfl | exact Or.inr rfl) (dp_l (dl_call (ok_reaching T) (hr.mono (by decide)) (by rfl) T.m_reaching T.F_reaching.kp T.b_reaching (da_cons (dp_var (pv 1)) (da_cons (dp_var (pv 2)) (da_cons (dp_l (dl_callQ (calls1_t call_list_of (by rfl) T.n_list (by decide +kernel)) bl_list (dq_p (dp_var (pv 4))))) da_nil))))))
    (dss_cons (ds_if (dt_ne hr.units (dp_l (dl_comp (own' := [("k", 14)]) rfl sc_law_walks_hold.nd (dc_i (di_rng1 (by rfl) T.n_range (dp_callQ (calls1_b call_len_seq (by rfl) T.n_len (by decide +kernel)) bq_len (dq_p (dp_var (pv 7)))))) (blkOk_by (by first | decide +kernel | exact rfl)) (by decide) (fun _ _ _ _ _ => (dg_nm (pg_name (i := 14) sc_law_walks_hold.nd rfl (by first | exact Or.inl rfl | exact Or.inr rfl)))) (fun _ _ _ _ _ => (dts_one (dt_tru (dp_ix (dq_p (dp_var (pv 7))) (dp_var (pv 14)) (fun _ _ => rfl))))) (fun _ _ _ _ _ => (dp_var (pv 14))))) (dp_l (dl_call (ok_law_close T) (hr.mono (by decide)) (by rfl) T.m_law_close T.F_law_close.kp T.b_law_close (da_cons (dp_var (pv 3)) (da_cons (dp_var (pv 4)) (da_cons dp_bl da_nil)))))) (dss_one (ds_ret dp_bl)) dss_nil)
    (dss_cons (ds_for PassesOwn.never rfl (di_seq (dp_var (pv 6))) (dg_nm (pg_name (i := 8) sc_law_walks_hold.nd rfl (by first | exact Or.inl rfl | exact Or.inr rfl))) (dss_cons (ds_asg sc_law_walks_hold.nd rfl (by first | exact Or.inl rfl | exact Or.inr rfl) (dp_l (dl_call (ok_way_to T) (hr.mono (by decide)) (by rfl) T.m_way_to T.F_way_to.kp T.b_way_to (da_cons (dp_var (pv 5)) (da_cons (dp_var (pv 8)) da_nil)))))
    (dss_one (ds_if (dt_gt (dp_callQ (calls1_b call_len_seq (by rfl) T.n_len (by decide +kernel)) bq_len (dq_p (dp_var (pv 9)))) dp_int) (dss_cons (ds_if (dt_w (dw_or (dt_notin (dp_ix (dq_p (dp_ix (dq_p (dp_var (pv 9))) dp_int (fun _ _ => rfl))) dp_int (fun _ _ => rfl)) (dq_p (dp_var (pv 4)))) (dw_or (dt_ne hr.units (dp_ix (dq_p (dp_ix (dq_p (dp_var (pv 9))) (dp_sub (dp_callQ (calls1_b call_len_seq (by rfl) T.n_len (by decide +kernel)) bq_len (dq_p (dp_var (pv 9)))) dp_int) (fun _ _ => rfl))) dp_int (fun _ _ => rfl)) (dp_var (pv 8))) (dw_or1 (dt_gt (dp_callQ (calls1_b call_len_seq (by rfl) T.n_len (by decide +kernel)) bq_len (dq_l (dl_comp (own' := [("k", 14)]) rfl sc_law_walks_hold.nd (dc_i (di_rng2 (by rfl) T.n_range dp_int (dp_callQ (calls1_b call_len_seq (by rfl) T.n_len (by decide +kernel)) bq_len (dq_p (dp_var (pv 9)))))) (blkOk_by (by first | decide +kernel | exact rfl)) (by decide) (fun _ _ _ _ _ => (dg_nm (pg_name (i := 14) sc_law_walks_hold.nd rfl (by first | exact Or.inl rfl | exact Or.inr rfl)))) (fun _ _ _ _ _ => (dts_one (dt_ne hr.units (dp_ix (dq_p (dp_ix (dq_p (dp_var (pv 9))) (dp_var (pv 14)) (fun _ _ => rfl))) dp_int (fun _ _ => rfl)) (dp_ix (dq_p (dp_ix (dq_p (dp_var (pv 9))) (dp_sub (dp_var (pv 14)) dp_int) (fun _ _ => rfl))) dp_int (fun _ _ => rfl))))) (fun _ _ _ _ _ => (dp_var (pv 14)))))) dp_int))))) (dss_one (ds_ret dp_bl)) dss_nil)
    (dss_cons (ds_asgFc (own' := [("step", 15)]) rfl sc_law_walks_hold.nd rfl rfl (sw_true rfl rfl rfl (by decide +kernel)) (dc_i (di_seq (dp_var (pv 9)))) (blkOk_by (by first | decide +kernel | exact rfl)) (by decide) (fun _ _ _ _ _ => (dg_nm (pg_name (i := 15) sc_law_walks_hold.nd rfl (by first | exact Or.inl rfl | exact Or.inr rfl)))) (fun _ _ _ _ _ => (dts_one (dt_notN (dp_ix (dq_p (dp_var (pv 15))) dp_int (fun _ _ => rfl)) dp_non))) (fun _ _ _ _ _ => (dp_ix (dq_p (dp_var (pv 15))) dp_int (fun _ _ => rfl))))
    (dss_cons (ds_asg sc_law_walks_hold.nd rfl (by first | exact Or.inl rfl | exact Or.inr rfl) dp_non)
    (dss_cons (ds_if (dt_gt (dp_callQ (calls1_b call_len_seq (by rfl) T.n_len (by decide +kernel)) bq_len (dq_p (dp_var (pv 10)))) dp_int) (dss_one (ds_asg sc_law_walks_hold.nd rfl (by first | exact Or.inl rfl | exact Or.inr rfl) (dp_callQl (calls1_b (cr_min rfl) (by rfl) T.n_min (by decide +kernel)) bq_min (dql_p (dp_var (pv 10)))))) dss_nil)
    (dss_cons (ds_if (dt_w (dw_or (dt_ne hr.units (dp_call (ok_room_along T) (hr.mono (by decide)) (by rfl) T.m_room_along T.F_room_along.kp T.b_room_along (da_cons (dp_var (pv 9)) da_nil)) (dp_var (pv 11))) (dw_or1 (dt_ne hr.units (dp_call (ok_price_along T) (hr.mono (by decide)) (by rfl) T.m_price_along T.F_price_along.kp T.b_price_along (da_cons (dp_var (pv 9)) da_nil)) (dp_callQl (calls1_b (cr_sum rfl) (by rfl) T.n_sum (by decide +kernel)) bq_sum (dql_l (dl_comp (own' := [("step", 15)]) rfl sc_law_walks_hold.nd (dc_i (di_seq (dp_var (pv 9)))) (blkOk_by (by first | decide +kernel | exact rfl)) (by decide) (fun _ _ _ _ _ => (dg_nm (pg_name (i := 15) sc_law_walks_hold.nd rfl (by first | exact Or.inl rfl | exact Or.inr rfl)))) (fun _ _ _ _ _ => dts_nil) (fun _ _ _ _ _ => (dp_ix (dq_p (dp_var (pv 15))) dp_int (fun _ _ => rfl)))))))))) (dss_one (ds_ret dp_bl)) dss_nil)
    (dss_cons (ds_asg sc_law_walks_hold.nd rfl (by first | exact Or.inl rfl | exact Or.inr rfl) (dp_call (ok_pushed T) (hr.mono (by decide)) (by rfl) T.m_pushed T.F_pushed.kp T.b_pushed (da_cons (dp_var (pv 2)) (da_cons (dp_var (pv 9)) (da_cons dp_int da_nil)))))
    (dss_cons (ds_asgFc (own' := [("a", 16), ("b", 17)]) rfl sc_law_walks_hold.nd rfl rfl (sw_true rfl rfl rfl (by decide +kernel)) (dc_i (di_zip (by rfl) T.n_zip (dp_l (dl_call (ok_law_rest T) (hr.mono (by decide)) (by rfl) T.m_law_rest T.F_law_rest.kp T.b_law_rest (da_cons (dp_var (pv 1)) (da_cons (dp_var (pv 12)) da_nil)))) (dp_l (dl_call (ok_law_rest T) (hr.mono (by decide)) (by rfl) T.m_law_rest T.F_law_rest.kp T.b_law_rest (da_cons (dp_var (pv 1)) (da_cons (dp_var (pv 2)) da_nil)))))) (blkOk_by (by first | decide +kernel | exact rfl)) (by decide) (fun _ _ _ _ _ => (dg_tp rfl (dgs_cons (dg_nm (pg_name (i := 16) sc_law_walks_hold.nd rfl (by first | exact Or.inl rfl | exact Or.inr rfl))) (dgs_cons (dg_nm (pg_name (i := 17) sc_law_walks_hold.nd rfl (by first | exact Or.inl rfl | exact Or.inr rfl))) dgs_nil)))) (fun _ _ _ _ _ => dts_nil) (fun _ _ _ _ _ => (dp_sub (dp_var (pv 16)) (dp_var (pv 17)))))
    (dss_one (ds_if (dt_ne hr.units (dp_var (pv 13)) (dp_l (dl_comp (own' := [("k", 14)]) rfl sc_law_walks_hold.nd (dc_i (di_rng1 (by rfl) T.n_range (dp_callQ (calls1_b call_len_seq (by rfl) T.n_len (by decide +kernel)) bq_len (dq_p (dp_var (pv 13)))))) (blkOk_by (by first | decide +kernel | exact rfl)) (by decide) (fun _ _ _ _ _ => (dg_nm (pg_name (i := 14) sc_law_walks_hold.nd rfl (by first | exact Or.inl rfl | exact Or.inr rfl)))) (fun _ _ _ _ _ => dts_nil) (fun _ _ _ _ _ => (dp_sub (dp_callV1 (calls1_t call_int1 (by rfl) T.n_int (by decide +kernel)) bv_int (da_cons (dp_eq hr.units (dp_var (pv 14)) (dp_var (pv 8))) da_nil)) (dp_callV1 (calls1_t call_int1 (by rfl) T.n_int (by decide +kernel)) bv_int (da_cons (dp_eq hr.units (dp_var (pv 14)) (dp_ix (dq_p (dp_ix (dq_p (dp_var (pv 9))) dp_int (fun _ _ => rfl))) dp_int (fun _ _ => rfl))) da_nil))))))) (dss_one (ds_ret dp_bl)) dss_nil))))))))) dss_nil))))
    (dss_one (ds_ret dp_bl)))))))))))) )
theorem ok_law (T : Txt K mg) : FnOk P w K mg base CX0 9 T.a_law T.fd_law ["script"] (SpF K den_law) :=
  ok_fn (N := ["script", "state", "net", "due", "told", "inside", "made", "over", "under", "nodes", "gap", "word", "sign", "amount", "back", "part", "row"]) (ps := ["script"]) (d := bod_law) T.F_law sc_law fun cdv A outer s H E hr => (
    (dss_cons (ds_asgO sc_law.nd rfl (by first | exact Or.inl rfl | exact Or.inr rfl) (dl_call (ok_law_state T) (hr.mono (by decide)) (by rfl) T.m_law_state T.F_law_state.kp T.b_law_state (da_cons (dp_var (pv 0)) da_nil)))
    (dss_cons (ds_asgE sc_law.nd rfl (by first | exact Or.inl rfl | exact Or.inr rfl) (de_callX (ok_law_net T) (hr.mono (by decide)) (by rfl) T.m_law_net T.F_law_net.kp T.b_law_net (pv 1) (da_cons dp_int (da_cons dp_bl da_nil))))
    (dss_cons (ds_asg sc_law.nd rfl (by first | exact Or.inl rfl | exact Or.inr rfl) (dp_call (ok_law_never T) (hr.mono (by decide)) (by rfl) T.m_law_never T.F_law_never.kp T.b_law_never (da_cons (dp_var (pv 2)) da_nil)))
    (dss_cons (ds_asg sc_law.nd rfl (by first | exact Or.inl rfl | exact Or.inr rfl) (dp_call (ok_first_flow T) (hr.mono (by decide)) (by rfl) T.m_first_flow T.F_first_flow.kp T.b_first_flow (da_cons (dp_var (pv 2)) da_nil)))
    (dss_cons (ds_if (dt_w (dw_or (dt_not (dt_tru (dp_call (ok_law_truth T) (hr.mono (by decide)) (by rfl) T.m_law_truth T.F_law_truth.kp T.b_law_truth (da_cons (dp_call (ok_has_flow T) (hr.mono (by decide)) (by rfl) T.m_has_flow T.F_has_flow.kp T.b_has_flow (da_cons (dp_var (pv 2)) da_nil)) (da_cons (dp_isN (dp_var (pv 3)) dp_non) da_nil))))) (dw_or1 (dt_w (dw_and (dt_notN (dp_var (pv 3)) dp_non) (dw_and1 (dt_ne hr.units (dp_var (pv 4)) (dp_var (pv 3))))))))) (dss_one (ds_ret dp_bl)) dss_nil)
    (dss_cons (ds_if (dt_w (dw_and (dt_isN (dp_var (pv 3)) dp_non) (dw_and1 (dt_w (dw_or (dt_ne hr.units (dp_ix (dq_p (dp_var (pv 4))) dp_int (fun _ _ => rfl)) dp_str) (dw_or (dt_notB (dp_call (ok_is_flow T) (hr.mono (by decide)) (by rfl) T.m_is_flow T.F_is_flow.kp T.b_is_flow (da_cons (dp_var (pv 2)) (da_cons (dp_ix (dq_p (dp_var (pv 4))) dp_int (fun _ _ => rfl)) da_nil))) dp_bl) (dw_or1 (dt_ne hr.units (dp_l (dl_call (ok_law_rest T) (hr.mono (by decide)) (by rfl) T.m_law_rest T.F_law_rest.kp T.b_law_rest (da_cons (dp_var (pv 2)) (da_cons (dp_ix (dq_p (dp_var (pv 4))) dp_int (fun _ _ => rfl)) da_nil)))) (dp_l (dl_comp (own' := [("row", 16)]) rfl sc_law.nd (dc_i (di_seq (dp_ix (dq_p (dp_var (pv 2))) dp_int (fun _ _ => rfl)))) (blkOk_by (by first | decide +kernel | exact rfl)) (by decide) (fun _ _ _ _ _ => (dg_nm (pg_name (i := 16) sc_law.nd rfl (by first | exact Or.inl rfl | exact Or.inr rfl)))) (fun _ _ _ _ _ => dts_nil) (fun _ _ _ _ _ => dp_int))))))))))) (dss_one (ds_ret dp_bl)) dss_nil)
    (dss_cons (ds_asgE sc_law.nd rfl (by first | exact Or.inl rfl | exact Or.inr rfl) (de_callX (ok_law_inside T) (hr.mono (by decide)) (by rfl) T.m_law_inside T.F_law_inside.kp T.b_law_inside (pv 1) (da_cons (dp_var (pv 2)) da_nil)))
    (dss_cons (ds_asg sc_law.nd rfl (by first | exact Or.inl rfl | exact Or.inr rfl) (dp_call (ok_filled T) (hr.mono (by decide)) (by rfl) T.m_filled T.F_filled.kp T.b_filled (da_cons (dp_var (pv 2)) (da_cons (dp_var (pv 5)) da_nil))))
    (dss_cons (ds_if (dt_ne hr.units (dp_call (ok_lacking T) (hr.mono (by decide)) (by rfl) T.m_lacking T.F_lacking.kp T.b_lacking (da_cons (dp_var (pv 2)) (da_cons (dp_var (pv 6)) da_nil))) (dp_var (pv 3))) (dss_one (ds_ret dp_bl)) dss_nil)
    (dss_cons (ds_asg sc_law.nd rfl (by first | exact Or.inl rfl | exact Or.inr rfl) (dp_callQl (calls1_b (cr_sum rfl) (by rfl) T.n_sum (by decide +kernel)) bq_sum (dql_l (dl_comp (own' := [("part", 15)]) rfl sc_law.nd (dc_i (di_seq (dp_l (dl_call (ok_left_over T) (hr.mono (by decide)) (by rfl) T.m_left_over T.F_left_over.kp T.b_left_over (da_cons (dp_var (pv 2)) (da_cons (dp_var (pv 6)) da_nil)))))) (blkOk_by (by first | decide +kernel | exact rfl)) (by decide) (fun _ _ _ _ _ => (dg_nm (pg_name (i := 15) sc_law.nd rfl (by first | exact Or.inl rfl | exact Or.inr rfl)))) (fun _ _ _ _ _ => (dts_one (dt_gt (dp_var (pv 15)) dp_int))) (fun _ _ _ _ _ => (dp_var (pv 15)))))))
    (dss_cons (ds_asg sc_law.nd rfl (by first | exact Or.inl rfl | exact Or.inr rfl) (dp_sub dp_int (dp_callQl (calls1_b (cr_sum rfl) (by rfl) T.n_sum (by decide +kernel)) bq_sum (dql_l (dl_comp (own' := [("part", 15)]) rfl sc_law.nd (dc_i (di_seq (dp_l (dl_call (ok_left_over T) (hr.mono (by decide)) (by rfl) T.m_left_over T.F_left_over.kp T.b_left_over (da_cons (dp_var (pv 2)) (da_cons (dp_var (pv 6)) da_nil)))))) (blkOk_by (by first | decide +kernel | exact rfl)) (by decide) (fun _ _ _ _ _ => (dg_nm (pg_name (i := 15) sc_law.nd rfl (by first | exact Or.inl rfl | exact Or.inr rfl)))) (fun _ _ _ _ _ => (dts_one (dt_lt (dp_var (pv 15)) dp_int))) (fun _ _ _ _ _ => (dp_var (pv 15))))))))
    (dss_cons (ds_if (dt_isN (dp_var (pv 3)) dp_non) (dss_one (ds_if (dt_ne hr.units (dp_add (dp_var (pv 7)) (dp_var (pv 8))) dp_int) (dss_one (ds_ret dp_bl)) dss_nil)) (dss_one (ds_if (dt_ne hr.units (dp_ix (dq_p (dp_var (pv 3))) dp_int (fun _ _ => rfl)) (dp_ix (dq_l (dl_lst (da_cons (dp_var (pv 8)) (da_cons (dp_var (pv 7)) da_nil)))) (dp_callV1 (calls1_t call_int1 (by rfl) T.n_int (by decide +kernel)) bv_int (da_cons (dp_eq hr.units (dp_ix (dq_p (dp_var (pv 3))) dp_int (fun _ _ => rfl)) dp_str) da_nil)) (fun _ _ => rfl))) (dss_one (ds_ret dp_bl)) dss_nil)))
    (dss_cons (ds_for PassesOwn.never rfl (di_seq (dp_l (dl_call (ok_law_sets T) (hr.mono (by decide)) (by rfl) T.m_law_sets T.F_law_sets.kp T.b_law_sets (da_cons (dp_var (pv 2)) da_nil)))) (dg_nm (pg_name (i := 9) sc_law.nd rfl (by first | exact Or.inl rfl | exact Or.inr rfl))) (dss_cons (ds_if (dt_w (dw_or (dt_ne hr.units (dp_call (ok_gap_over T) (hr.mono (by decide)) (by rfl) T.m_gap_over T.F_gap_over.kp T.b_gap_over (da_cons (dp_var (pv 2)) (da_cons (dp_var (pv 9)) da_nil))) (dp_call (ok_law_gap T) (hr.mono (by decide)) (by rfl) T.m_law_gap T.F_law_gap.kp T.b_law_gap (da_cons (dp_var (pv 2)) (da_cons (dp_var (pv 9)) (da_cons dp_int da_nil))))) (dw_or1 (dt_ne hr.units (dp_call (ok_gap_under T) (hr.mono (by decide)) (by rfl) T.m_gap_under T.F_gap_under.kp T.b_gap_under (da_cons (dp_var (pv 2)) (da_cons (dp_var (pv 9)) da_nil))) (dp_call (ok_law_gap T) (hr.mono (by decide)) (by rfl) T.m_law_gap T.F_law_gap.kp T.b_law_gap (da_cons (dp_var (pv 2)) (da_cons (dp_var (pv 9)) (da_cons (dp_neg dp_int) da_nil)))))))) (dss_one (ds_ret dp_bl)) dss_nil)
    (dss_cons (ds_asg sc_law.nd rfl (by first | exact Or.inl rfl | exact Or.inr rfl) (dp_call (ok_law_gap T) (hr.mono (by decide)) (by rfl) T.m_law_gap T.F_law_gap.kp T.b_law_gap (da_cons (dp_var (pv 2)) (da_cons (dp_var (pv 9)) (da_cons dp_int da_nil)))))
    (dss_cons (ds_if (dt_w (dw_and (dt_notN (dp_var (pv 10)) dp_non) (dw_and1 (dt_gt (dp_var (pv 10)) (dp_var (pv 7)))))) (dss_one (ds_ret dp_bl)) dss_nil)
    (dss_one (ds_for PassesOwn.never rfl (di_seq (dp_l (dl_lst (da_cons (dp_tup (da_cons dp_str (da_cons dp_int da_nil))) (da_cons (dp_tup (da_cons dp_str (da_cons (dp_neg dp_int) da_nil))) da_nil))))) (dg_tp rfl (dgs_cons (dg_nm (pg_name (i := 11) sc_law.nd rfl (by first | exact Or.inl rfl | exact Or.inr rfl))) (dgs_cons (dg_nm (pg_name (i := 12) sc_law.nd rfl (by first | exact Or.inl rfl | exact Or.inr rfl))) dgs_nil))) (dss_cons (ds_asg sc_law.nd rfl (by first | exact Or.inl rfl | exact Or.inr rfl) (dp_call (ok_law_gap T) (hr.mono (by decide)) (by rfl) T.m_law_gap T.F_law_gap.kp T.b_law_gap (da_cons (dp_var (pv 2)) (da_cons (dp_var (pv 9)) (da_cons (dp_var (pv 12)) da_nil)))))
    (dss_cons (ds_asgE sc_law.nd rfl (by first | exact Or.inl rfl | exact Or.inr rfl) (de_add (de_callX (ok_law_draw T) (hr.mono (by decide)) (by rfl) T.m_law_draw T.F_law_draw.kp T.b_law_draw (pv 1) (da_cons dp_int da_nil)) (de_p dp_int)))
    (dss_cons (ds_if (dt_not (dt_tru (dp_call (ok_law_truth T) (hr.mono (by decide)) (by rfl) T.m_law_truth T.F_law_truth.kp T.b_law_truth (da_cons (dp_call (ok_judge_never T) (hr.mono (by decide)) (by rfl) T.m_judge_never T.F_judge_never.kp T.b_judge_never (da_cons (dp_var (pv 2)) (da_cons (dp_tup (da_cons dp_str (da_cons (dp_var (pv 13)) (da_cons (dp_var (pv 11)) (da_cons (dp_var (pv 9)) da_nil))))) da_nil))) (da_cons (dp_eq hr.units (dp_var (pv 10)) (dp_var (pv 13))) da_nil))))) (dss_one (ds_ret dp_bl)) dss_nil)
    (dss_one (ds_if (dt_w (dw_and (dt_notN (dp_var (pv 10)) dp_non) (dw_and1 (dt_not (dt_tru (dp_call (ok_law_truth T) (hr.mono (by decide)) (by rfl) T.m_law_truth T.F_law_truth.kp T.b_law_truth (da_cons (dp_call (ok_judge_never T) (hr.mono (by decide)) (by rfl) T.m_judge_never T.F_judge_never.kp T.b_judge_never (da_cons (dp_var (pv 2)) (da_cons (dp_tup (da_cons dp_str (da_cons (dp_var (pv 10)) (da_cons (dp_var (pv 11)) (da_cons (dp_var (pv 9)) da_nil))))) da_nil))) (da_cons (dp_gt (dp_var (pv 10)) dp_int) da_nil)))))))) (dss_one (ds_ret dp_bl)) dss_nil)))))))))))
    (dss_cons (ds_if (dt_w (dw_or (dt_notB (dp_call (ok_judge_never T) (hr.mono (by decide)) (by rfl) T.m_judge_never T.F_judge_never.kp T.b_judge_never (da_cons (dp_var (pv 2)) (da_cons (dp_tup (da_cons dp_str (da_cons dp_int (da_cons dp_str (da_cons (dp_tup (da_cons dp_str da_nil)) da_nil))))) da_nil))) dp_bl) (dw_or1 (dt_notB (dp_call (ok_judge_never T) (hr.mono (by decide)) (by rfl) T.m_judge_never T.F_judge_never.kp T.b_judge_never (da_cons (dp_var (pv 2)) (da_cons (dp_tup (da_cons dp_str (da_cons dp_int (da_cons dp_str (da_cons (dp_tup (da_cons dp_str da_nil)) da_nil))))) da_nil))) dp_bl)))) (dss_one (ds_ret dp_bl)) dss_nil)
    (dss_cons (ds_asg sc_law.nd rfl (by first | exact Or.inl rfl | exact Or.inr rfl) (dp_call (ok_first_flow T) (hr.mono (by decide)) (by rfl) T.m_first_flow T.F_first_flow.kp T.b_first_flow (da_cons (dp_call (ok_turned_net T) (hr.mono (by decide)) (by rfl) T.m_turned_net T.F_turned_net.kp T.b_turned_net (da_cons (dp_var (pv 2)) da_nil)) da_nil)))
    (dss_cons (ds_if (dt_ne hr.units (dp_eq hr.units (dp_ix (dq_p (dp_var (pv 14))) dp_int (fun _ _ => rfl)) dp_str) (dp_isN (dp_var (pv 3)) dp_non)) (dss_one (ds_ret dp_bl)) dss_nil)
    (dss_one (ds_retE (de_callX (ok_law_walks_hold T) (hr.mono (by decide)) (by rfl) T.m_law_walks_hold T.F_law_walks_hold.kp T.b_law_walks_hold (pv 1) (da_cons (dp_var (pv 2)) da_nil)))))))))))))))))))) )
end
end K04
end
section
set_option Elab.async false
set_option linter.all false
set_option maxRecDepth 100000
set_option maxHeartbeats 4000000
/-! Plain tools: the denotations, applied; loops and comprehensions over typed lists. -/
namespace Dn
open PySem PySem.Spec L2

section
variable (ρ : En)
@[simp] theorem dVar_ap (i : Nat) : dVar i ρ = (match ρ[i]? with | some (.fz p) => some p | _ => none) := rfl
@[simp] theorem dC_ap (p : PV) : dC p ρ = some p := rfl
@[simp] theorem dOwn_ap (i : Nat) : dOwn i ρ = (match ρ[i]? with | some (.ol l) => some l | some (.ox l) => some l | some (.br l) => some l | _ => none) := rfl
@[simp] theorem dS_ap (d : DPv) : dS d ρ = (d ρ).bind asSeq := rfl
@[simp] theorem dLs_ap (d : DPv) : dLs d ρ = (d ρ).bind asList := rfl
@[simp] theorem dTs_ap (d : DPv) : dTs d ρ = (d ρ).bind asTup := rfl
@[simp] theorem dFz_ap (d : DQv) : dFz d ρ = (d ρ).map .list := rfl
@[simp] theorem dB_ap (g : PV → PV → Option PV) (a b : DPv) : dB g a b ρ = (a ρ).bind fun x => (b ρ).bind fun y => g x y := rfl
@[simp] theorem dU_ap (g : PV → Option PV) (a : DPv) : dU g a ρ = (a ρ).bind g := rfl
@[simp] theorem dTst_ap (a : DPv) : dTst a ρ = (a ρ).bind asBool := rfl
@[simp] theorem dTru_ap (a : DPv) : dTru a ρ = (a ρ).bind tru := rfl
@[simp] theorem dNonE_ap (a : DQv) : dNonE a ρ = (a ρ).map fun l => !l.isEmpty := rfl
@[simp] theorem dAnd_ap (a b : DTv) : dAnd a b ρ = (a ρ).bind fun x => if x = true then b ρ else some false := rfl
@[simp] theorem dOr_ap (a b : DTv) : dOr a b ρ = (a ρ).bind fun x => if x = true then some true else b ρ := rfl
@[simp] theorem dNot_ap (a : DTv) : dNot a ρ = (a ρ).map fun x => !x := rfl
@[simp] theorem dNotT_ap (a : DPv) : dNotT a ρ = (a ρ).bind fun x => (tru x).map fun k => .bool (!k) := rfl
@[simp] theorem dOrT_ap (a b : DPv) : dOrT a b ρ = (a ρ).bind fun x => (tru x).bind fun k => if k = true then some x else b ρ := rfl
@[simp] theorem dAndT_ap (a b : DPv) : dAndT a b ρ = (a ρ).bind fun x => (tru x).bind fun k => if k = true then b ρ else some x := rfl
@[simp] theorem dIf_ap (c : DTv) (a b : DPv) : dIf c a b ρ = (c ρ).bind fun k => if k = true then a ρ else b ρ := rfl
@[simp] theorem dIx_ap (q : DQv) (b : DPv) : dIx q b ρ = (q ρ).bind fun l => (b ρ).bind fun y => (asInt y).bind fun i => atI l i := rfl
@[simp] theorem dNoPart_ap : dNoPart ρ = some none := rfl
@[simp] theorem dPart_ap (a : DPv) : dPart a ρ = (a ρ).bind fun p => (asInt p).map some := rfl
@[simp] theorem dSlice_ap (q : DQv) (l h : DOv) : dSlice q l h ρ = (q ρ).bind fun m => (l ρ).bind fun x => (h ρ).map fun y => cutP m x y := rfl
@[simp] theorem dRev_ap (q : DQv) : dRev q ρ = (q ρ).map List.reverse := rfl
@[simp] theorem dCut_ap (a : DPv) (l h : DOv) : dCut a l h ρ = (a ρ).bind fun p => (l ρ).bind fun x => (h ρ).bind fun y => cutV' x y p := rfl
@[simp] theorem dNil_ap : dNil ρ = some [] := rfl
@[simp] theorem dCons_ap (a : DPv) (q : DQv) : dCons a q ρ = (a ρ).bind fun x => (q ρ).map fun r => x :: r := rfl
@[simp] theorem dTup_ap (q : DQv) : dTup q ρ = ((q ρ).bind lim).map .tuple := rfl
@[simp] theorem dLst_ap (q : DQv) : dLst q ρ = (q ρ).bind lim := rfl
@[simp] theorem dEnum_ap (q : DQv) : dEnum q ρ = (q ρ).map (enumP 0) := rfl
@[simp] theorem dZip_ap (q r : DQv) : dZip q r ρ = (q ρ).bind fun l => (r ρ).map fun m => zipP l m := rfl
@[simp] theorem dRng1_ap (a : DPv) : dRng1 a ρ = (a ρ).bind rng1 := rfl
@[simp] theorem dRng2_ap (a b : DPv) : dRng2 a b ρ = (a ρ).bind fun x => (b ρ).bind fun y => rng2 x y := rfl
@[simp] theorem dYes_ap : dYes ρ = some true := rfl
@[simp] theorem dG_ap (g : List PV → Option PV) (q : DQv) : dG g q ρ = (q ρ).bind g := rfl
@[simp] theorem dGl_ap (g : List PV → Option (List PV)) (q : DQv) : dGl g q ρ = (q ρ).bind g := rfl
@[simp] theorem dInQ_ap (g : PV → List PV → Option PV) (a : DPv) (q : DQv) : dInQ g a q ρ = (a ρ).bind fun x => (q ρ).bind fun l => g x l := rfl
@[simp] theorem dIndex_ap (q : DQv) (b : DPv) : dIndex q b ρ = (q ρ).bind fun l => (b ρ).bind fun x => gIndex l x := rfl
@[simp] theorem dIsi_ap (T : String) (a : DPv) : dIsi T a ρ = (a ρ).bind (gIsi T) := rfl
@[simp] theorem dCall_ap (d : FD) (q : DQv) : dCall d q ρ = (q ρ).bind fun ps => (d ps).map Res.pv := rfl
@[simp] theorem dCallL_ap (d : FD) (q : DQv) : dCallL d q ρ = (q ρ).bind fun ps => (d ps).bind Res.ls := rfl
@[simp] theorem dSkip_ap : dSkip ρ = some (ρ, .nx) := rfl
@[simp] theorem dSeq_ap (a b : DSv) : dSeq a b ρ = (a ρ).bind fun r => match r.2 with | .nx => b r.1 | fl => some (r.1, fl) := rfl
@[simp] theorem dBreak_ap : dBreak ρ = some (ρ, .bk) := rfl
@[simp] theorem dCont_ap : dCont ρ = some (ρ, .ct) := rfl
@[simp] theorem dFg_ap (vs : List Nat) (d : DSv) : dFg vs d ρ = d (fgE ρ vs) := rfl
@[simp] theorem dFrz_ap (vs : List Nat) (d : DSv) : dFrz vs d ρ = d (frzE ρ vs) := rfl
@[simp] theorem fgE_nil : fgE ρ [] = ρ := rfl
@[simp] theorem fgE_cons (v : Nat) (vs : List Nat) : fgE ρ (v :: vs) = fg1 (fgE ρ vs) v := rfl
@[simp] theorem fg1_ap (v : Nat) : fg1 ρ v = (match ρ[v]? with | some (.ox _) => ρ | _ => ρ.set v .un) := rfl
@[simp] theorem frzE_nil : frzE ρ [] = ρ := rfl
@[simp] theorem frzE_cons (v : Nat) (vs : List Nat) : frzE ρ (v :: vs) = frz1 (frzE ρ vs) v := rfl
@[simp] theorem frz1_ap (v : Nat) : frz1 ρ v = (match ρ[v]? with | some (.ol l) => ρ.set v (.fz (.list l)) | some (.oll ls) => ρ.set v (.fz (.list (ls.map .list))) | _ => ρ) := rfl
@[simp] theorem dAsg_ap (i : Nat) (a : DPv) : dAsg i a ρ = (a ρ).bind fun p => (setS ρ i (.fz p)).map fun ρ' => (ρ', .nx) := rfl
@[simp] theorem dAsgO_ap (i : Nat) (a : DQv) : dAsgO i a ρ = (a ρ).bind fun p => (setS ρ i (.ol p)).map fun ρ' => (ρ', .nx) := rfl
@[simp] theorem dAsgOO_ap (i : Nat) (a : En → Option (List (List PV))) : dAsgOO i a ρ = (a ρ).bind fun p => (setS ρ i (.oll p)).map fun ρ' => (ρ', .nx) := rfl
@[simp] theorem dAsgD_ap (i : Nat) (a : En → Option (List (Key × PV))) : dAsgD i a ρ = (a ρ).bind fun p => (setS ρ i (.fd p)).map fun ρ' => (ρ', .nx) := rfl
@[simp] theorem setS_ap (i : Nat) (s : Sl) : setS ρ i s = (match ρ[i]? with | none => none | some (.br _) => none | some (.ox _) => none | some _ => some (ρ.set i s)) := rfl
@[simp] theorem dTgt_ap (t : Tg) (a : DPv) : dTgt t a ρ = (a ρ).bind fun p => (tgB t p ρ).map fun ρ' => (ρ', .nx) := rfl
@[simp] theorem dPar_ap (i j : Nat) (q : DQv) : dPar i j q ρ = (q ρ).bind fun l => match l with
  | [p, q] => (setS ρ i (.fz p)).bind fun ρ1 => (setS ρ1 j (.fz q)).map fun ρ2 => (ρ2, .nx)
  | _ => none := rfl
@[simp] theorem dAug_ap (i : Nat) (g : Int → Int → Int) (a : DPv) : dAug i g a ρ = (dVar i ρ).bind fun x => (asInt x).bind fun m => (a ρ).bind fun y => (asInt y).bind fun n => (setS ρ i (.fz (.int (g m n)))).map fun ρ' => (ρ', .nx) := rfl
@[simp] theorem dApp_ap (i : Nat) (a : DPv) : dApp i a ρ = (ownL ρ i).bind fun l => (a ρ).bind fun p => if l.length < 16777216 then some (putL ρ i (l ++ [p]), .nx) else none := rfl
@[simp] theorem dApp2_ap (i : Nat) (dj da : DPv) : dApp2 i dj da ρ = (ownLL ρ i).bind fun ls => (dj ρ).bind fun y => (asInt y).bind fun k => (ixN ls.length k).bind fun j => (ls[j]?).bind fun l => (da ρ).bind fun p => if l.length < 16777216 then some (ρ.set i (.oll (ls.set j (l ++ [p]))), .nx) else none := rfl
@[simp] theorem dSetIx_ap (i : Nat) (dj da : DPv) : dSetIx i dj da ρ = (da ρ).bind fun p => (dj ρ).bind fun y => (asInt y).bind fun k => (ownL ρ i).bind fun l => (ixN l.length k).map fun j => (putL ρ i (l.set j p), .nx) := rfl
@[simp] theorem dAugIx_ap (i : Nat) (g : Int → Int → Int) (dj da : DPv) : dAugIx i g dj da ρ = (dj ρ).bind fun y => (asInt y).bind fun k => (ownL ρ i).bind fun l => (ixN l.length k).bind fun j => (l[j]?).bind fun x => (asInt x).bind fun m => (da ρ).bind fun z => (asInt z).map fun n => (putL ρ i (l.set j (.int (g m n))), .nx) := rfl
@[simp] theorem ownL_ap (i : Nat) : ownL ρ i = (match ρ[i]? with | some (.ol l) => some l | some (.ox l) => some l | _ => none) := rfl
@[simp] theorem ownLL_ap (i : Nat) : ownLL ρ i = (match ρ[i]? with | some (.oll l) => some l | _ => none) := rfl
@[simp] theorem putL_ap (i : Nat) (l : List PV) : putL ρ i l = (match ρ[i]? with | some (.ox _) => ρ.set i (.ox l) | _ => ρ.set i (.ol l)) := rfl
@[simp] theorem dOwn2_ap (i : Nat) (dj : DPv) : dOwn2 i dj ρ = (ownLL ρ i).bind fun ls => (dj ρ).bind fun y => (asInt y).bind fun k => (ixN ls.length k).bind fun j => ls[j]? := rfl
@[simp] theorem dIfS_ap (c : DTv) (a b : DSv) : dIfS c a b ρ = (c ρ).bind fun k => if k = true then a ρ else b ρ := rfl
@[simp] theorem dRet_ap (a : DPv) : dRet a ρ = (a ρ).map fun p => (ρ, .rt (.va p)) := rfl
@[simp] theorem dRetL_ap (a : DQv) : dRetL a ρ = (a ρ).map fun p => (ρ, .rt (.li p)) := rfl
@[simp] theorem dRetO_ap (i : Nat) : dRetO i ρ = (match ρ[i]? with | some (.ol l) => some (ρ, .rt (.li l)) | _ => none) := rfl
@[simp] theorem dRetOO_ap (i : Nat) : dRetOO i ρ = (match ρ[i]? with | some (.oll ls) => some (ρ, .rt (.li (ls.map .list))) | _ => none) := rfl
@[simp] theorem dRetN_ap : dRetN ρ = some (ρ, .rt (.va .none)) := rfl
@[simp] theorem dFor_ap (di : DQv) (vs : List Nat) (t : Tg) (db : DSv) : dFor di vs t db ρ = (di ρ).bind fun l => forD vs t db l ρ := rfl
@[simp] theorem dComp_ap (di : DQv) (t : Tg) (vs : List Nat) (tt : DTv) (te : DPv) : dComp di t vs tt te ρ = ((di ρ).bind lim).bind fun l => (wipeE ρ vs).bind fun ρw => compD t tt te ρw l := rfl
@[simp] theorem dCompLL_ap (di : DQv) (t : Tg) (vs : List Nat) (te : DQv) : dCompLL di t vs te ρ = ((di ρ).bind lim).bind fun l => (wipeE ρ vs).bind fun ρw => compLL t te ρw l := rfl
@[simp] theorem dDict_ap (di : DQv) (t : Tg) (vs : List Nat) (tk tv : DPv) : dDict di t vs tk tv ρ = (di ρ).bind fun l => (wipeE ρ vs).bind fun ρw => compKV t tk tv ρw l [] := rfl
@[simp] theorem dGet_ap (i : Nat) (db : DPv) : dGet i db ρ = (match ρ[i]? with | some (.fd kvs) => (db ρ).bind fun y => (keyP y).bind fun k => valP kvs k | _ => none) := rfl
@[simp] theorem dCat_ap (i : Nat) (qb : DQv) : dCat i qb ρ = (ownL ρ i).bind fun l => (qb ρ).bind fun m => lim (l ++ m) := rfl
@[simp] theorem wipeE_nil : wipeE ρ [] = some ρ := rfl
@[simp] theorem wipeE_cons (v : Nat) (vs : List Nat) : wipeE ρ (v :: vs) = (wipeE ρ vs).bind (wipe1 v) := rfl
@[simp] theorem wipe1_ap (v : Nat) : wipe1 v ρ = (match ρ[v]? with | some .un => some (ρ.set v .un) | some (.fz _) => some (ρ.set v .un) | _ => none) := rfl
@[simp] theorem tgB_nm (i : Nat) (p : PV) : tgB (.nm i) p ρ = setS ρ i (.fz p) := rfl
@[simp] theorem tgB_tp (ts : List Tg) (ps : List PV) : tgB (.tp ts) (.tuple ps) ρ = tgBs ts ps ρ := rfl
@[simp] theorem tgBs_nil : tgBs [] [] ρ = some ρ := rfl
@[simp] theorem tgBs_cons (t : Tg) (ts : List Tg) (p : PV) (ps : List PV) : tgBs (t :: ts) (p :: ps) ρ = (tgB t p ρ).bind fun ρ1 => tgBs ts ps ρ1 := rfl
-- effects
@[simp] theorem ePure_ap (d : DPv) : ePure d ρ = (d ρ).map fun p => (p, ρ) := rfl
@[simp] theorem eTPure_ap (d : DTv) : eTPure d ρ = (d ρ).map fun p => (p, ρ) := rfl
@[simp] theorem eB_ap (g : PV → PV → Option PV) (ea eb : DEv) : eB g ea eb ρ = (ea ρ).bind fun r => (eb r.2).bind fun s => (g r.1 s.1).map fun z => (z, s.2) := rfl
@[simp] theorem eTst_ap (ea : DEv) : eTst ea ρ = (ea ρ).bind fun r => (asBool r.1).map fun k => (k, r.2) := rfl
@[simp] theorem eAnd_ap (ta tb : DTEv) : eAnd ta tb ρ = (ta ρ).bind fun r => if r.1 = true then tb r.2 else some (false, r.2) := rfl
@[simp] theorem eIx_ap (qa : DPv) (eb : DEv) : eIx qa eb ρ = (qa ρ).bind fun x => (asSeq x).bind fun l => (eb ρ).bind fun r => (asInt r.1).bind fun i => (atI l i).map fun p => (p, r.2) := rfl
@[simp] theorem eNil_ap : eNil ρ = some ([], ρ) := rfl
@[simp] theorem eCons_ap (ea : DEv) (qe : DQEv) : eCons ea qe ρ = (ea ρ).bind fun r => (qe r.2).map fun s => (r.1 :: s.1, s.2) := rfl
@[simp] theorem eTup_ap (qe : DQEv) : eTup qe ρ = (qe ρ).bind fun r => (lim r.1).map fun l => (.tuple l, r.2) := rfl
@[simp] theorem eG_ap (g : List PV → Option PV) (qe : DQEv) : eG g qe ρ = (qe ρ).bind fun r => (g r.1).map fun z => (z, r.2) := rfl
@[simp] theorem ePart_ap (ea : DEv) : ePart ea ρ = (ea ρ).bind fun r => (asInt r.1).map fun i => (some i, r.2) := rfl
@[simp] theorem eNoPart_ap : eNoPart ρ = some (none, ρ) := rfl
@[simp] theorem eCut_ap (da : DPv) (dl dh : DOEv) : eCut da dl dh ρ = (da ρ).bind fun p => (dl ρ).bind fun x => (dh x.2).bind fun y => (cutV' x.1 y.1 p).map fun z => (z, y.2) := rfl
@[simp] theorem eAsg_ap (i : Nat) (ea : DEv) : eAsg i ea ρ = (ea ρ).bind fun r => (setS r.2 i (.fz r.1)).map fun ρ' => (ρ', .nx) := rfl
@[simp] theorem eAsgO_ap (i : Nat) (ea : DQEv) : eAsgO i ea ρ = (ea ρ).bind fun r => (setS r.2 i (.ol r.1)).map fun ρ' => (ρ', .nx) := rfl
@[simp] theorem eIfS_ap (te : DTEv) (d1 d2 : DSv) : eIfS te d1 d2 ρ = (te ρ).bind fun r => if r.1 = true then d1 r.2 else d2 r.2 := rfl
@[simp] theorem eRet_ap (ea : DEv) : eRet ea ρ = (ea ρ).map fun r => (r.2, .rt (.va r.1)) := rfl
@[simp] theorem eApp_ap (i : Nat) (ea : DEv) : eApp i ea ρ = (ea ρ).bind fun r => (ownL ρ i).bind fun _ => (ownL r.2 i).bind fun l => if l.length < 16777216 then some (putL r.2 i (l ++ [r.1]), .nx) else none := rfl
@[simp] theorem eRng1_ap (ea : DEv) : eRng1 ea ρ = (ea ρ).bind fun r => (rng1 r.1).map fun l => (l, r.2) := rfl
@[simp] theorem eFor_ap (di : DQEv) (vs : List Nat) (t : Tg) (db : DSv) : eFor di vs t db ρ = (di ρ).bind fun r => forD vs t db r.1 r.2 := rfl
@[simp] theorem eCall_ap (i : Nat) (d : FX) (qa : DQv) : eCall i d qa ρ = (ownL ρ i).bind fun l => (qa ρ).bind fun ps => (d l ps).map fun r => (r.1, putL ρ i r.2) := rfl
@[simp] theorem eFz_ap (qe : DQEv) : eFz qe ρ = (qe ρ).map fun r => (.list r.1, r.2) := rfl
@[simp] theorem eYes_ap : eYes ρ = some (true, ρ) := rfl
@[simp] theorem eComp_ap (di : DQv) (t : Tg) (vs : List Nat) (tt : DTEv) (te : DEv) : eComp di t vs tt te ρ = ((di ρ).bind lim).bind fun l => if vs.all (isUn ρ) = true then compE t vs tt te l ρ else none := rfl
@[simp] theorem isUn_ap (v : Nat) : isUn ρ v = (match ρ[v]? with | some Sl.un => true | _ => false) := rfl
end
-- values
@[simp] theorem pAdd_int (i j : Int) : pAdd (.int i) (.int j) = some (.int (i + j)) := rfl
@[simp] theorem pII_int (g : Int → Int → PV) (i j : Int) : pII g (.int i) (.int j) = some (g i j) := rfl
@[simp] theorem pIIc_int (C : Int → Int → Prop) [∀ i j, Decidable (C i j)] (g : Int → Int → PV) (i j : Int) : pIIc C g (.int i) (.int j) = if C i j then some (g i j) else none := rfl
@[simp] theorem pNeg_int (i : Int) : pNeg (.int i) = some (.int (-i)) := rfl
@[simp] theorem asSeq_l (l : List PV) : asSeq (.list l) = some l := rfl
@[simp] theorem asSeq_t (l : List PV) : asSeq (.tuple l) = some l := rfl
@[simp] theorem asList_l (l : List PV) : asList (.list l) = some l := rfl
@[simp] theorem asTup_t (l : List PV) : asTup (.tuple l) = some l := rfl
@[simp] theorem asInt_i (i : Int) : asInt (.int i) = some i := rfl
@[simp] theorem asBool_b (b : Bool) : asBool (.bool b) = some b := rfl
@[simp] theorem tru_n : tru .none = some false := rfl
@[simp] theorem tru_b (b : Bool) : tru (.bool b) = some b := rfl
@[simp] theorem tru_i (i : Int) : tru (.int i) = some (i != 0) := rfl
@[simp] theorem tru_l (l : List PV) : tru (.list l) = some (!l.isEmpty) := rfl
@[simp] theorem tru_t (l : List PV) : tru (.tuple l) = some (!l.isEmpty) := rfl
@[simp] theorem pIsN_ap (x : PV) : pIsN x .none = some (.bool (isN x)) := rfl
@[simp] theorem pNotN_ap (x : PV) : pNotN x .none = some (.bool (!isN x)) := rfl
@[simp] theorem isN_n : isN .none = true := rfl
@[simp] theorem isN_i (i : Int) : isN (.int i) = false := rfl
@[simp] theorem isN_b (i : Bool) : isN (.bool i) = false := rfl
@[simp] theorem isN_t (l : List PV) : isN (.tuple l) = false := rfl
@[simp] theorem isN_l (l : List PV) : isN (.list l) = false := rfl
@[simp] theorem isN_s (l : Str) : isN (.str l) = false := rfl
@[simp] theorem pIsB_ap (x : PV) (b : Bool) : pIsB x (.bool b) = some (.bool (isBp b x)) := rfl
@[simp] theorem pNotB_ap (x : PV) (b : Bool) : pNotB x (.bool b) = some (.bool (!isBp b x)) := rfl
@[simp] theorem isBp_b (b c : Bool) : isBp b (.bool c) = (c == b) := rfl
@[simp] theorem isBp_n (b : Bool) : isBp b .none = false := rfl
@[simp] theorem isBp_i (b : Bool) (i : Int) : isBp b (.int i) = false := rfl
@[simp] theorem isBp_t (b : Bool) (i : List PV) : isBp b (.tuple i) = false := rfl
@[simp] theorem gLen_ap (l : List PV) : gLen l = some (.int (l.length : Nat)) := rfl
@[simp] theorem gTuple_ap (l : List PV) : gTuple l = some (.tuple l) := rfl
@[simp] theorem gMin2_ap (i j : Int) : gMin2 [.int i, .int j] = some (.int (if j < i then j else i)) := rfl
@[simp] theorem gMax2_ap (i j : Int) : gMax2 [.int i, .int j] = some (.int (if j > i then j else i)) := rfl
@[simp] theorem gInt_i (i : Int) : gInt [.int i] = some (.int i) := rfl
@[simp] theorem gInt_b (k : Bool) : gInt [.bool k] = some (.int (if k then 1 else 0)) := rfl
@[simp] theorem pv_va (p : PV) : Res.pv (.va p) = p := rfl
@[simp] theorem pv_li (l : List PV) : Res.pv (.li l) = .list l := rfl
@[simp] theorem ls_li (l : List PV) : Res.ls (.li l) = some l := rfl
@[simp] theorem gSum_ints (ns : List Int) : gSum (ns.map .int) = some (.int ns.sum) := by unfold gSum; rw [intsP_map]; rfl
@[simp] theorem gAll_bools (ns : List Bool) : gAll (ns.map .bool) = some (.bool (ns.all id)) := by unfold gAll; rw [blsP_map]; rfl
theorem lim_ok {l : List PV} (h : l.length ≤ 16777216) : lim l = some l := by unfold lim; rw [if_pos h]
@[simp] theorem lim_nil : lim [] = some [] := rfl
theorem ixN_nat {n k : Nat} (h : k < n) : ixN n (k : Int) = some k := by
  unfold ixN
  rw [if_pos (by omega), if_pos (by omega)]
  rfl
theorem atI_nat {α : Type} {l : List α} {k : Nat} : atI l (k : Int) = l[k]? := by
  unfold atI
  by_cases h : k < l.length
  · rw [ixN_nat h]; rfl
  · have e : ixN l.length (k : Int) = none := by
      unfold ixN
      rw [if_pos (by omega), if_neg (by omega)]
    rw [e, List.getElem?_eq_none (by omega)]
    rfl
@[simp] theorem atI_0 {α : Type} {l : List α} : atI l 0 = l[0]? := atI_nat (k := 0)
@[simp] theorem atI_1 {α : Type} {l : List α} : atI l 1 = l[1]? := atI_nat (k := 1)
@[simp] theorem atI_2 {α : Type} {l : List α} : atI l 2 = l[2]? := atI_nat (k := 2)
@[simp] theorem atI_3 {α : Type} {l : List α} : atI l 3 = l[3]? := atI_nat (k := 3)
@[simp] theorem atI_4 {α : Type} {l : List α} : atI l 4 = l[4]? := atI_nat (k := 4)
@[simp] theorem atI_5 {α : Type} {l : List α} : atI l 5 = l[5]? := atI_nat (k := 5)
@[simp] theorem atI_6 {α : Type} {l : List α} : atI l 6 = l[6]? := atI_nat (k := 6)
@[simp] theorem runD_ap (np nn : Nat) (d : DSv) (vs : List PV) : runD np nn d vs = if vs.length = np then (d (entry np nn vs)).bind fun r => match r.2 with
  | .rt q => some q
  | .nx => some (.va .none)
  | _ => none
  else none := rfl
@[simp] theorem entry_ap (np nn : Nat) (vs : List PV) : entry np nn vs = vs.map .fz ++ List.replicate (nn - np) .un := rfl

theorem seq_nx {d1 d2 : DSv} {ρ ρ' : En} (h : d1 ρ = some (ρ', .nx)) : dSeq d1 d2 ρ = d2 ρ' := by rw [dSeq_ap, h]; rfl
theorem seq_rt {d1 d2 : DSv} {ρ ρ' : En} {q : Res} (h : d1 ρ = some (ρ', .rt q)) : dSeq d1 d2 ρ = some (ρ', .rt q) := by rw [dSeq_ap, h]; rfl
theorem runD_rt {np nn : Nat} {d : DSv} {vs : List PV} {ρ ρ' : En} {q : Res} (hl : vs.length = np) (he : entry np nn vs = ρ) (h : d ρ = some (ρ', .rt q)) : runD np nn d vs = some q := by
  rw [runD_ap, if_pos hl, he, h]; rfl
theorem runX_rt {np nn : Nat} {d : DSv} {l l' vs : List PV} {ρ ρ' : En} {p : PV} (hl : vs.length + 1 = np) (he : entryX np nn l vs = ρ) (h : d ρ = some (ρ', .rt (.va p))) (h0 : ρ'[0]? = some (Sl.ox l')) : runX np nn d l vs = some (p, l') := by
  unfold runX
  rw [if_pos hl, he, h, Option.bind_some]
  unfold outX
  rw [h0]

/-! ### comprehensions -/
theorem compD_map {α : Type} {t : Tg} {tt : DTv} {te : DPv} {ρ : En} (enc : α → PV) (p : α → Bool) (g : α → PV) : ∀ (l : List α), (∀ a ∈ l, ∃ ρ1, tgB t (enc a) ρ = some ρ1 ∧ tt ρ1 = some (p a) ∧ (p a = true → te ρ1 = some (g a))) → compD t tt te ρ (l.map enc) = some ((l.filter p).map g)
  | [], _ => rfl
  | a :: l, h => by
    obtain ⟨ρ1, h1, h2, h3⟩ := h a List.mem_cons_self
    have ih := compD_map enc p g l fun b hb => h b (List.mem_cons_of_mem _ hb)
    show (tgB t (enc a) ρ).bind _ = _
    rw [h1, Option.bind_some, h2, Option.bind_some, ih]
    by_cases hp : p a = true
    · rw [if_pos hp, h3 hp, List.filter_cons_of_pos hp]; rfl
    · rw [if_neg hp, List.filter_cons_of_neg hp]
theorem compD_all {α : Type} {t : Tg} {te : DPv} {ρ : En} (enc : α → PV) (g : α → PV) (l : List α) (h : ∀ a ∈ l, ∃ ρ1, tgB t (enc a) ρ = some ρ1 ∧ te ρ1 = some (g a)) : compD t dYes te ρ (l.map enc) = some (l.map g) := by
  rw [compD_map enc (fun _ => true) g l fun a ha => by
    obtain ⟨ρ1, h1, h2⟩ := h a ha
    exact ⟨ρ1, h1, rfl, fun _ => h2⟩]
  rw [List.filter_eq_self.mpr fun _ _ => rfl]
theorem compLL_nil {α : Type} {t : Tg} {te : DQv} {ρ : En} (enc : α → PV) : ∀ (l : List α), (∀ a ∈ l, ∃ ρ1, tgB t (enc a) ρ = some ρ1 ∧ te ρ1 = some []) → compLL t te ρ (l.map enc) = some (List.replicate l.length [])
  | [], _ => rfl
  | a :: l, h => by
    obtain ⟨ρ1, h1, h2⟩ := h a List.mem_cons_self
    have ih := compLL_nil enc l fun b hb => h b (List.mem_cons_of_mem _ hb)
    show (tgB t (enc a) ρ).bind _ = _
    rw [h1, Option.bind_some, h2, Option.bind_some, ih]
    rfl
/-- with effects: a walk along the list -/
theorem compE_run {α S : Type} {t : Tg} {vs : List Nat} {tt : DTEv} {te : DEv} (enc : α → PV) (st : S → En) (R : S → List α → List PV → S → Prop)
    (nil : ∀ s, R s [] [] s) (cons : ∀ s a l, ∃ ρ1 b ρ2, tgB t (enc a) (st s) = some ρ1 ∧ tt ρ1 = some (b, ρ2) ∧ (b = false → ∃ s1, fgE ρ2 vs = st s1 ∧ ∀ r s2, R s1 l r s2 → R s (a :: l) r s2) ∧
      (b = true → ∃ y ρ3 s1, te ρ2 = some (y, ρ3) ∧ fgE ρ3 vs = st s1 ∧ ∀ r s2, R s1 l r s2 → R s (a :: l) (y :: r) s2)) : ∀ (l : List α) (s : S), ∃ r s2, compE t vs tt te (l.map enc) (st s) = some (r, st s2) ∧ R s l r s2
  | [], s => ⟨[], s, rfl, nil s⟩
  | a :: l, s => by
    obtain ⟨ρ1, b, ρ2, h1, h2, h3, h4⟩ := cons s a l
    cases b with
    | false =>
      obtain ⟨s1, e, k⟩ := h3 rfl
      obtain ⟨r, s2, e2, hR⟩ := compE_run enc st R nil cons l s1
      refine ⟨r, s2, ?_, k r s2 hR⟩
      show (tgB t (enc a) (st s)).bind _ = _
      rw [h1, Option.bind_some, h2, Option.bind_some, if_neg (by simp)]
      show compE t vs tt te (l.map enc) (fgE ρ2 vs) = _
      rw [e]; exact e2
    | true =>
      obtain ⟨y, ρ3, s1, e0, e, k⟩ := h4 rfl
      obtain ⟨r, s2, e2, hR⟩ := compE_run enc st R nil cons l s1
      refine ⟨y :: r, s2, ?_, k r s2 hR⟩
      show (tgB t (enc a) (st s)).bind _ = _
      rw [h1, Option.bind_some, h2, Option.bind_some, if_pos rfl]
      show (te ρ2).bind _ = _
      rw [e0, Option.bind_some]
      show (compE t vs tt te (l.map enc) (fgE ρ3 vs)).map _ = _
      rw [e, e2]; rfl

/-! ### for -/
theorem forD_nil {vs : List Nat} {t : Tg} {db : DSv} {ρ : En} : forD vs t db [] ρ = some (fgE ρ vs, .nx) := rfl
/-- one turn that goes on -/
theorem forD_next {vs : List Nat} {t : Tg} {db : DSv} {ρ ρ1 ρ2 : En} {x : PV} {xs : List PV} {fl : Fl} (h1 : tgB t x (fgE ρ vs) = some ρ1) (h2 : db ρ1 = some (ρ2, fl)) (h3 : fl = .nx ∨ fl = .ct) : forD vs t db (x :: xs) ρ = forD vs t db xs ρ2 := by
  show (tgB t x (fgE ρ vs)).bind _ = _
  rw [h1, Option.bind_some, h2, Option.bind_some]
  rcases h3 with rfl | rfl <;> rfl
theorem forD_ret {vs : List Nat} {t : Tg} {db : DSv} {ρ ρ1 ρ2 : En} {x : PV} {xs : List PV} {q : Res} (h1 : tgB t x (fgE ρ vs) = some ρ1) (h2 : db ρ1 = some (ρ2, .rt q)) : forD vs t db (x :: xs) ρ = some (ρ2, .rt q) := by
  show (tgB t x (fgE ρ vs)).bind _ = _
  rw [h1, Option.bind_some, h2, Option.bind_some]
/-- a loop that folds -/
theorem forD_fold {α S : Type} {vs : List Nat} {t : Tg} {db : DSv} (enc : α → PV) (st : S → En) (step : S → α → S) (I : S → Prop) : ∀ (l : List α) (s : S) (ρ : En), fgE ρ vs = st s → I s →
    (∀ s a, a ∈ l → I s → I (step s a) ∧ ∃ ρ1 ρ2 fl, tgB t (enc a) (st s) = some ρ1 ∧ db ρ1 = some (ρ2, fl) ∧ (fl = .nx ∨ fl = .ct) ∧ fgE ρ2 vs = st (step s a)) →
    forD vs t db (l.map enc) ρ = some (st (l.foldl step s), .nx) ∧ I (l.foldl step s)
  | [], s, ρ, e, hI, _ => ⟨by show some (fgE ρ vs, Fl.nx) = _; rw [e]; rfl, hI⟩
  | a :: l, s, ρ, e, hI, h => by
    obtain ⟨hI', ρ1, ρ2, fl, h1, h2, h3, h4⟩ := h s a List.mem_cons_self hI
    rw [← e] at h1
    rw [List.map_cons, forD_next h1 h2 h3]
    exact forD_fold enc st step I l (step s a) ρ2 h4 hI' fun s b hb => h s b (List.mem_cons_of_mem _ hb)

/-- the same, by turns -/
theorem forD_foldI {α S : Type} {vs : List Nat} {t : Tg} {db : DSv} (enc : α → PV) (st : S → En) (step : S → α → S) (I : Nat → S → Prop) (l : List α) (s : S) (ρ : En) (e : fgE ρ vs = st s) (hI : I 0 s)
    (h : ∀ i s a, l[i]? = some a → I i s → I (i + 1) (step s a) ∧ ∃ ρ1 ρ2 fl, tgB t (enc a) (st s) = some ρ1 ∧ db ρ1 = some (ρ2, fl) ∧ (fl = .nx ∨ fl = .ct) ∧ fgE ρ2 vs = st (step s a)) :
    forD vs t db (l.map enc) ρ = some (st (l.foldl step s), .nx) ∧ I l.length (l.foldl step s) := by
  have key : ∀ (m l0 : List α) (s : S) (ρ : En), l = l0 ++ m → fgE ρ vs = st s → I l0.length s → forD vs t db (m.map enc) ρ = some (st (m.foldl step s), .nx) ∧ I l.length (m.foldl step s) := by
    intro m
    induction m with
    | nil => intro l0 s ρ el e hI; refine ⟨by show some (fgE ρ vs, Fl.nx) = _; rw [e]; rfl, ?_⟩; rw [el, List.append_nil]; exact hI
    | cons a m ih =>
      intro l0 s ρ el e hI
      obtain ⟨hI', ρ1, ρ2, fl, h1, h2, h3, h4⟩ := h l0.length s a (by rw [el]; simp) hI
      rw [← e] at h1
      rw [List.map_cons, forD_next h1 h2 h3]
      exact ih (l0 ++ [a]) (step s a) ρ2 (by rw [el]; simp) h4 (by rw [List.length_append, List.length_singleton]; exact hI')
  exact key l [] s ρ rfl e hI
theorem foldl_app {α β : Type} (g : α → List β) : ∀ (l : List α) (acc : List β), l.foldl (fun acc a => acc ++ g a) acc = acc ++ l.flatMap g
  | [], acc => by simp
  | a :: l, acc => by rw [List.foldl_cons, foldl_app g l]; simp
theorem range_zipIdx {α β : Type} (f : Nat → β) (l : List α) : (List.range l.length).map f = l.zipIdx.map fun p => f p.2 := by
  have e : l.zipIdx.map (fun p : α × Nat => f p.2) = (l.zipIdx.map Prod.snd).map f := by rw [List.map_map]; rfl
  rw [e, List.zipIdx_map_snd, ← List.range_eq_range']
theorem foldl_zipIdx {α S : Type} (g : S → α → S) (l : List α) (s : S) : l.zipIdx.foldl (fun s p => g s p.1) s = l.foldl g s := by
  conv => rhs; rw [← List.zipIdx_map_fst 0 l]
  rw [List.foldl_map]
theorem zipIdx_at {α : Type} {l : List α} {i : Nat} {p : α × Nat} (h : l.zipIdx[i]? = some p) : p.2 = i ∧ l[i]? = some p.1 := by
  rw [List.getElem?_zipIdx] at h
  obtain ⟨a, ha, rfl⟩ := Option.map_eq_some_iff.mp h
  exact ⟨by simp, ha⟩

/-! ### while -/
theorem dWhile_run {vs : List Nat} {tc : DTv} {db : DSv} (I : En → Nat → Prop) (Post : En × Fl → Prop)
    (h : ∀ n ρ, I ρ n → (tc (fgE ρ vs) = some false ∧ Post (fgE ρ vs, .nx)) ∨ (tc (fgE ρ vs) = some true ∧ ∃ ρ2 fl, db (fgE ρ vs) = some (ρ2, fl) ∧
      (((fl = .nx ∨ fl = .ct) ∧ ∃ m, m < n ∧ I ρ2 m) ∨ (fl = .bk ∧ Post (fgE ρ2 vs, .nx)) ∨ ∃ q, fl = .rt q ∧ Post (ρ2, .rt q)))) {n : Nat} {ρ : En} (hI : I ρ n) : ∃ r, dWhile vs tc db ρ = some r ∧ Post r := by
  have key : ∀ n ρ, I ρ n → ∃ k r, whileN vs tc db k ρ = some r ∧ Post r := by
    intro n
    induction n using Nat.strongRecOn with
    | ind n ih =>
      intro ρ hI
      rcases h n ρ hI with ⟨h1, h2⟩ | ⟨h1, ρ2, fl, h2, h3⟩
      · exact ⟨1, _, by show (tc (fgE ρ vs)).bind _ = _; rw [h1]; rfl, h2⟩
      · rcases h3 with ⟨h3, m, hm, hI2⟩ | ⟨rfl, hP⟩ | ⟨q, rfl, hP⟩
        · obtain ⟨k, r, e, hP⟩ := ih m hm ρ2 hI2
          refine ⟨k + 1, r, ?_, hP⟩
          show (tc (fgE ρ vs)).bind _ = _
          rw [h1, Option.bind_some, if_pos rfl, h2, Option.bind_some]
          rcases h3 with rfl | rfl <;> exact e
        · exact ⟨1, _, by show (tc (fgE ρ vs)).bind _ = _; rw [h1, Option.bind_some, if_pos rfl, h2, Option.bind_some], hP⟩
        · exact ⟨1, _, by show (tc (fgE ρ vs)).bind _ = _; rw [h1, Option.bind_some, if_pos rfl, h2, Option.bind_some], hP⟩
  obtain ⟨k, r, e, hP⟩ := key n ρ hI
  exact ⟨r, dWhile_of e, hP⟩

/-! ### the shapes of loops' lists -/
theorem enumP_map {α : Type} (enc : α → PV) : ∀ (l : List α) (n : Nat), enumP n (l.map enc) = (l.zipIdx n).map fun p => .tuple [.int (p.2 : Nat), enc p.1]
  | [], _ => rfl
  | a :: l, n => by
    show PyData.tuple [.int (n : Nat), enc a] :: enumP (n + 1) (l.map enc) = _
    rw [enumP_map enc l (n + 1)]; rfl
theorem zipP_map {α β : Type} (e1 : α → PV) (e2 : β → PV) : ∀ (l : List α) (m : List β), zipP (l.map e1) (m.map e2) = (l.zip m).map fun p => .tuple [e1 p.1, e2 p.2]
  | [], m => by cases m <;> rfl
  | a :: l, [] => rfl
  | a :: l, b :: m => by
    show PyData.tuple [e1 a, e2 b] :: zipP (l.map e1) (m.map e2) = _
    rw [zipP_map e1 e2 l m]; rfl
theorem rngP_map : ∀ (n k : Nat), rngP (k : Int) n = (List.range' k n).map fun (i : Nat) => PyData.int (i : Nat)
  | 0, _ => rfl
  | n + 1, k => by
    show PyData.int (k : Int) :: rngP ((k : Int) + 1) n = _
    rw [show ((k : Int) + 1) = ((k + 1 : Nat) : Int) by omega, rngP_map n (k + 1)]; rfl
theorem rng1_nat {n : Nat} (h : n < 4611686018427387904) : rng1 (.int (n : Nat)) = some ((List.range n).map fun (i : Nat) => PyData.int (i : Nat)) := by
  show (if big62 (n : Int) then some (rngP 0 (n : Int).toNat) else none) = _
  rw [if_pos (by unfold big62; omega), show ((n : Int).toNat) = n by omega]
  have := rngP_map n 0
  rw [show ((0 : Nat) : Int) = 0 by rfl] at this
  rw [this, List.range_eq_range']
theorem eqv_rfl {d : PV} (h : d.canLay0 = true) : PyData.eqv d d = true := SeqAt.eqv_refl d h
end Dn
end
section
set_option linter.all false
set_option maxRecDepth 100000
set_option maxHeartbeats 4000000
namespace K04
open PySem PySem.Spec L2 Dn
/-- a bound that may be absent -/
def oI : Option Int → PV
  | none => .none
  | some i => .int i
@[simp] theorem oI_none : oI none = .none := rfl
@[simp] theorem oI_some (i : Int) : oI (some i) = .int i := rfl
def leastOf : Option Int → Option Int → Option Int
  | none, b => b
  | a, none => a
  | some a, some b => some (if b < a then b else a)
theorem v_less_by (a : Option Int) (b : Int) : den_less_by [oI a, .int b] = some (.va (oI (a.map (· - b)))) := by
  cases a <;> simp [den_less_by, bod_less_by]
theorem v_least_of (a b : Option Int) : den_least_of [oI a, oI b] = some (.va (oI (leastOf a b))) := by
  cases a <;> cases b <;> simp [den_least_of, bod_least_of, leastOf]
end K04
end
section
set_option linter.all false
set_option maxRecDepth 100000
set_option maxHeartbeats 1000000
namespace K04
open PySem PySem.Spec L2 Dn
structure Arc where
  nm : Str
  t : Nat
  h : Nat
  lo : Int
  hi : Option Int
  pr : Int
structure Net where
  nodes : List (Str × Int)
  arcs : List Arc
def Net.names (N : Net) : List Str := N.nodes.map (·.1)
def Net.sups (N : Net) : List Int := N.nodes.map (·.2)
def Net.name (N : Net) (i : Nat) : Str := N.names.getD i default
def encNode (p : Str × Int) : PV := .tuple [.str p.1, .int p.2]
def Net.encArc (N : Net) (a : Arc) : PV := .tuple [.str a.nm, .str (N.name a.t), .str (N.name a.h), .int a.lo, oI a.hi, .int a.pr]
def Net.enc (N : Net) : PV := .tuple [.str "net", .tuple (N.nodes.map encNode), .tuple (N.arcs.map N.encArc)]
structure Net.WF (N : Net) : Prop where
  nd : N.names.Nodup
  ends : ∀ a ∈ N.arcs, a.t < N.nodes.length ∧ a.h < N.nodes.length
  few : N.nodes.length ≤ 1000
  fewA : N.arcs.length ≤ 1000
  lohi : ∀ a ∈ N.arcs, ∀ u, a.hi = some u → a.lo ≤ u
variable {N : Net}
theorem Net.WF.lim (W : N.WF) : Dn.lim (N.nodes.map encNode) = some (N.nodes.map encNode) := lim_ok (by have := W.few; simp; omega)
theorem Net.WF.limA (W : N.WF) : Dn.lim (N.arcs.map N.encArc) = some (N.arcs.map N.encArc) := lim_ok (by have := W.fewA; simp; omega)
theorem v_node_names (W : N.WF) : den_node_names [N.enc] = some (.li (N.names.map .str)) := by
  simp [den_node_names, bod_node_names, Net.enc, W.lim]
  rw [compD_all encNode (fun p => PyData.str p.1) N.nodes fun a _ => ⟨_, rfl, rfl⟩]
  simp [Net.names]
/-- the dict of places -/
def plc : List Str → Nat → List (Key × PV)
  | [], _ => []
  | x :: l, k => (.inr x, .int (k : Nat)) :: plc l (k + 1)
theorem plc_any {x : Str} : ∀ {l : List Str} {k : Nat}, x ∉ l → ((plc l k).any fun kv => decide (kv.1 = .inr x)) = false
  | [], _, _ => rfl
  | y :: l, k, h => by
    have h1 : y ≠ x := fun e => h (by rw [e]; exact List.mem_cons_self)
    have ih := plc_any (l := l) (k := k + 1) fun q => h (List.mem_cons_of_mem _ q)
    simp only [plc, List.any_cons, ih, Bool.or_false]
    simp [h1]
theorem plc_app : ∀ (l m : List Str) (k : Nat), plc (l ++ m) k = plc l k ++ plc m (k + l.length)
  | [], m, k => by simp [plc]
  | x :: l, m, k => by
    show _ :: plc (l ++ m) (k + 1) = _
    rw [plc_app l m (k + 1), List.length_cons, show k + 1 + l.length = k + (l.length + 1) by omega]; rfl
theorem plc_length : ∀ (l : List Str) (k : Nat), (plc l k).length = l.length
  | [], _ => rfl
  | x :: l, k => congrArg (· + 1) (plc_length l (k + 1))
theorem plc_val {x : Str} : ∀ {l : List Str} {k i : Nat}, l.Nodup → l[i]? = some x → valP (plc l k) (.inr x) = some (.int ((k + i : Nat) : Int))
  | [], _, _, _, h => by simp at h
  | y :: l, k, 0, nd, h => by
    have e : y = x := by simpa using h
    subst e
    simp [valP, plc]
  | y :: l, k, i + 1, nd, h => by
    have h' : l[i]? = some x := by simpa using h
    have hm : x ∈ l := List.mem_of_getElem? h'
    have h1 : y ≠ x := fun e => (List.nodup_cons.mp nd).1 (by rw [e]; exact hm)
    have ih := plc_val (k := k + 1) (List.nodup_cons.mp nd).2 h'
    unfold valP at ih ⊢
    simp only [plc]
    rw [List.find?_cons_of_neg (by simp [h1]), ih]
    congr 2
    omega
theorem compKV_plc {t : Tg} {tk tv : DPv} {ρ : En} (h : ∀ (x : Str) (i : Nat), ∃ ρ1, tgB t (.tuple [.int (i : Nat), .str x]) ρ = some ρ1 ∧ tk ρ1 = some (.str x) ∧ tv ρ1 = some (.int (i : Nat))) : ∀ (m l : List Str), (l ++ m).Nodup → (l ++ m).length ≤ 1000 →
    compKV t tk tv ρ (enumP l.length (m.map .str)) (plc l 0) = some (plc (l ++ m) 0)
  | [], l, _, _ => by rw [List.append_nil]; rfl
  | x :: m, l, nd, hl => by
    obtain ⟨ρ1, h1, h2, h3⟩ := h x l.length
    show (tgB t (.tuple [.int (l.length : Nat), .str x]) ρ).bind _ = _
    rw [h1, Option.bind_some, h2, Option.bind_some]
    show (tv ρ1).bind _ = _
    rw [h3, Option.bind_some, if_pos (by rw [plc_length]; simp at hl; omega)]
    have hx : x ∉ l := by
      intro q
      have := List.nodup_append.mp nd
      exact this.2.2 x q x List.mem_cons_self rfl
    have e : putP (plc l 0) (.inr x) (.int (l.length : Nat)) = plc (l ++ [x]) 0 := by
      unfold putP
      rw [plc_any hx, if_neg (by simp), plc_app]
      simp [plc]
    rw [e]
    have ih := compKV_plc h m (l ++ [x]) (by simpa using nd) (by simpa using hl)
    rw [List.length_append, List.length_singleton] at ih
    rw [ih]
    simp
def encEnd (a : Arc) : PV := .tuple [.int (a.t : Nat), .int (a.h : Nat)]
theorem Net.WF.at (W : N.WF) {i : Nat} (h : i < N.nodes.length) : N.names[i]? = some (N.name i) := by
  unfold Net.name Net.names
  rw [List.getD_eq_getElem?_getD, List.getElem?_map, List.getElem?_eq_getElem h]; rfl
theorem v_ends (W : N.WF) : den_ends_by_place [N.enc] = some (.li (N.arcs.map encEnd)) := by
  have hk := compKV_plc (t := .tp [.nm 2, .nm 3]) (tk := dVar 3) (tv := dVar 2) (ρ := [.fz N.enc, .un, .un, .un, .un]) (fun x i => ⟨_, rfl, rfl, rfl⟩) N.names [] (by simpa using W.nd) (by simpa [Net.names] using W.few)
  simp only [List.nil_append] at hk
  have e0 : plc [] 0 = [] := rfl
  rw [e0] at hk
  simp only [List.length_nil] at hk
  simp [den_ends_by_place, bod_ends_by_place, v_node_names W, hk]
  simp only [Net.enc]
  simp [W.limA]
  rw [compD_all N.encArc encEnd N.arcs fun a ha => ⟨_, rfl, ?_⟩]
  · simp
  · have h1 := plc_val (k := 0) W.nd (W.at (W.ends a ha).1)
    have h2 := plc_val (k := 0) W.nd (W.at (W.ends a ha).2)
    simp [Net.encArc, keyP, h1, h2, encEnd, Dn.lim]
end K04
end
section
set_option linter.all false
set_option maxRecDepth 100000
set_option maxHeartbeats 1000000
namespace K04
open PySem PySem.Spec L2 Dn
theorem aug_own {i : Nat} {g : Int → Int → Int} {dj da : DPv} {ρ : En} {r : List Int} {t : Nat} {x : Int} (h : ρ[i]? = some (Sl.ol (r.map .int))) (hj : dj ρ = some (.int (t : Nat))) (ha : da ρ = some (.int x)) (ht : t < r.length) :
    dAugIx i g dj da ρ = some (ρ.set i (.ol ((r.set t (g (r.getD t 0) x)).map .int)), .nx) := by
  have e1 : ixN (r.map PyData.int).length (t : Int) = some t := ixN_nat (by simpa using ht)
  have e2 : (r.map PyData.int)[t]? = some (.int (r.getD t 0)) := by
    rw [List.getElem?_map, List.getElem?_eq_getElem ht, List.getD_eq_getElem?_getD, List.getElem?_eq_getElem ht]; rfl
  simp only [dAugIx_ap, hj, ha, Option.bind_some, asInt_i, ownL_ap, h, e1, e2, Option.map_some, putL_ap, List.map_set]
theorem set_own {i : Nat} {dj da : DPv} {ρ : En} {l : List PV} {t : Nat} {p : PV} (h : ρ[i]? = some (Sl.ol l)) (hj : dj ρ = some (.int (t : Nat))) (ha : da ρ = some p) (ht : t < l.length) :
    dSetIx i dj da ρ = some (ρ.set i (.ol (l.set t p)), .nx) := by
  simp only [dSetIx_ap, hj, ha, Option.bind_some, asInt_i, ownL_ap, h, ixN_nat ht, Option.map_some, putL_ap]
theorem app_own {i : Nat} {da : DPv} {ρ : En} {l : List PV} {p : PV} (h : ρ[i]? = some (Sl.ol l)) (ha : da ρ = some p) (ht : l.length < 16777216) :
    dApp i da ρ = some (ρ.set i (.ol (l ++ [p])), .nx) := by
  simp only [dApp_ap, ha, Option.bind_some, ownL_ap, h, if_pos ht, putL_ap]
def addAt (r : List Int) (i : Nat) (x : Int) : List Int := r.set i (r.getD i 0 + x)
@[simp] theorem addAt_length {r : List Int} {i : Nat} {x : Int} : (addAt r i x).length = r.length := by unfold addAt; simp
theorem addAt_get {r : List Int} {i v : Nat} {x : Int} (h : i < r.length) : (addAt r i x).getD v 0 = r.getD v 0 + if v = i then x else 0 := by
  unfold addAt
  by_cases e : v = i
  · subst e
    simp [List.getD_eq_getElem?_getD, List.getElem?_set_self h]
  · simp [List.getD_eq_getElem?_getD, List.getElem?_set_ne (Ne.symm e), e]
def mv (r : List Int) (t h : Nat) (x : Int) : List Int := addAt (addAt r t (-x)) h x
@[simp] theorem mv_length {r : List Int} {t h : Nat} {x : Int} : (mv r t h x).length = r.length := by unfold mv; simp
variable {N : Net}
def Net.rest (N : Net) (f : List Int) : List Int := (N.arcs.zip f).foldl (fun r p => mv r p.1.t p.1.h p.2) N.sups
def encF (f : List Int) : PV := .tuple (f.map .int)
theorem v_left_over (W : N.WF) (f : List Int) : den_left_over [N.enc, encF f] = some (.li ((N.rest f).map .int)) := by
  have hc : compD (.nm 6) dYes (dIx (dS (dVar 6)) (dC (.int 1))) [.fz N.enc, .fz (encF f), .un, .un, .un, .un, .un] (N.nodes.map encNode) = some (N.sups.map .int) := by
    rw [compD_all encNode (fun p => PyData.int p.2) N.nodes fun a _ => ⟨_, rfl, rfl⟩]
    simp [Net.sups]
  have hz := zipP_map encEnd PyData.int N.arcs f
  let st : List Int → En := fun r => [.fz N.enc, .fz (encF f), .ol (r.map .int), .un, .un, .un, .un]
  have loop := forD_fold (vs := [3, 4, 5]) (t := .tp [.tp [.nm 3, .nm 4], .nm 5]) (db := dSeq (dAugIx 2 (fun i j => i - j) (dVar 3) (dVar 5)) (dAugIx 2 (fun i j => i + j) (dVar 4) (dVar 5)))
    (fun p : Arc × Int => PyData.tuple [encEnd p.1, .int p.2]) st (fun r p => mv r p.1.t p.1.h p.2) (fun r => r.length = N.nodes.length) (N.arcs.zip f) N.sups (st N.sups) rfl (by simp [Net.sups]) (fun r p hp hr => by
      have hm : p.1 ∈ N.arcs := (List.of_mem_zip hp).1
      obtain ⟨ht, hh⟩ := W.ends p.1 hm
      refine ⟨by simp [hr], [.fz N.enc, .fz (encF f), .ol (r.map .int), .fz (.int p.1.t), .fz (.int p.1.h), .fz (.int p.2), .un], [.fz N.enc, .fz (encF f), .ol ((mv r p.1.t p.1.h p.2).map .int), .fz (.int p.1.t), .fz (.int p.1.h), .fz (.int p.2), .un], .nx, rfl, ?_, .inl rfl, rfl⟩
      rw [dSeq_ap, aug_own (r := r) (t := p.1.t) (x := p.2) rfl rfl rfl (by omega)]
      simp only [Option.bind_some]
      rw [aug_own (r := r.set p.1.t (r.getD p.1.t 0 - p.2)) (t := p.1.h) (x := p.2) rfl rfl rfl (by simp; omega)]
      simp [mv, addAt, Int.sub_eq_add_neg])
  have l1 : N.enc = .tuple [.str "net", .tuple (N.nodes.map encNode), .tuple (N.arcs.map N.encArc)] := rfl
  have a1 : (dComp (dS (dIx (dS (dVar 0)) (dC (.int 1)))) (.nm 6) [6] dYes (dIx (dS (dVar 6)) (dC (.int 1)))) [.fz N.enc, .fz (encF f), .un, .un, .un, .un, .un] = some (N.sups.map .int) := by
    simp [l1, W.lim]
    rw [← l1]; exact hc
  have a2 : (dZip (dS (dFz (dCallL den_ends_by_place (dCons (dVar 0) dNil)))) (dS (dVar 1))) (st N.sups) = some ((N.arcs.zip f).map (fun p : Arc × Int => PyData.tuple [encEnd p.1, .int p.2])) := by
    simp [st, v_ends W, encF, hz]
  have a3 : bod_left_over [.fz N.enc, .fz (encF f), .un, .un, .un, .un, .un] = some (st (N.rest f), .rt (.li ((N.rest f).map .int))) := by
    unfold bod_left_over
    rw [dSeq_ap, dAsgO_ap, a1]
    show (dSeq _ _ (st N.sups)) = _
    rw [dSeq_ap, dFor_ap, a2, Option.bind_some, loop.1]
    rfl
  exact runD_rt rfl rfl a3
theorem rest_length (f : List Int) : (N.rest f).length = N.nodes.length := by
  unfold Net.rest
  have key : ∀ (l : List (Arc × Int)) (r : List Int), (l.foldl (fun r p => mv r p.1.t p.1.h p.2) r).length = r.length := by
    intro l
    induction l with
    | nil => intro r; rfl
    | cons p l ih => intro r; rw [List.foldl_cons, ih]; simp
  rw [key]; simp [Net.sups]
end K04
end
section
set_option linter.all false
set_option maxRecDepth 100000
set_option maxHeartbeats 1000000
namespace K04
open PySem PySem.Spec L2 Dn
variable {N : Net}
theorem eqv_str {x y : Str} : PyData.eqv (.str x) (.str y) = (x == y) := by simp [PyData.eqv]
theorem all_flat_str (l : List Str) : (l.map PyData.str).all flatP = true := by
  induction l with
  | nil => rfl
  | cons x l ih => rw [List.map_cons, List.all_cons, ih]; rfl
theorem gIndex_str {l : List Str} {i : Nat} {x : Str} (nd : l.Nodup) (h : l[i]? = some x) : gIndex (l.map .str) (.str x) = some (.int (i : Nat)) := by
  unfold gIndex
  rw [if_pos ⟨rfl, all_flat_str l⟩]
  have hi := (List.getElem?_eq_some_iff.mp h).1
  have hx := (List.getElem?_eq_some_iff.mp h).2
  have e : (l.map PyData.str).findIdx? (fun y => PyData.eqv y (.str x)) = some i := by
    rw [List.findIdx?_eq_some_iff_getElem]
    refine ⟨by simpa using hi, by simp [hx, eqv_str], fun j hj => ?_⟩
    simp only [List.getElem_map, eqv_str, beq_iff_eq]
    intro e
    have hj' : j < l.length := by omega
    have := (List.getElem_inj (xs := l) (h₀ := hj') (h₁ := hi) nd).mp (by rw [e, hx])
    omega
  rw [e]; rfl
theorem ix_name (W : N.WF) {i : Nat} (h : i < N.nodes.length) : gIndex (N.names.map .str) (.str (N.name i)) = some (.int (i : Nat)) := gIndex_str W.nd (W.at h)
theorem atI_map {α : Type} {enc : α → PV} {l : List α} {i : Nat} {a : α} (h : l[i]? = some a) : atI (l.map enc) (i : Int) = some (enc a) := by
  rw [Dn.atI_nat, List.getElem?_map, h]; rfl
theorem zip_at {α β : Type} {l : List α} {m : List β} {i : Nat} {p : α × β} (h : (l.zip m)[i]? = some p) : l[i]? = some p.1 ∧ m[i]? = some p.2 := by
  rw [List.getElem?_zip_eq_some] at h
  exact h
theorem v_law_rest (W : N.WF) (f : List Int) (hf : f.length = N.arcs.length) : den_law_rest [N.enc, encF f] = some (.li ((N.rest f).map .int)) := by
  have l1 : N.enc = .tuple [.str "net", .tuple (N.nodes.map encNode), .tuple (N.arcs.map N.encArc)] := rfl
  let st : List Int → En := fun r => [.fz N.enc, .fz (encF f), .fz (.list (N.names.map .str)), .ol (r.map .int), .un, .un, .un]
  have hz : (N.arcs.zip f).length = N.arcs.length := by rw [List.length_zip, hf, Nat.min_self]
  have loop := forD_foldI (vs := [4]) (t := .nm 4) (db := (dSeq (dSetIx 3 (dIndex (dLs (dVar 2)) (dIx (dS (dIx (dS (dIx (dS (dVar 0)) (dC (.int 2)))) (dVar 4))) (dC (.int 1)))) (dB pSub (dIx (dOwn 3) (dIndex (dLs (dVar 2)) (dIx (dS (dIx (dS (dIx (dS (dVar 0)) (dC (.int 2)))) (dVar 4))) (dC (.int 1))))) (dIx (dS (dVar 1)) (dVar 4))))
    (dSetIx 3 (dIndex (dLs (dVar 2)) (dIx (dS (dIx (dS (dIx (dS (dVar 0)) (dC (.int 2)))) (dVar 4))) (dC (.int 2)))) (dB pAdd (dIx (dOwn 3) (dIndex (dLs (dVar 2)) (dIx (dS (dIx (dS (dIx (dS (dVar 0)) (dC (.int 2)))) (dVar 4))) (dC (.int 2))))) (dIx (dS (dVar 1)) (dVar 4))))))
    (fun p : (Arc × Int) × Nat => PyData.int (p.2 : Nat)) st (fun r p => mv r p.1.1.t p.1.1.h p.1.2) (fun _ r => r.length = N.nodes.length) (N.arcs.zip f).zipIdx N.sups (st N.sups) rfl (by simp [Net.sups]) (fun i r p hp hr => by
      obtain ⟨e2, hp⟩ := zipIdx_at hp
      obtain ⟨ha, hx⟩ := zip_at hp
      obtain ⟨⟨a, x⟩, k⟩ := p
      simp only at e2 ha hx
      subst e2
      obtain ⟨ht, hh⟩ := W.ends a (List.mem_of_getElem? ha)
      have aA := atI_map (enc := N.encArc) ha
      have aF := atI_map (enc := PyData.int) hx
      refine ⟨by simp [hr], [.fz N.enc, .fz (encF f), .fz (.list (N.names.map .str)), .ol (r.map .int), .fz (.int (k : Nat)), .un, .un], [.fz N.enc, .fz (encF f), .fz (.list (N.names.map .str)), .ol ((mv r a.t a.h x).map .int), .fz (.int (k : Nat)), .un, .un], .nx, rfl, ?_, .inl rfl, rfl⟩
      have r1 : atI (r.map PyData.int) (a.t : Int) = some (.int (r.getD a.t 0)) := atI_map (by rw [List.getD_eq_getElem?_getD, List.getElem?_eq_getElem (by omega)]; rfl)
      rw [dSeq_ap, set_own (l := r.map .int) (t := a.t) (p := .int (r.getD a.t 0 - x)) rfl (by simp [l1, aA, Net.encArc, ix_name W ht]) (by simp [l1, aA, aF, encF, Net.encArc, ix_name W ht, r1]) (by simp; omega)]
      simp only [Option.bind_some]
      have el : (r.map PyData.int).set a.t (.int (r.getD a.t 0 - x)) = (addAt r a.t (-x)).map .int := by unfold addAt; rw [List.map_set, Int.sub_eq_add_neg]
      have r2 : atI ((addAt r a.t (-x)).map PyData.int) (a.h : Int) = some (.int ((addAt r a.t (-x)).getD a.h 0)) := atI_map (by rw [List.getD_eq_getElem?_getD, List.getElem?_eq_getElem (by simp; omega)]; rfl)
      rw [el]
      show dSetIx 3 _ _ [.fz N.enc, .fz (encF f), .fz (.list (N.names.map .str)), .ol ((addAt r a.t (-x)).map .int), .fz (.int (k : Nat)), .un, .un] = _
      rw [set_own (l := (addAt r a.t (-x)).map .int) (t := a.h) (p := .int ((addAt r a.t (-x)).getD a.h 0 + x)) rfl (by simp [l1, aA, Net.encArc, ix_name W hh]) (by simp [l1, aA, aF, encF, Net.encArc, ix_name W hh, r2]) (by simp; omega)]
      have e3 : ((addAt r a.t (-x)).map PyData.int).set a.h (.int ((addAt r a.t (-x)).getD a.h 0 + x)) = (mv r a.t a.h x).map .int := by
        show _ = ((addAt r a.t (-x)).set a.h ((addAt r a.t (-x)).getD a.h 0 + x)).map PyData.int
        rw [List.map_set]
      rw [e3]
      rfl)
  have c1 : ∀ s3 : Sl, compD (.tp [.nm 5, .nm 6]) dYes (dVar 5) [.fz N.enc, .fz (encF f), .un, .un, .un, .un, .un] (N.nodes.map encNode) = some (N.names.map .str) := fun _ => by
    rw [compD_all encNode (fun p => PyData.str p.1) N.nodes fun a _ => ⟨_, rfl, rfl⟩]
    simp [Net.names]
  have c2 : compD (.tp [.nm 5, .nm 6]) dYes (dVar 6) [.fz N.enc, .fz (encF f), .fz (.list (N.names.map .str)), .un, .un, .un, .un] (N.nodes.map encNode) = some (N.sups.map .int) := by
    rw [compD_all encNode (fun p => PyData.int p.2) N.nodes fun a _ => ⟨_, rfl, rfl⟩]
    simp [Net.sups]
  have hr : (dRng1 (dG gLen (dS (dIx (dS (dVar 0)) (dC (.int 2)))))) (st N.sups) = some ((N.arcs.zip f).zipIdx.map fun p : (Arc × Int) × Nat => PyData.int (p.2 : Nat)) := by
    have e1 : (dG gLen (dS (dIx (dS (dVar 0)) (dC (.int 2))))) (st N.sups) = some (.int (N.arcs.length : Nat)) := by simp [st, l1]
    rw [dRng1_ap, e1, Option.bind_some, rng1_nat (n := N.arcs.length) (Nat.lt_of_le_of_lt W.fewA (by decide)), ← hz, range_zipIdx]
  refine runD_rt (ρ' := st (N.rest f)) rfl rfl ?_
  show bod_law_rest [.fz N.enc, .fz (encF f), .un, .un, .un, .un, .un] = _
  unfold bod_law_rest
  have s1 : (dAsg 2 (dFz (dComp (dS (dIx (dS (dVar 0)) (dC (.int 1)))) (.tp [(.nm 5), (.nm 6)]) [5, 6] dYes (dVar 5)))) [.fz N.enc, .fz (encF f), .un, .un, .un, .un, .un] = some ([.fz N.enc, .fz (encF f), .fz (.list (N.names.map .str)), .un, .un, .un, .un], .nx) := by
    have := c1 .un
    rw [l1] at this ⊢
    simp [W.lim, this]
  have s2 : (dAsgO 3 (dComp (dS (dIx (dS (dVar 0)) (dC (.int 1)))) (.tp [(.nm 5), (.nm 6)]) [5, 6] dYes (dVar 6))) [.fz N.enc, .fz (encF f), .fz (.list (N.names.map .str)), .un, .un, .un, .un] = some (st N.sups, .nx) := by
    have := c2
    simp only [st]
    rw [l1] at this ⊢
    simp [W.lim, this]
  rw [seq_nx s1, seq_nx s2, dSeq_ap, dFor_ap, hr, Option.bind_some, loop.1]
  rw [foldl_zipIdx (g := fun r (p : Arc × Int) => mv r p.1.t p.1.h p.2)]
  rfl
end K04
end
section
set_option linter.all false
set_option maxRecDepth 100000
set_option maxHeartbeats 1000000
namespace K04
open PySem PySem.Spec L2 Dn
variable {N : Net}
structure Step where
  i : Nat
  j : Nat
  k : Nat
  w : Int
  room : Option Int
  pr : Int
def encStep (s : Step) : PV := .tuple [.int (s.i : Nat), .int (s.j : Nat), .int (s.k : Nat), .int s.w, oI s.room, .int s.pr]
def fwd (k : Nat) (a : Arc) (x : Int) : List Step := match a.hi with
  | none => [⟨a.t, a.h, k, 1, none, a.pr⟩]
  | some u => if 0 < u - x then [⟨a.t, a.h, k, 1, some (u - x), a.pr⟩] else []
def bwd (k : Nat) (a : Arc) (x : Int) : List Step := if a.lo < x then [⟨a.h, a.t, k, -1, some (x - a.lo), -a.pr⟩] else []
def stepsAt (p : (Arc × Int) × Nat) : List Step := fwd p.2 p.1.1 p.1.2 ++ bwd p.2 p.1.1 p.1.2
def Net.steps (N : Net) (f : List Int) : List Step := (N.arcs.zip f).zipIdx.flatMap stepsAt
theorem fwd_length {k : Nat} {a : Arc} {x : Int} : (fwd k a x).length ≤ 1 := by
  unfold fwd; split
  · simp
  · split <;> simp
theorem bwd_length {k : Nat} {a : Arc} {x : Int} : (bwd k a x).length ≤ 1 := by
  unfold bwd; split <;> simp
theorem stepsAt_length (p : (Arc × Int) × Nat) : (stepsAt p).length ≤ 2 := by
  have h1 := fwd_length (k := p.2) (a := p.1.1) (x := p.1.2)
  have h2 := bwd_length (k := p.2) (a := p.1.1) (x := p.1.2)
  unfold stepsAt
  rw [List.length_append]; omega
theorem enum_arcs (f : List Int) (hf : f.length = N.arcs.length) : enumP 0 (N.arcs.map N.encArc) = (N.arcs.zip f).zipIdx.map fun p : (Arc × Int) × Nat => PyData.tuple [.int (p.2 : Nat), N.encArc p.1.1] := by
  have e : N.arcs = (N.arcs.zip f).map Prod.fst := by rw [List.map_fst_zip (by omega)]
  rw [enumP_map]
  conv => lhs; rw [e, List.zipIdx_map]
  rw [List.map_map]
  rfl
theorem range_arcs (f : List Int) (hf : f.length = N.arcs.length) (W : N.WF) : rng1 (.int (N.arcs.length : Nat)) = some ((N.arcs.zip f).zipIdx.map fun p : (Arc × Int) × Nat => PyData.int (p.2 : Nat)) := by
  have hz : (N.arcs.zip f).length = N.arcs.length := by rw [List.length_zip, hf, Nat.min_self]
  rw [rng1_nat (n := N.arcs.length) (Nat.lt_of_le_of_lt W.fewA (by decide)), ← hz, range_zipIdx]
theorem v_steps_of (W : N.WF) (f : List Int) (hf : f.length = N.arcs.length) : den_steps_of [N.enc, encF f] = some (.li ((N.steps f).map encStep)) := by
  have l1 : N.enc = .tuple [.str "net", .tuple (N.nodes.map encNode), .tuple (N.arcs.map N.encArc)] := rfl
  let st : List Step → En := fun acc => [.fz N.enc, .fz (encF f), .ol (acc.map encStep), .fz (.list (N.arcs.map encEnd)), .un, .un, .un, .un, .un]
  have hz : (N.arcs.zip f).length = N.arcs.length := by rw [List.length_zip, hf, Nat.min_self]
  have loop := forD_foldI (vs := [4, 5, 6, 7, 8]) (t := .tp [.nm 4, .nm 5]) (db := (dSeq (dTgt (.tp [(.nm 6), (.nm 7)]) (dIx (dS (dVar 3)) (dVar 4)))
    (dSeq (dAsg 8 (dCall den_less_by (dCons (dIx (dS (dVar 5)) (dC (.int 4))) (dCons (dIx (dS (dVar 1)) (dVar 4)) dNil))))
    (dSeq (dIfS (dOr (dTst (dB pIsN (dVar 8) (dC .none))) (dTst (dB pGt (dVar 8) (dC (.int 0))))) (dApp 2 (dTup (dCons (dVar 6) (dCons (dVar 7) (dCons (dVar 4) (dCons (dC (.int 1)) (dCons (dVar 8) (dCons (dIx (dS (dVar 5)) (dC (.int 5))) dNil)))))))) dSkip)
    (dIfS (dTst (dB pGt (dIx (dS (dVar 1)) (dVar 4)) (dIx (dS (dVar 5)) (dC (.int 3))))) (dApp 2 (dTup (dCons (dVar 7) (dCons (dVar 6) (dCons (dVar 4) (dCons (dU pNeg (dC (.int 1))) (dCons (dB pSub (dIx (dS (dVar 1)) (dVar 4)) (dIx (dS (dVar 5)) (dC (.int 3)))) (dCons (dU pNeg (dIx (dS (dVar 5)) (dC (.int 5)))) dNil)))))))) dSkip)))))
    (fun p : (Arc × Int) × Nat => PyData.tuple [.int (p.2 : Nat), N.encArc p.1.1]) st (fun acc p => acc ++ stepsAt p) (fun i acc => acc.length ≤ 2 * i) (N.arcs.zip f).zipIdx [] (st []) rfl (Nat.le_refl _) (fun i acc p hp hr => by
      have hi := (List.getElem?_eq_some_iff.mp hp).1
      obtain ⟨e2, hp⟩ := zipIdx_at hp
      obtain ⟨ha, hx⟩ := zip_at hp
      obtain ⟨⟨a, x⟩, k⟩ := p
      simp only at e2 ha hx
      subst e2
      have aE := atI_map (enc := encEnd) ha
      have aF := atI_map (enc := PyData.int) hx
      have hb : acc.length ≤ 2000 := by
        have := W.fewA
        rw [List.length_zipIdx, hz] at hi
        omega
      have h2 := stepsAt_length ((a, x), k)
      refine ⟨by rw [List.length_append]; omega, [.fz N.enc, .fz (encF f), .ol (acc.map encStep), .fz (.list (N.arcs.map encEnd)), .fz (.int (k : Nat)), .fz (N.encArc a), .un, .un, .un],
        [.fz N.enc, .fz (encF f), .ol ((acc ++ stepsAt ((a, x), k)).map encStep), .fz (.list (N.arcs.map encEnd)), .fz (.int (k : Nat)), .fz (N.encArc a), .fz (.int (a.t : Nat)), .fz (.int (a.h : Nat)), .fz (oI (a.hi.map (· - x)))], .nx, rfl, ?_, .inl rfl, rfl⟩
      have q1 : acc.length < 16777216 := by omega
      have q2 : acc.length + 1 < 16777216 := by omega
      rcases h : a.hi with _ | u
      · have hl := v_less_by none x
        simp only [oI_none, Option.map_none] at hl
        by_cases h3 : a.lo < x <;> simp [aE, aF, encEnd, encF, Net.encArc, hl, h, stepsAt, fwd, bwd, h3, encStep, Dn.lim, q1, q2]
      · have hl := v_less_by (some u) x
        simp only [oI_some, Option.map_some] at hl
        by_cases h3 : a.lo < x <;> by_cases h4 : x < u <;> simp [aE, aF, encEnd, encF, Net.encArc, hl, h, stepsAt, fwd, bwd, h3, h4, encStep, Dn.lim, q1, q2])
  have s1 : (dAsgO 2 (dLst dNil)) [.fz N.enc, .fz (encF f), .un, .un, .un, .un, .un, .un, .un] = some ([.fz N.enc, .fz (encF f), .ol [], .un, .un, .un, .un, .un, .un], .nx) := rfl
  have s2 : (dAsg 3 (dFz (dCallL den_ends_by_place (dCons (dVar 0) dNil)))) [.fz N.enc, .fz (encF f), .ol [], .un, .un, .un, .un, .un, .un] = some (st [], .nx) := by
    simp [v_ends W, st]
  have s3 : (dEnum (dS (dIx (dS (dVar 0)) (dC (.int 2))))) (st []) = some ((N.arcs.zip f).zipIdx.map fun p : (Arc × Int) × Nat => PyData.tuple [.int (p.2 : Nat), N.encArc p.1.1]) := by
    rw [← enum_arcs f hf]
    simp [st, l1]
  refine runD_rt (ρ' := st (N.steps f)) rfl rfl ?_
  show bod_steps_of [.fz N.enc, .fz (encF f), .un, .un, .un, .un, .un, .un, .un] = _
  unfold bod_steps_of
  rw [seq_nx s1, seq_nx s2, dSeq_ap, dFor_ap, s3, Option.bind_some, loop.1, foldl_app]
  rfl
end K04
end
section
set_option linter.all false
set_option maxRecDepth 100000
set_option maxHeartbeats 1000000
namespace K04
open PySem PySem.Spec L2 Dn
variable {N : Net}
theorem v_law_steps (W : N.WF) (f : List Int) (hf : f.length = N.arcs.length) : den_law_steps [N.enc, encF f] = some (.li ((N.steps f).map encStep)) := by
  have l1 : N.enc = .tuple [.str "net", .tuple (N.nodes.map encNode), .tuple (N.arcs.map N.encArc)] := rfl
  let st : List Step → En := fun acc => [.fz N.enc, .fz (encF f), .fz (.list (N.names.map .str)), .ol (acc.map encStep), .un, .un, .un, .un, .un, .un, .un, .un, .un, .un]
  have hz : (N.arcs.zip f).length = N.arcs.length := by rw [List.length_zip, hf, Nat.min_self]
  have loop := forD_foldI (vs := [4, 5, 6, 7, 8, 9, 10, 11, 12]) (t := .nm 4) (db := (dSeq (dTgt (.tp [(.nm 5), (.nm 6), (.nm 7), (.nm 8), (.nm 9), (.nm 10)]) (dIx (dS (dIx (dS (dVar 0)) (dC (.int 2)))) (dVar 4)))
    (dSeq (dAsg 11 (dIndex (dLs (dVar 2)) (dVar 6)))
    (dSeq (dAsg 12 (dIndex (dLs (dVar 2)) (dVar 7)))
    (dSeq (dIfS (dTst (dB pIsN (dVar 9) (dC .none))) (dApp 3 (dTup (dCons (dVar 11) (dCons (dVar 12) (dCons (dVar 4) (dCons (dC (.int 1)) (dCons (dC .none) (dCons (dVar 10) dNil)))))))) (dIfS (dTst (dB pLt (dIx (dS (dVar 1)) (dVar 4)) (dVar 9))) (dApp 3 (dTup (dCons (dVar 11) (dCons (dVar 12) (dCons (dVar 4) (dCons (dC (.int 1)) (dCons (dB pSub (dVar 9) (dIx (dS (dVar 1)) (dVar 4))) (dCons (dVar 10) dNil)))))))) dSkip))
    (dIfS (dTst (dB pGt (dIx (dS (dVar 1)) (dVar 4)) (dVar 8))) (dApp 3 (dTup (dCons (dVar 12) (dCons (dVar 11) (dCons (dVar 4) (dCons (dU pNeg (dC (.int 1))) (dCons (dB pSub (dIx (dS (dVar 1)) (dVar 4)) (dVar 8)) (dCons (dB pSub (dC (.int 0)) (dVar 10)) dNil)))))))) dSkip))))))
    (fun p : (Arc × Int) × Nat => PyData.int (p.2 : Nat)) st (fun acc p => acc ++ stepsAt p) (fun i acc => acc.length ≤ 2 * i) (N.arcs.zip f).zipIdx [] (st []) (by simp [st]) (Nat.le_refl _) (fun i acc p hp hr => by
      have hi := (List.getElem?_eq_some_iff.mp hp).1
      obtain ⟨e2, hp⟩ := zipIdx_at hp
      obtain ⟨ha, hx⟩ := zip_at hp
      obtain ⟨⟨a, x⟩, k⟩ := p
      simp only at e2 ha hx
      subst e2
      obtain ⟨ht, hh⟩ := W.ends a (List.mem_of_getElem? ha)
      have aA := atI_map (enc := N.encArc) ha
      have aF := atI_map (enc := PyData.int) hx
      have hb : acc.length ≤ 2000 := by
        have := W.fewA
        rw [List.length_zipIdx, hz] at hi
        omega
      have h2 := stepsAt_length ((a, x), k)
      refine ⟨by rw [List.length_append]; omega, [.fz N.enc, .fz (encF f), .fz (.list (N.names.map .str)), .ol (acc.map encStep), .fz (.int (k : Nat)), .un, .un, .un, .un, .un, .un, .un, .un, .un],
        [.fz N.enc, .fz (encF f), .fz (.list (N.names.map .str)), .ol ((acc ++ stepsAt ((a, x), k)).map encStep), .fz (.int (k : Nat)), .fz (.str a.nm), .fz (.str (N.name a.t)), .fz (.str (N.name a.h)), .fz (.int a.lo), .fz (oI a.hi), .fz (.int a.pr), .fz (.int (a.t : Nat)), .fz (.int (a.h : Nat)), .un], .nx, rfl, ?_, .inl rfl, by simp [st]⟩
      have q1 : acc.length < 16777216 := by omega
      have q2 : acc.length + 1 < 16777216 := by omega
      rcases h : a.hi with _ | u
      · by_cases h3 : a.lo < x <;> simp [l1, aA, aF, encF, Net.encArc, h, stepsAt, fwd, bwd, h3, encStep, Dn.lim, q1, q2, ix_name W ht, ix_name W hh]
      · by_cases h3 : a.lo < x <;> by_cases h4 : x < u <;> simp [l1, aA, aF, encF, Net.encArc, h, stepsAt, fwd, bwd, h3, h4, encStep, Dn.lim, q1, q2, ix_name W ht, ix_name W hh])
  have s1 : (dAsg 2 (dFz (dComp (dS (dIx (dS (dVar 0)) (dC (.int 1)))) (.tp [(.nm 5), (.nm 13)]) [5, 13] dYes (dVar 5)))) [.fz N.enc, .fz (encF f), .un, .un, .un, .un, .un, .un, .un, .un, .un, .un, .un, .un] = some ([.fz N.enc, .fz (encF f), .fz (.list (N.names.map .str)), .un, .un, .un, .un, .un, .un, .un, .un, .un, .un, .un], .nx) := by
    have : compD (.tp [.nm 5, .nm 13]) dYes (dVar 5) [.fz N.enc, .fz (encF f), .un, .un, .un, .un, .un, .un, .un, .un, .un, .un, .un, .un] (N.nodes.map encNode) = some (N.names.map .str) := by
      rw [compD_all encNode (fun p => PyData.str p.1) N.nodes fun a _ => ⟨_, rfl, rfl⟩]
      simp [Net.names]
    rw [l1] at this ⊢
    simp [W.lim, this]
  have s2 : (dAsgO 3 (dLst dNil)) [.fz N.enc, .fz (encF f), .fz (.list (N.names.map .str)), .un, .un, .un, .un, .un, .un, .un, .un, .un, .un, .un] = some (st [], .nx) := rfl
  have s3 : (dRng1 (dG gLen (dS (dIx (dS (dVar 0)) (dC (.int 2)))))) (st []) = some ((N.arcs.zip f).zipIdx.map fun p : (Arc × Int) × Nat => PyData.int (p.2 : Nat)) := by
    have e1 : (dG gLen (dS (dIx (dS (dVar 0)) (dC (.int 2))))) (st []) = some (.int (N.arcs.length : Nat)) := by simp [st, l1]
    rw [dRng1_ap, e1, Option.bind_some, range_arcs f hf W]
  refine runD_rt (ρ' := st (N.steps f)) rfl rfl ?_
  show bod_law_steps [.fz N.enc, .fz (encF f), .un, .un, .un, .un, .un, .un, .un, .un, .un, .un, .un, .un] = _
  unfold bod_law_steps
  rw [seq_nx s1, seq_nx s2, dSeq_ap, dFor_ap, s3, Option.bind_some, loop.1, foldl_app]
  rfl
/-- steps, by where they start -/
def startsAt (n : Nat) (l : List Step) : List (List Step) := (List.range n).map fun v => l.filter fun s => s.i == v
theorem steps_mem {f : List Int} {s : Step} (h : s ∈ N.steps f) : ∃ a x, (N.arcs.zip f)[s.k]? = some (a, x) ∧ ((s.i = a.t ∧ s.j = a.h ∧ s.w = 1 ∧ s.room = a.hi.map (· - x) ∧ s.pr = a.pr ∧ ∀ u, a.hi = some u → x < u) ∨ (s.i = a.h ∧ s.j = a.t ∧ s.w = -1 ∧ s.room = some (x - a.lo) ∧ s.pr = -a.pr ∧ a.lo < x)) := by
  unfold Net.steps at h
  obtain ⟨p, hp, hs⟩ := List.mem_flatMap.mp h
  obtain ⟨i, hi, e⟩ := List.getElem_of_mem hp
  have hp' := zipIdx_at (by rw [List.getElem?_eq_getElem hi, e] : (N.arcs.zip f).zipIdx[i]? = some p)
  obtain ⟨⟨a, x⟩, k⟩ := p
  obtain ⟨e2, hz⟩ := hp'
  simp only at e2 hz
  subst e2
  unfold stepsAt at hs
  rcases List.mem_append.mp hs with hs | hs
  · unfold fwd at hs
    rcases hu : a.hi with _ | u
    · simp only [hu] at hs
      have := List.mem_singleton.mp hs
      subst this
      exact ⟨a, x, hz, .inl ⟨rfl, rfl, rfl, by simp [hu], rfl, by simp [hu]⟩⟩
    · simp only [hu] at hs
      split at hs
      · have := List.mem_singleton.mp hs
        subst this
        exact ⟨a, x, hz, .inl ⟨rfl, rfl, rfl, by simp [hu], rfl, fun v e => by rw [hu] at e; cases e; omega⟩⟩
      · cases hs
  · unfold bwd at hs
    split at hs
    · have := List.mem_singleton.mp hs
      subst this
      exact ⟨a, x, hz, .inr ⟨rfl, rfl, rfl, rfl, rfl, by assumption⟩⟩
    · cases hs
theorem steps_ends (W : N.WF) {f : List Int} {s : Step} (h : s ∈ N.steps f) : s.i < N.nodes.length ∧ s.j < N.nodes.length := by
  obtain ⟨a, x, hz, h⟩ := steps_mem h
  have ha := (zip_at hz).1
  have := W.ends a (List.mem_of_getElem? ha)
  rcases h with ⟨h1, h2, _⟩ | ⟨h1, h2, _⟩ <;> rw [h1, h2]
  · exact this
  · exact ⟨this.2, this.1⟩
end K04
end
section
set_option linter.all false
set_option maxRecDepth 100000
set_option maxHeartbeats 1000000
namespace K04
open PySem PySem.Spec L2 Dn
variable {N : Net}
/-- things by their key -/
def grp {α : Type} (key : α → Nat) (val : α → PV) (n : Nat) (l : List α) : List (List PV) := (List.range n).map fun v => (l.filter fun s => key s == v).map val
section
variable {α : Type} {key : α → Nat} {val : α → PV} {n : Nat}
theorem grp_length {l : List α} : (grp key val n l).length = n := by simp [grp]
theorem grp_at {l : List α} {v : Nat} (h : v < n) : (grp key val n l)[v]? = some ((l.filter fun s => key s == v).map val) := by
  simp [grp, h]
theorem grp_nil : grp key val n [] = List.replicate n [] := by
  apply List.ext_getElem?
  intro v
  by_cases h : v < n
  · rw [grp_at h]; simp [h]
  · rw [List.getElem?_eq_none (by rw [grp_length]; omega), List.getElem?_eq_none (by simp; omega)]
theorem grp_snoc {l : List α} {s : α} (h : key s < n) : (grp key val n l).set (key s) (((l.filter fun t => key t == key s).map val) ++ [val s]) = grp key val n (l ++ [s]) := by
  apply List.ext_getElem?
  intro v
  by_cases hv : v < n
  · rw [grp_at hv]
    by_cases e : key s = v
    · subst e
      rw [List.getElem?_set_self (by rw [grp_length]; exact h)]
      simp
    · rw [List.getElem?_set_ne e, grp_at hv]
      simp [e]
  · rw [List.getElem?_eq_none (by rw [List.length_set, grp_length]; omega), List.getElem?_eq_none (by rw [grp_length]; omega)]
theorem app_grp {i : Nat} {dj da : DPv} {ρ : En} {l : List α} {s : α} (h : ρ[i]? = some (Sl.oll (grp key val n l))) (hj : dj ρ = some (.int (key s : Nat))) (ha : da ρ = some (val s)) (hk : key s < n) (hl : l.length < 16777216) :
    dApp2 i dj da ρ = some (ρ.set i (.oll (grp key val n (l ++ [s]))), .nx) := by
  have h2 : ((l.filter fun t => key t == key s).map val).length < 16777216 := by
    rw [List.length_map]
    exact Nat.lt_of_le_of_lt (List.length_filter_le ..) hl
  simp only [dApp2_ap, ownLL_ap, h, hj, ha, Option.bind_some, asInt_i, ixN_nat (n := (grp key val n l).length) (k := key s) (by rw [grp_length]; exact hk), grp_at hk, if_pos h2, grp_snoc hk]
end
theorem steps_few (W : N.WF) (f : List Int) : (N.steps f).length ≤ 2000 := by
  have key : ∀ l : List ((Arc × Int) × Nat), (l.flatMap stepsAt).length ≤ 2 * l.length := by
    intro l
    induction l with
    | nil => simp
    | cons p l ih =>
      have := stepsAt_length p
      rw [List.flatMap_cons, List.length_append, List.length_cons]; omega
  have := key (N.arcs.zip f).zipIdx
  have h2 := W.fewA
  rw [List.length_zipIdx, List.length_zip] at this
  unfold Net.steps
  omega
theorem foldl_snoc {α : Type} (l : List α) : l.foldl (fun acc s => acc ++ [s]) [] = l := by
  rw [foldl_app (fun s => [s])]; simp
theorem v_steps_by_start (W : N.WF) (f : List Int) (hf : f.length = N.arcs.length) : den_steps_by_start [N.enc, encF f] = some (.li ((grp Step.i encStep N.nodes.length (N.steps f)).map .list)) := by
  have l1 : N.enc = .tuple [.str "net", .tuple (N.nodes.map encNode), .tuple (N.arcs.map N.encArc)] := rfl
  let st : List Step → En := fun acc => [.fz N.enc, .fz (encF f), .oll (grp Step.i encStep N.nodes.length acc), .un, .un]
  have loop := forD_foldI (vs := [3]) (t := .nm 3) (db := dApp2 2 (dIx (dS (dVar 3)) (dC (.int 0))) (dVar 3)) encStep st (fun acc s => acc ++ [s]) (fun i acc => acc.length = i) (N.steps f) [] (st []) (by simp [st]) rfl (fun i acc s hs hr => by
    have hi := (List.getElem?_eq_some_iff.mp hs).1
    have hm := steps_ends W (List.mem_of_getElem? hs)
    have := steps_few W f
    refine ⟨by simp [hr], [.fz N.enc, .fz (encF f), .oll (grp Step.i encStep N.nodes.length acc), .fz (encStep s), .un], [.fz N.enc, .fz (encF f), .oll (grp Step.i encStep N.nodes.length (acc ++ [s])), .fz (encStep s), .un], .nx, rfl, ?_, .inl rfl, by simp [st]⟩
    rw [app_grp (key := Step.i) (val := encStep) (s := s) rfl (by simp [encStep]) rfl hm.1 (by omega)]
    rfl)
  have s1 : (dAsgOO 2 (dCompLL (dS (dIx (dS (dVar 0)) (dC (.int 1)))) (.nm 4) [4] (dLst dNil))) [.fz N.enc, .fz (encF f), .un, .un, .un] = some (st [], .nx) := by
    have := compLL_nil (t := .nm 4) (te := dLst dNil) (ρ := [.fz N.enc, .fz (encF f), .un, .un, .un]) encNode N.nodes fun a _ => ⟨_, rfl, rfl⟩
    simp only [st, grp_nil]
    rw [l1] at this ⊢
    simp [W.lim, this]
  have s2 : (dS (dFz (dCallL den_steps_of (dCons (dVar 0) (dCons (dVar 1) dNil))))) (st []) = some ((N.steps f).map encStep) := by
    simp [st, v_steps_of W f hf]
  refine runD_rt (ρ' := st (N.steps f)) rfl rfl ?_
  show bod_steps_by_start [.fz N.enc, .fz (encF f), .un, .un, .un] = _
  unfold bod_steps_by_start
  rw [seq_nx s1, dSeq_ap, dFor_ap, s2, Option.bind_some, loop.1, foldl_snoc]
  rfl

/-! ### who is reached -/
abbrev Mt := List (Option (Option Step))
def encM : Option (Option Step) → PV
  | none => .none
  | some none => .bool true
  | some (some s) => encStep s
structure Vst where
  found : Mt
  order : List Nat
def visit (s : Vst) (t : Step) : Vst := if s.found.getD t.j (some none) = none then ⟨s.found.set t.j (some (some t)), s.order ++ [t.j]⟩ else s
inductive Rch (ss : List Step) (starts : List Nat) : Nat → Prop
  | base {v : Nat} : v ∈ starts → Rch ss starts v
  | step {s : Step} : s ∈ ss → Rch ss starts s.i → Rch ss starts s.j
/-- what holds on the way -/
structure VI (n : Nat) (ss : List Step) (starts : List Nat) (V : Vst) : Prop where
  len : V.found.length = n
  lt : ∀ v ∈ V.order, v < n
  nd : V.order.Nodup
  mem : ∀ v, v < n → (v ∈ V.order ↔ V.found.getD v none ≠ none)
  st : ∀ v, v < n → (V.found.getD v none = some none ↔ v ∈ starts)
  via : ∀ v s, V.found.getD v none = some (some s) → s ∈ ss ∧ s.j = v ∧ s.i ∈ V.order ∧ V.order.idxOf s.i < V.order.idxOf v
  rch : ∀ v ∈ V.order, Rch ss starts v
theorem getD_set {α : Type} {l : List α} {i j : Nat} {a d : α} (h : i < l.length) : (l.set i a).getD j d = if j = i then a else l.getD j d := by
  by_cases e : j = i
  · subst e; simp [List.getD_eq_getElem?_getD, List.getElem?_set_self h]
  · simp [List.getD_eq_getElem?_getD, List.getElem?_set_ne (Ne.symm e), e]
theorem getD_d {α : Type} {l : List α} {i : Nat} {d e : α} (h : i < l.length) : l.getD i d = l.getD i e := by
  simp [List.getD_eq_getElem?_getD, List.getElem?_eq_getElem h]
theorem VI.visit {n : Nat} {ss : List Step} {starts : List Nat} {V : Vst} (I : VI n ss starts V) (hst : ∀ v ∈ starts, v ∈ V.order) {t : Step} (ht : t ∈ ss) (hj : t.j < n) (hi : t.i ∈ V.order) : VI n ss starts (visit V t) ∧ (∀ v, V.found.getD v none ≠ none → (K04.visit V t).found.getD v none ≠ none) ∧ (K04.visit V t).found.getD t.j none ≠ none ∧ ∃ m, (K04.visit V t).order = V.order ++ m := by
  unfold K04.visit
  have hlj : t.j < V.found.length := by rw [I.len]; exact hj
  split
  · rename_i hn
    rw [getD_d (e := none) hlj] at hn
    have hno : t.j ∉ V.order := fun q => (I.mem t.j hj).mp q hn
    have hns : t.j ∉ starts := fun q => hno (hst _ q)
    refine ⟨⟨by simp [I.len], ?_, ?_, ?_, ?_, ?_, ?_⟩, ?_, ?_, [t.j], rfl⟩
    · intro v hv
      rcases List.mem_append.mp hv with hv | hv
      · exact I.lt v hv
      · rw [List.mem_singleton.mp hv]; exact hj
    · rw [List.nodup_append]
      exact ⟨I.nd, by simp, fun a ha b hb e => hno (by rw [← List.mem_singleton.mp hb, ← e]; exact ha)⟩
    · intro v hv
      simp only [List.mem_append, List.mem_singleton]
      rw [getD_set hlj]
      by_cases e : v = t.j
      · simp [e]
      · simp [e, I.mem v hv]
    · intro v hv
      simp only
      rw [getD_set hlj]
      by_cases e : v = t.j
      · subst e; simp [hns]
      · rw [if_neg e]; exact I.st v hv
    · intro v s h
      simp only at h
      rw [getD_set hlj] at h
      by_cases e : v = t.j
      · subst e
        simp at h
        subst h
        refine ⟨ht, rfl, List.mem_append_left _ hi, ?_⟩
        rw [List.idxOf_append, List.idxOf_append, if_pos hi, if_neg hno]
        have := List.idxOf_lt_length_of_mem hi
        omega
      · rw [if_neg e] at h
        obtain ⟨h1, h2, h3, h4⟩ := I.via v s h
        have hvn : v < n := by
          rw [← I.len]
          apply Decidable.byContradiction
          intro q
          rw [List.getD_eq_getElem?_getD, List.getElem?_eq_none (by omega)] at h
          cases h
        have hv : v ∈ V.order := (I.mem v hvn).mpr (by rw [h]; simp)
        refine ⟨h1, h2, List.mem_append_left _ h3, ?_⟩
        rw [List.idxOf_append, List.idxOf_append, if_pos h3, if_pos hv]
        exact h4
    · intro v hv
      rcases List.mem_append.mp hv with hv | hv
      · exact I.rch v hv
      · rw [List.mem_singleton.mp hv]; exact .step ht (I.rch _ hi)
    · intro v hv
      simp only
      rw [getD_set hlj]
      by_cases e : v = t.j
      · simp [e]
      · simpa [e] using hv
    · simp only
      rw [getD_set hlj]; simp
  · rename_i hn
    rw [getD_d (e := none) hlj] at hn
    exact ⟨I, fun v h => h, hn, [], by simp⟩
theorem VI.fold {n : Nat} {ss : List Step} {starts : List Nat} : ∀ (l : List Step) {V : Vst}, VI n ss starts V → (∀ v ∈ starts, v ∈ V.order) → (∀ t ∈ l, t ∈ ss ∧ t.j < n ∧ t.i ∈ V.order) →
    VI n ss starts (l.foldl K04.visit V) ∧ (∀ v, V.found.getD v none ≠ none → (l.foldl K04.visit V).found.getD v none ≠ none) ∧ (∀ t ∈ l, (l.foldl K04.visit V).found.getD t.j none ≠ none) ∧ ∃ m, (l.foldl K04.visit V).order = V.order ++ m
  | [], V, I, _, _ => ⟨I, fun v h => h, fun t h => (by cases h), [], (by simp)⟩
  | t :: l, V, I, hst, h => by
    obtain ⟨h1, h2, h3⟩ := h t List.mem_cons_self
    obtain ⟨I1, m1, f1, k1, e1⟩ := I.visit hst h1 h2 h3
    obtain ⟨I2, m2, f2, k2, e2⟩ := VI.fold l I1 (fun v hv => by rw [e1]; exact List.mem_append_left _ (hst v hv)) fun u hu => by
      obtain ⟨a, b, c⟩ := h u (List.mem_cons_of_mem _ hu)
      exact ⟨a, b, by rw [e1]; exact List.mem_append_left _ c⟩
    refine ⟨I2, fun v hv => m2 v (m1 v hv), fun u hu => ?_, k1 ++ k2, by rw [List.foldl_cons, e2, e1, List.append_assoc]⟩
    rcases List.mem_cons.mp hu with e | hu
    · rw [e]; exact m2 _ f1
    · exact f2 u hu
end K04
end
section
set_option linter.all false
set_option maxRecDepth 100000
set_option maxHeartbeats 1000000
namespace K04
open PySem PySem.Spec L2 Dn
variable {N : Net}
theorem nd_le : ∀ {n : Nat} {l : List Nat}, l.Nodup → (∀ v ∈ l, v < n) → l.length ≤ n
  | 0, l, _, h => by
    cases l with
    | nil => simp
    | cons v l => exact absurd (h v List.mem_cons_self) (by omega)
  | n + 1, l, nd, h => by
    by_cases hn : n ∈ l
    · have h1 := nd_le (n := n) (l := l.erase n) (nd.erase n) fun v hv => by
        have h2 := (List.Nodup.mem_erase_iff nd).mp hv
        have := h v h2.2
        have := h2.1
        omega
      rw [List.length_erase_of_mem hn] at h1
      omega
    · have h1 := nd_le (n := n) nd fun v hv => by
        have := h v hv
        have : v ≠ n := fun e => hn (by rw [← e]; exact hv)
        omega
      omega
structure Met (ss : List Step) (starts : List Nat) (n : Nat) (M : Mt) : Prop where
  len : M.length = n
  rch : ∀ v, v < n → (M.getD v none ≠ none ↔ Rch ss starts v)
  st : ∀ v, v < n → (M.getD v none = some none ↔ v ∈ starts)
  via : ∃ r : Nat → Nat, ∀ v s, M.getD v none = some (some s) → s ∈ ss ∧ s.j = v ∧ M.getD s.i none ≠ none ∧ r s.i < r v
def Closed (ss : List Step) (V : Vst) (at' : Nat) : Prop := ∀ p u, V.order[p]? = some u → p < at' → ∀ t ∈ ss, t.i = u → V.found.getD t.j none ≠ none
theorem met_of {n : Nat} {ss : List Step} {starts : List Nat} {V : Vst} (I : VI n ss starts V) (hs : ∀ v ∈ starts, v ∈ V.order) (hlt : ∀ t ∈ ss, t.i < n ∧ t.j < n) (hc : Closed ss V V.order.length) : Met ss starts n V.found := by
  refine ⟨I.len, fun v hv => ⟨fun h => I.rch v ((I.mem v hv).mpr h), fun h => ?_⟩, I.st, fun v => V.order.idxOf v, fun v s h => ?_⟩
  · refine (I.mem v hv).mp ?_
    induction h with
    | base h => exact hs _ h
    | step ht _ ih =>
      obtain ⟨h1, h2⟩ := hlt _ ht
      have hi := ih h1
      obtain ⟨p, hp, e⟩ := List.getElem_of_mem hi
      exact (I.mem _ h2).mpr (hc p _ (by rw [List.getElem?_eq_getElem hp, e]) hp _ ht rfl)
  · obtain ⟨h1, h2, h3, h4⟩ := I.via v s h
    exact ⟨h1, h2, (I.mem _ (hlt s h1).1).mp h3, h4⟩
theorem getD_none {α : Type} {l : List (Option α)} {i : Nat} {x : α} (h : l.getD i none = some x) : i < l.length := by
  apply Decidable.byContradiction
  intro q
  rw [List.getD_eq_getElem?_getD, List.getElem?_eq_none (by omega)] at h
  cases h
theorem isN_encM (x : Option (Option Step)) : isN (encM x) = x.isNone := by
  rcases x with _ | _ | s <;> rfl
theorem atM {M : Mt} {v : Nat} (h : v < M.length) : atI (M.map encM) (v : Int) = some (encM (M.getD v none)) := atI_map (by rw [List.getD_eq_getElem?_getD, List.getElem?_eq_getElem h]; rfl)
/-- the marks at the beginning -/
def mark0 (n : Nat) (starts : List Nat) : Mt := starts.foldl (fun M v => M.set v (some none)) (List.replicate n none)
theorem mark_len (starts : List Nat) : ∀ M : Mt, (starts.foldl (fun M v => M.set v (some none)) M).length = M.length := by
  induction starts with
  | nil => intro M; rfl
  | cons v l ih => intro M; rw [List.foldl_cons, ih]; simp
theorem mark_get : ∀ (starts : List Nat) (M : Mt) (v : Nat), v < M.length → (starts.foldl (fun M v => M.set v (some none)) M).getD v none = if v ∈ starts then some none else M.getD v none
  | [], M, v, _ => by simp
  | w :: l, M, v, h => by
    rw [List.foldl_cons, mark_get l _ v (by simpa using h)]
    by_cases e : v ∈ l
    · rw [if_pos e, if_pos (List.mem_cons_of_mem _ e)]
    · rw [if_neg e]
      by_cases e2 : v = w
      · subst e2
        rw [getD_set h, if_pos rfl, if_pos List.mem_cons_self]
      · rw [if_neg (by simp [e, e2])]
        by_cases hw : w < M.length
        · rw [getD_set hw, if_neg e2]
        · rw [List.set_eq_of_length_le (by omega)]
theorem vi0 {n : Nat} {ss : List Step} {starts : List Nat} (nd : starts.Nodup) (lt : ∀ v ∈ starts, v < n) : VI n ss starts ⟨mark0 n starts, starts⟩ := by
  have g : ∀ v, v < n → (mark0 n starts).getD v none = if v ∈ starts then some none else none := fun v hv => by
    unfold mark0
    rw [mark_get _ _ _ (by simpa using hv)]
    simp [List.getD_eq_getElem?_getD, hv]
  refine ⟨by unfold mark0; rw [mark_len]; simp, lt, nd, fun v hv => ?_, fun v hv => ?_, fun v s h => ?_, fun v hv => .base hv⟩
  · simp only
    rw [g v hv]
    by_cases e : v ∈ starts <;> simp [e]
  · simp only
    rw [g v hv]
    by_cases e : v ∈ starts <;> simp [e]
  · simp only at h
    have hv : v < n := by
      have := getD_none h
      unfold mark0 at this
      rw [mark_len] at this
      simpa using this
    rw [g v hv] at h
    split at h <;> cases h
theorem v_reached_from (W : N.WF) (f : List Int) (hf : f.length = N.arcs.length) (starts : List Nat) (nd : starts.Nodup) (lt : ∀ v ∈ starts, v < N.nodes.length) :
    ∃ M, den_reached_from [N.enc, encF f, .list (starts.map fun (v : Nat) => .int (v : Nat))] = some (.li (M.map encM)) ∧ Met (N.steps f) starts N.nodes.length M := by
  have l1 : N.enc = .tuple [.str "net", .tuple (N.nodes.map encNode), .tuple (N.arcs.map N.encArc)] := rfl
  generalize hst : PyData.list (starts.map fun (v : Nat) => PyData.int (v : Nat)) = sP
  generalize hrows : PyData.list ((grp Step.i encStep N.nodes.length (N.steps f)).map .list) = rP
  let st : Vst → Nat → En := fun V a => [.fz N.enc, .fz (encF f), .fz sP, .fz rP, .ol (V.found.map encM), .ol (V.order.map fun (v : Nat) => .int (v : Nat)), .un, .fz (.int (a : Nat)), .un, .un]
  have hend : ∀ t ∈ N.steps f, t.i < N.nodes.length ∧ t.j < N.nodes.length := fun t ht => steps_ends W ht
  -- the statements before the loop
  have s1 : (dAsg 3 (dFz (dCallL den_steps_by_start (dCons (dVar 0) (dCons (dVar 1) dNil))))) [.fz N.enc, .fz (encF f), .fz sP, .un, .un, .un, .un, .un, .un, .un] = some ([.fz N.enc, .fz (encF f), .fz sP, .fz rP, .un, .un, .un, .un, .un, .un], .nx) := by
    simp [v_steps_by_start W f hf, ← hrows]
  have s2 : (dAsgO 4 (dComp (dS (dIx (dS (dVar 0)) (dC (.int 1)))) (.nm 9) [9] dYes (dC .none))) [.fz N.enc, .fz (encF f), .fz sP, .fz rP, .un, .un, .un, .un, .un, .un] = some ([.fz N.enc, .fz (encF f), .fz sP, .fz rP, .ol ((List.replicate N.nodes.length none).map encM), .un, .un, .un, .un, .un], .nx) := by
    have := compD_all (t := .nm 9) (te := dC .none) (ρ := [.fz N.enc, .fz (encF f), .fz sP, .fz rP, .un, .un, .un, .un, .un, .un]) encNode (fun _ => PyData.none) N.nodes fun a _ => ⟨_, rfl, rfl⟩
    rw [l1] at this ⊢
    simp [W.lim, this, encM, List.map_const']
  have s3 : (dAsgO 5 (dGl some (dS (dVar 2)))) [.fz N.enc, .fz (encF f), .fz sP, .fz rP, .ol ((List.replicate N.nodes.length none).map encM), .un, .un, .un, .un, .un] = some ([.fz N.enc, .fz (encF f), .fz sP, .fz rP, .ol ((List.replicate N.nodes.length none).map encM), .ol (starts.map fun (v : Nat) => .int (v : Nat)), .un, .un, .un, .un], .nx) := by
    rw [← hst]; rfl
  have s4 : (dForO 5 [6] (.nm 6) (dSetIx 4 (dVar 6) (dC (.bool true)))) [.fz N.enc, .fz (encF f), .fz sP, .fz rP, .ol ((List.replicate N.nodes.length none).map encM), .ol (starts.map fun (v : Nat) => .int (v : Nat)), .un, .un, .un, .un] = some ([.fz N.enc, .fz (encF f), .fz sP, .fz rP, .ol ((mark0 N.nodes.length starts).map encM), .ol (starts.map fun (v : Nat) => .int (v : Nat)), .un, .un, .un, .un], .nx) := by
    let st0 : Mt → En := fun M => [.fz N.enc, .fz (encF f), .fz sP, .fz rP, .ol (M.map encM), .br (starts.map fun (v : Nat) => .int (v : Nat)), .un, .un, .un, .un]
    have loop := forD_fold (vs := [6]) (t := .nm 6) (db := dSetIx 4 (dVar 6) (dC (.bool true))) (fun (v : Nat) => PyData.int (v : Nat)) st0 (fun M v => M.set v (some none)) (fun M => M.length = N.nodes.length) starts (List.replicate N.nodes.length none) (st0 (List.replicate N.nodes.length none)) (by simp [st0]) (by simp) (fun M v hv hM => by
      refine ⟨by simpa using hM, [.fz N.enc, .fz (encF f), .fz sP, .fz rP, .ol (M.map encM), .br (starts.map fun (v : Nat) => .int (v : Nat)), .fz (.int (v : Nat)), .un, .un, .un], _, .nx, rfl, set_own (l := M.map encM) (t := v) (p := .bool true) rfl rfl rfl (by have := lt v hv; simp; omega), .inl rfl, ?_⟩
      simp [st0, List.map_set, encM])
    show ((forD [6] (.nm 6) (dSetIx 4 (dVar 6) (dC (.bool true))) (starts.map fun (v : Nat) => .int (v : Nat)) (st0 (List.replicate N.nodes.length none))).bind _) = _
    rw [loop.1]
    rfl
  have s5 : (dAsg 7 (dC (.int 0))) [.fz N.enc, .fz (encF f), .fz sP, .fz rP, .ol ((mark0 N.nodes.length starts).map encM), .ol (starts.map fun (v : Nat) => .int (v : Nat)), .un, .un, .un, .un] = some (st ⟨mark0 N.nodes.length starts, starts⟩ 0, .nx) := rfl
  -- the loop
  have hw := dWhile_run (vs := [8]) (tc := dTst (dB pLt (dVar 7) (dG gLen (dOwn 5)))) (db := (dSeq (dFor (dS (dIx (dS (dVar 3)) (dIx (dOwn 5) (dVar 7)))) [8] (.nm 8) (dIfS (dTst (dB pIsN (dIx (dOwn 4) (dIx (dS (dVar 8)) (dC (.int 1)))) (dC .none))) (dSeq (dSetIx 4 (dIx (dS (dVar 8)) (dC (.int 1))) (dVar 8))
    (dApp 5 (dIx (dS (dVar 8)) (dC (.int 1))))) dSkip))
    (dAug 7 (fun i j => i + j) (dC (.int 1)))))
    (fun ρ m => ∃ V a, ρ = st V a ∧ VI N.nodes.length (N.steps f) starts V ∧ (∀ v ∈ starts, v ∈ V.order) ∧ a ≤ V.order.length ∧ Closed (N.steps f) V a ∧ m = N.nodes.length + 1 - a)
    (fun r => ∃ V, r = (st V V.order.length, .nx) ∧ VI N.nodes.length (N.steps f) starts V ∧ (∀ v ∈ starts, v ∈ V.order) ∧ Closed (N.steps f) V V.order.length)
    (by
      rintro m ρ ⟨V, a, rfl, I, hS, ha, hC, rfl⟩
      have e8 : fgE (st V a) [8] = st V a := by simp [st]
      have hon : V.order.length ≤ N.nodes.length := nd_le I.nd I.lt
      rw [e8]
      have et : (dTst (dB pLt (dVar 7) (dG gLen (dOwn 5)))) (st V a) = some (decide (a < V.order.length)) := by simp [st]
      rw [et]
      by_cases hlt : a < V.order.length
      · refine .inr ⟨by simp [hlt], ?_⟩
        have hu : V.order[a]? = some V.order[a] := List.getElem?_eq_getElem hlt
        generalize V.order[a] = u at hu
        have huo : u ∈ V.order := List.mem_of_getElem? hu
        have hun := I.lt u huo
        let l := (N.steps f).filter fun s => s.i == u
        have hl : ∀ t ∈ l, t ∈ N.steps f ∧ t.j < N.nodes.length ∧ t.i = u := fun t ht => by
          obtain ⟨h1, h2⟩ := List.mem_filter.mp ht
          exact ⟨h1, (hend t h1).2, by simpa using h2⟩
        let st1 : Vst → En := fun V => st V a
        have loop := forD_fold (vs := [8]) (t := .nm 8) (db := (dIfS (dTst (dB pIsN (dIx (dOwn 4) (dIx (dS (dVar 8)) (dC (.int 1)))) (dC .none))) (dSeq (dSetIx 4 (dIx (dS (dVar 8)) (dC (.int 1))) (dVar 8))
          (dApp 5 (dIx (dS (dVar 8)) (dC (.int 1))))) dSkip)) encStep st1 visit (fun V => VI N.nodes.length (N.steps f) starts V ∧ (∀ v ∈ starts, v ∈ V.order) ∧ u ∈ V.order) l V (st V a) e8 ⟨I, hS, huo⟩ (fun V t ht hI => by
            obtain ⟨I, hS, huo⟩ := hI
            obtain ⟨h1, h2, h3⟩ := hl t ht
            obtain ⟨I', m', f', k', e'⟩ := I.visit hS h1 h2 (by rw [h3]; exact huo)
            have hon : V.order.length ≤ N.nodes.length := nd_le I.nd I.lt
            have hlj : t.j < V.found.length := by rw [I.len]; exact h2
            refine ⟨⟨I', fun v hv => by rw [e']; exact List.mem_append_left _ (hS v hv), by rw [e']; exact List.mem_append_left _ huo⟩, [.fz N.enc, .fz (encF f), .fz sP, .fz rP, .ol (V.found.map encM), .ol (V.order.map fun (v : Nat) => .int (v : Nat)), .un, .fz (.int (a : Nat)), .fz (encStep t), .un], [.fz N.enc, .fz (encF f), .fz sP, .fz rP, .ol ((visit V t).found.map encM), .ol ((visit V t).order.map fun (v : Nat) => .int (v : Nat)), .un, .fz (.int (a : Nat)), .fz (encStep t), .un], .nx, rfl, ?_, .inl rfl, by simp [st1, st]⟩
            have et : (dTst (dB pIsN (dIx (dOwn 4) (dIx (dS (dVar 8)) (dC (.int 1)))) (dC .none))) [.fz N.enc, .fz (encF f), .fz sP, .fz rP, .ol (V.found.map encM), .ol (V.order.map fun (v : Nat) => .int (v : Nat)), .un, .fz (.int (a : Nat)), .fz (encStep t), .un] = some (V.found.getD t.j none).isNone := by
              have := atM (M := V.found) hlj
              rw [← isN_encM]
              simp only [dTst_ap, dB_ap, dIx_ap, dOwn_ap, dS_ap, dVar_ap, dC_ap, encStep, List.getElem?_cons_succ, List.getElem?_cons_zero, Option.bind_some, asSeq_t, asInt_i, atI_1, this, pIsN_ap, asBool_b]
            rw [dIfS_ap, et, Option.bind_some]
            unfold visit
            rw [getD_d (e := none) (d := some none) hlj]
            by_cases hn : V.found.getD t.j none = none
            · rw [if_pos hn, hn, if_pos (show (none : Option (Option Step)).isNone = true from rfl), dSeq_ap, set_own (l := V.found.map encM) (t := t.j) (p := encStep t) rfl rfl rfl (by simpa using hlj), Option.bind_some]
              show dApp 5 _ _ = _
              rw [app_own (l := V.order.map fun (v : Nat) => .int (v : Nat)) (p := .int (t.j : Nat)) rfl rfl (by have := W.few; simp; omega)]
              simp [List.map_set, encM]
            · rw [if_neg hn]
              have : (V.found.getD t.j none).isNone = false := by
                cases h : V.found.getD t.j none with
                | none => exact absurd h hn
                | some x => rfl
              rw [this]
              rfl)
        have ei : (dS (dIx (dS (dVar 3)) (dIx (dOwn 5) (dVar 7)))) (st V a) = some (l.map encStep) := by
          have q1 : atI (V.order.map fun (v : Nat) => PyData.int (v : Nat)) (a : Int) = some (.int (u : Nat)) := atI_map hu
          have q2 : atI ((grp Step.i encStep N.nodes.length (N.steps f)).map PyData.list) (u : Int) = some (.list (l.map encStep)) := atI_map (grp_at hun)
          simp only [st, ← hrows]
          simp [q1, q2]
        obtain ⟨I2, m2, f2, k2, e2⟩ := I.fold l hS fun t ht => ⟨(hl t ht).1, (hl t ht).2.1, by rw [(hl t ht).2.2]; exact huo⟩
        refine ⟨st (l.foldl visit V) (a + 1), .nx, ?_, .inl ⟨.inl rfl, N.nodes.length + 1 - (a + 1), by omega, l.foldl visit V, a + 1, rfl, I2, fun v hv => by rw [e2]; exact List.mem_append_left _ (hS v hv), by rw [e2, List.length_append]; omega, fun p w hp hpa t ht hti => ?_, rfl⟩⟩
        · rw [dSeq_ap, dFor_ap, ei, Option.bind_some, loop.1, Option.bind_some]
          simp [st1, st]
        · rw [e2] at hp
          by_cases hpa' : p < a
          · rw [List.getElem?_append_left (by omega)] at hp
            exact m2 _ (hC p w hp hpa' t ht hti)
          · have : p = a := by omega
            subst this
            rw [List.getElem?_append_left hlt, hu] at hp
            cases hp
            exact f2 t (List.mem_filter.mpr ⟨ht, by simp [hti]⟩)
      · refine .inl ⟨by simp [hlt], V, ?_, I, hS, ?_⟩
        · have : a = V.order.length := by omega
          rw [this]
        · have : a = V.order.length := by omega
          rw [← this]; exact hC)
    (ρ := st ⟨mark0 N.nodes.length starts, starts⟩ 0) ⟨_, 0, rfl, vi0 nd lt, fun v h => h, Nat.zero_le _, fun p u _ h => absurd h (by omega), rfl⟩
  obtain ⟨r, hr, V, rfl, I, hS, hC⟩ := hw
  refine ⟨V.found, runD_rt (ρ' := st V V.order.length) rfl rfl ?_, met_of I hS hend hC⟩
  show bod_reached_from [.fz N.enc, .fz (encF f), .fz sP, .un, .un, .un, .un, .un, .un, .un] = _
  unfold bod_reached_from
  rw [seq_nx s1, seq_nx s2, seq_nx s3, seq_nx s4, seq_nx s5, seq_nx hr]
  rfl
end K04
end
section
set_option linter.all false
set_option maxRecDepth 100000
set_option maxHeartbeats 1000000
namespace K04
open PySem PySem.Spec L2 Dn
variable {N : Net}
/-- the steps turned round -/
def Step.rev (s : Step) : Step := { s with i := s.j, j := s.i }
def encB (x : Option (Option Step)) : PV := .bool x.isSome
theorem atB {M : Mt} {v : Nat} (h : v < M.length) : atI (M.map encB) (v : Int) = some (encB (M.getD v none)) := atI_map (by rw [List.getD_eq_getElem?_getD, List.getElem?_eq_getElem h]; rfl)
def encI (s : Step) : PV := .int (s.i : Nat)
def encJ (s : Step) : PV := .int (s.j : Nat)
theorem v_reaching (W : N.WF) (f : List Int) (hf : f.length = N.arcs.length) (goals : List Nat) (nd : goals.Nodup) (lt : ∀ v ∈ goals, v < N.nodes.length) :
    ∃ M, den_reaching [N.enc, encF f, .list (goals.map fun (v : Nat) => .int (v : Nat))] = some (.li (M.map encB)) ∧ Met ((N.steps f).map Step.rev) goals N.nodes.length M := by
  have l1 : N.enc = .tuple [.str "net", .tuple (N.nodes.map encNode), .tuple (N.arcs.map N.encArc)] := rfl
  generalize hst : PyData.list (goals.map fun (v : Nat) => PyData.int (v : Nat)) = sP
  generalize hrows : PyData.list ((grp Step.j encI N.nodes.length (N.steps f)).map .list) = rP
  let ss := (N.steps f).map Step.rev
  have hend : ∀ t ∈ ss, t.i < N.nodes.length ∧ t.j < N.nodes.length := fun t ht => by
    obtain ⟨s, hs, rfl⟩ := List.mem_map.mp ht
    exact ⟨(steps_ends W hs).2, (steps_ends W hs).1⟩
  -- the lists of those behind
  let stB : List Step → En := fun acc => [.fz N.enc, .fz (encF f), .fz sP, .oll (grp Step.j encI N.nodes.length acc), .un, .un, .un, .un, .un, .un]
  have loopB := forD_foldI (vs := [4]) (t := .nm 4) (db := (dApp2 3 (dIx (dS (dVar 4)) (dC (.int 1))) (dIx (dS (dVar 4)) (dC (.int 0))))) encStep stB (fun acc s => acc ++ [s]) (fun i acc => acc.length = i) (N.steps f) [] (stB []) (by simp [stB]) rfl (fun i acc s hs hr => by
    have hi := (List.getElem?_eq_some_iff.mp hs).1
    have hm := steps_ends W (List.mem_of_getElem? hs)
    have := steps_few W f
    refine ⟨by simp [hr], [.fz N.enc, .fz (encF f), .fz sP, .oll (grp Step.j encI N.nodes.length acc), .fz (encStep s), .un, .un, .un, .un, .un], [.fz N.enc, .fz (encF f), .fz sP, .oll (grp Step.j encI N.nodes.length (acc ++ [s])), .fz (encStep s), .un, .un, .un, .un, .un], .nx, rfl, ?_, .inl rfl, by simp [stB]⟩
    rw [app_grp (key := Step.j) (val := encI) (s := s) rfl (by simp [encStep]) (by simp [encStep, encI]) hm.2 (by omega)]
    rfl)
  have b1 : (dAsgOO 3 (dCompLL (dS (dIx (dS (dVar 0)) (dC (.int 1)))) (.nm 9) [9] (dLst dNil))) [.fz N.enc, .fz (encF f), .fz sP, .un, .un, .un, .un, .un, .un, .un] = some (stB [], .nx) := by
    have := compLL_nil (t := .nm 9) (te := dLst dNil) (ρ := [.fz N.enc, .fz (encF f), .fz sP, .un, .un, .un, .un, .un, .un, .un]) encNode N.nodes fun a _ => ⟨_, rfl, rfl⟩
    simp only [stB, grp_nil]
    rw [l1] at this ⊢
    simp [W.lim, this]
  have b2 : (dFor (dS (dFz (dCallL den_steps_of (dCons (dVar 0) (dCons (dVar 1) dNil))))) [4] (.nm 4) (dApp2 3 (dIx (dS (dVar 4)) (dC (.int 1))) (dIx (dS (dVar 4)) (dC (.int 0))))) (stB []) = some (stB (N.steps f), .nx) := by
    have e : (dS (dFz (dCallL den_steps_of (dCons (dVar 0) (dCons (dVar 1) dNil))))) (stB []) = some ((N.steps f).map encStep) := by simp [stB, v_steps_of W f hf]
    rw [dFor_ap, e, Option.bind_some, loopB.1, foldl_snoc]
  let oP : Sl := .oll (grp Step.j encI N.nodes.length (N.steps f))
  have s2 : (dAsgO 5 (dComp (dS (dIx (dS (dVar 0)) (dC (.int 1)))) (.nm 9) [9] dYes (dC (.bool false)))) (stB (N.steps f)) = some ([.fz N.enc, .fz (encF f), .fz sP, oP, .un, .ol ((List.replicate N.nodes.length none).map encB), .un, .un, .un, .un], .nx) := by
    have := compD_all (t := .nm 9) (te := dC (.bool false)) (ρ := [.fz N.enc, .fz (encF f), .fz sP, oP, .un, .un, .un, .un, .un, .un]) encNode (fun _ => PyData.bool false) N.nodes fun a _ => ⟨_, rfl, rfl⟩
    simp only [stB]
    rw [l1] at this ⊢
    simp only [oP] at this ⊢
    simp [W.lim, this, encB, List.map_const']
  have s3 : (dAsgO 6 (dGl some (dS (dVar 2)))) [.fz N.enc, .fz (encF f), .fz sP, oP, .un, .ol ((List.replicate N.nodes.length none).map encB), .un, .un, .un, .un] = some ([.fz N.enc, .fz (encF f), .fz sP, oP, .un, .ol ((List.replicate N.nodes.length none).map encB), .ol (goals.map fun (v : Nat) => .int (v : Nat)), .un, .un, .un], .nx) := by
    rw [← hst]; rfl
  have s4 : (dForO 6 [7] (.nm 7) (dSetIx 5 (dVar 7) (dC (.bool true)))) [.fz N.enc, .fz (encF f), .fz sP, oP, .un, .ol ((List.replicate N.nodes.length none).map encB), .ol (goals.map fun (v : Nat) => .int (v : Nat)), .un, .un, .un] = some ([.fz N.enc, .fz (encF f), .fz sP, oP, .un, .ol ((mark0 N.nodes.length goals).map encB), .ol (goals.map fun (v : Nat) => .int (v : Nat)), .un, .un, .un], .nx) := by
    let st0 : Mt → En := fun M => [.fz N.enc, .fz (encF f), .fz sP, oP, .un, .ol (M.map encB), .br (goals.map fun (v : Nat) => .int (v : Nat)), .un, .un, .un]
    have loop := forD_fold (vs := [7]) (t := .nm 7) (db := dSetIx 5 (dVar 7) (dC (.bool true))) (fun (v : Nat) => PyData.int (v : Nat)) st0 (fun M v => M.set v (some none)) (fun M => M.length = N.nodes.length) goals (List.replicate N.nodes.length none) (st0 (List.replicate N.nodes.length none)) (by simp [st0]) (by simp) (fun M v hv hM => by
      refine ⟨by simpa using hM, [.fz N.enc, .fz (encF f), .fz sP, oP, .un, .ol (M.map encB), .br (goals.map fun (v : Nat) => .int (v : Nat)), .fz (.int (v : Nat)), .un, .un], _, .nx, rfl, set_own (l := M.map encB) (t := v) (p := .bool true) rfl rfl rfl (by have := lt v hv; simp; omega), .inl rfl, ?_⟩
      simp [st0, List.map_set, encB])
    show ((forD [7] (.nm 7) (dSetIx 5 (dVar 7) (dC (.bool true))) (goals.map fun (v : Nat) => .int (v : Nat)) (st0 (List.replicate N.nodes.length none))).bind _) = _
    rw [loop.1]
    rfl
  have s5 : (dAsg 8 (dC (.int 0))) [.fz N.enc, .fz (encF f), .fz sP, oP, .un, .ol ((mark0 N.nodes.length goals).map encB), .ol (goals.map fun (v : Nat) => .int (v : Nat)), .un, .un, .un] = some ([.fz N.enc, .fz (encF f), .fz sP, oP, .un, .ol ((mark0 N.nodes.length goals).map encB), .ol (goals.map fun (v : Nat) => .int (v : Nat)), .un, .fz (.int 0), .un], .nx) := rfl
  let st : Vst → Nat → En := fun V a => [.fz N.enc, .fz (encF f), .fz sP, .fz rP, .un, .ol (V.found.map encB), .ol (V.order.map fun (v : Nat) => .int (v : Nat)), .un, .fz (.int (a : Nat)), .un]
  have s6 : frzE [.fz N.enc, .fz (encF f), .fz sP, oP, .un, .ol ((mark0 N.nodes.length goals).map encB), .ol (goals.map fun (v : Nat) => .int (v : Nat)), .un, .fz (.int 0), .un] [3] = st ⟨mark0 N.nodes.length goals, goals⟩ 0 := by
    simp only [st, ← hrows, oP]; rfl
  -- the loop
  have hw := dWhile_run (vs := [7]) (tc := dTst (dB pLt (dVar 8) (dG gLen (dOwn 6)))) (db := (dSeq (dFor (dS (dIx (dS (dVar 3)) (dIx (dOwn 6) (dVar 8)))) [7] (.nm 7) (dIfS (dNot (dTru (dIx (dOwn 5) (dVar 7)))) (dSeq (dSetIx 5 (dVar 7) (dC (.bool true)))
    (dApp 6 (dVar 7))) dSkip))
    (dAug 8 (fun i j => i + j) (dC (.int 1)))))
    (fun ρ m => ∃ V a, ρ = st V a ∧ VI N.nodes.length ss goals V ∧ (∀ v ∈ goals, v ∈ V.order) ∧ a ≤ V.order.length ∧ Closed ss V a ∧ m = N.nodes.length + 1 - a)
    (fun r => ∃ V, r = (st V V.order.length, .nx) ∧ VI N.nodes.length ss goals V ∧ (∀ v ∈ goals, v ∈ V.order) ∧ Closed ss V V.order.length)
    (by
      rintro m ρ ⟨V, a, rfl, I, hS, ha, hC, rfl⟩
      have e8 : fgE (st V a) [7] = st V a := by simp [st]
      have hon : V.order.length ≤ N.nodes.length := nd_le I.nd I.lt
      rw [e8]
      have et : (dTst (dB pLt (dVar 8) (dG gLen (dOwn 6)))) (st V a) = some (decide (a < V.order.length)) := by simp [st]
      rw [et]
      by_cases hlt : a < V.order.length
      · refine .inr ⟨by simp [hlt], ?_⟩
        have hu : V.order[a]? = some V.order[a] := List.getElem?_eq_getElem hlt
        generalize V.order[a] = u at hu
        have huo : u ∈ V.order := List.mem_of_getElem? hu
        have hun := I.lt u huo
        let l := ss.filter fun s => s.i == u
        have hl : ∀ t ∈ l, t ∈ ss ∧ t.j < N.nodes.length ∧ t.i = u := fun t ht => by
          obtain ⟨h1, h2⟩ := List.mem_filter.mp ht
          exact ⟨h1, (hend t h1).2, by simpa using h2⟩
        let st1 : Vst → En := fun V => st V a
        have loop := forD_fold (vs := [7]) (t := .nm 7) (db := (dIfS (dNot (dTru (dIx (dOwn 5) (dVar 7)))) (dSeq (dSetIx 5 (dVar 7) (dC (.bool true)))
    (dApp 6 (dVar 7))) dSkip)) encJ st1 visit (fun V => VI N.nodes.length ss goals V ∧ (∀ v ∈ goals, v ∈ V.order) ∧ u ∈ V.order) l V (st V a) e8 ⟨I, hS, huo⟩ (fun V t ht hI => by
            obtain ⟨I, hS, huo⟩ := hI
            obtain ⟨h1, h2, h3⟩ := hl t ht
            obtain ⟨I', m', f', k', e'⟩ := I.visit hS h1 h2 (by rw [h3]; exact huo)
            have hon : V.order.length ≤ N.nodes.length := nd_le I.nd I.lt
            have hlj : t.j < V.found.length := by rw [I.len]; exact h2
            refine ⟨⟨I', fun v hv => by rw [e']; exact List.mem_append_left _ (hS v hv), by rw [e']; exact List.mem_append_left _ huo⟩, [.fz N.enc, .fz (encF f), .fz sP, .fz rP, .un, .ol (V.found.map encB), .ol (V.order.map fun (v : Nat) => .int (v : Nat)), .fz (encJ t), .fz (.int (a : Nat)), .un], [.fz N.enc, .fz (encF f), .fz sP, .fz rP, .un, .ol ((visit V t).found.map encB), .ol ((visit V t).order.map fun (v : Nat) => .int (v : Nat)), .fz (encJ t), .fz (.int (a : Nat)), .un], .nx, rfl, ?_, .inl rfl, by simp [st1, st]⟩
            have et : (dNot (dTru (dIx (dOwn 5) (dVar 7)))) [.fz N.enc, .fz (encF f), .fz sP, .fz rP, .un, .ol (V.found.map encB), .ol (V.order.map fun (v : Nat) => .int (v : Nat)), .fz (encJ t), .fz (.int (a : Nat)), .un] = some (V.found.getD t.j none).isNone := by
              have := atB (M := V.found) hlj
              simp only [dNot_ap, dTru_ap, dIx_ap, dOwn_ap, dVar_ap, encJ, List.getElem?_cons_succ, List.getElem?_cons_zero, Option.bind_some, asInt_i, this, encB, tru_b, Option.map_some]
              cases V.found.getD t.j none <;> rfl
            rw [dIfS_ap, et, Option.bind_some]
            unfold visit
            rw [getD_d (e := none) (d := some none) hlj]
            by_cases hn : V.found.getD t.j none = none
            · rw [if_pos hn, hn, if_pos (show (none : Option (Option Step)).isNone = true from rfl), dSeq_ap, set_own (l := V.found.map encB) (t := t.j) (p := .bool true) rfl rfl rfl (by simpa using hlj), Option.bind_some]
              show dApp 6 _ _ = _
              rw [app_own (l := V.order.map fun (v : Nat) => .int (v : Nat)) (p := .int (t.j : Nat)) rfl rfl (by have := W.few; simp; omega)]
              simp [List.map_set, encB]
            · rw [if_neg hn]
              have : (V.found.getD t.j none).isNone = false := by
                cases h : V.found.getD t.j none with
                | none => exact absurd h hn
                | some x => rfl
              rw [this]
              rfl)
        have ei : (dS (dIx (dS (dVar 3)) (dIx (dOwn 6) (dVar 8)))) (st V a) = some (l.map encJ) := by
          have q1 : atI (V.order.map fun (v : Nat) => PyData.int (v : Nat)) (a : Int) = some (.int (u : Nat)) := atI_map hu
          have q2 : atI ((grp Step.j encI N.nodes.length (N.steps f)).map PyData.list) (u : Int) = some (.list (l.map encJ)) := by
            rw [atI_map (grp_at hun)]
            have : l.map encJ = ((N.steps f).filter fun s => s.j == u).map encI := by
              show ((((N.steps f).map Step.rev).filter fun s => s.i == u).map encJ) = _
              rw [List.filter_map, List.map_map]
              rfl
            rw [this]
          simp only [st, ← hrows]
          simp [q1, q2]
        obtain ⟨I2, m2, f2, k2, e2⟩ := I.fold l hS fun t ht => ⟨(hl t ht).1, (hl t ht).2.1, by rw [(hl t ht).2.2]; exact huo⟩
        refine ⟨st (l.foldl visit V) (a + 1), .nx, ?_, .inl ⟨.inl rfl, N.nodes.length + 1 - (a + 1), by omega, l.foldl visit V, a + 1, rfl, I2, fun v hv => by rw [e2]; exact List.mem_append_left _ (hS v hv), by rw [e2, List.length_append]; omega, fun p w hp hpa t ht hti => ?_, rfl⟩⟩
        · rw [dSeq_ap, dFor_ap, ei, Option.bind_some, loop.1, Option.bind_some]
          simp [st1, st]
        · rw [e2] at hp
          by_cases hpa' : p < a
          · rw [List.getElem?_append_left (by omega)] at hp
            exact m2 _ (hC p w hp hpa' t ht hti)
          · have : p = a := by omega
            subst this
            rw [List.getElem?_append_left hlt, hu] at hp
            cases hp
            exact f2 t (List.mem_filter.mpr ⟨ht, by simp [hti]⟩)
      · refine .inl ⟨by simp [hlt], V, ?_, I, hS, ?_⟩
        · have : a = V.order.length := by omega
          rw [this]
        · have : a = V.order.length := by omega
          rw [← this]; exact hC)
    (ρ := st ⟨mark0 N.nodes.length goals, goals⟩ 0) ⟨_, 0, rfl, vi0 nd lt, fun v h => h, Nat.zero_le _, fun p u _ h => absurd h (by omega), rfl⟩
  obtain ⟨r, hr, V, rfl, I, hS, hC⟩ := hw
  refine ⟨V.found, runD_rt (ρ' := st V V.order.length) rfl rfl ?_, met_of I hS hend hC⟩
  show bod_reaching [.fz N.enc, .fz (encF f), .fz sP, .un, .un, .un, .un, .un, .un, .un] = _
  unfold bod_reaching
  rw [seq_nx b1, seq_nx b2, seq_nx s2, seq_nx s3, seq_nx s4, seq_nx s5, dFrz_ap, s6, seq_nx hr]
  rfl
end K04
end
section
set_option linter.all false
set_option maxRecDepth 100000
set_option maxHeartbeats 1000000
namespace K04
open PySem PySem.Spec L2 Dn
variable {N : Net}
/-- a way from u to v -/
def Chain : Nat → List Step → Nat → Prop
  | u, [], v => u = v
  | u, t :: l, v => t.i = u ∧ Chain t.j l v
theorem chain_snoc : ∀ {l : List Step} {u v : Nat} {t : Step}, Chain u l v → t.i = v → Chain u (l ++ [t]) t.j
  | [], u, v, t, h, e => ⟨by rw [e]; exact h.symm, rfl⟩
  | s :: l, u, v, t, h, e => ⟨h.1, chain_snoc h.2 e⟩
structure Way (ss : List Step) (starts : List Nat) (r : Nat → Nat) (goal : Nat) (u : Nat) (l : List Step) : Prop where
  st : u ∈ starts
  ch : Chain u l goal
  mem : ∀ t ∈ l, t ∈ ss
  up : ∀ t ∈ l, r t.i < r t.j
/-- following the marks back -/
theorem v_way_to {ss : List Step} {starts : List Nat} {n : Nat} {M : Mt} (H : Met ss starts n M) (lt : ∀ t ∈ ss, t.i < n ∧ t.j < n) : ∃ r : Nat → Nat, ∀ goal, goal < n → n ≤ 1000 → M.getD goal none ≠ none → ∃ l u, den_way_to [.list (M.map encM), .int (goal : Nat)] = some (.li (l.map encStep)) ∧ Way ss starts r goal u l ∧ l.length ≤ n := by
  obtain ⟨r, hv⟩ := H.via
  refine ⟨r, fun goal hg hn1 hn => ?_⟩
  generalize hm : PyData.list (M.map encM) = mP
  -- the loop: acc is the way behind the place, backwards; the way's nodes are by rank
  let st : Nat → List Step → En := fun v acc => [.fz mP, .fz (.int (v : Nat)), .ol (acc.map encStep)]
  have look : ∀ v, v < n → (dIx (dS (dVar 0)) (dVar 1)) (st v []) = some (encM (M.getD v none)) ∧ ∀ acc, (dIx (dS (dVar 0)) (dVar 1)) (st v acc) = some (encM (M.getD v none)) := fun v hv => by
    have h1 := atM (M := M) (v := v) (by rw [H.len]; exact hv)
    have h2 : ∀ acc, (dIx (dS (dVar 0)) (dVar 1)) (st v acc) = some (encM (M.getD v none)) := fun acc => by
      simp only [st, ← hm]
      simp only [dIx_ap, dS_ap, dVar_ap, List.getElem?_cons_succ, List.getElem?_cons_zero, Option.bind_some, asSeq_l, asInt_i, h1]
    exact ⟨h2 [], h2⟩
  have hw := dWhile_run (vs := []) (tc := dTst (dB pNotB (dIx (dS (dVar 0)) (dVar 1)) (dC (.bool true)))) (db := (dSeq (dApp 2 (dIx (dS (dVar 0)) (dVar 1)))
    (dAsg 1 (dIx (dS (dIx (dS (dVar 0)) (dVar 1))) (dC (.int 0))))))
    (fun ρ m => ∃ v acc, ρ = st v acc ∧ v < n ∧ M.getD v none ≠ none ∧ Chain v acc.reverse goal ∧ (∀ t ∈ acc, t ∈ ss ∧ r t.i < r t.j) ∧ (acc.map Step.j).Nodup ∧ (∀ t ∈ acc, t.j < n ∧ r v < r t.j) ∧ m = r v)
    (fun p => ∃ v acc, p = (st v acc, .nx) ∧ v ∈ starts ∧ Chain v acc.reverse goal ∧ (∀ t ∈ acc, t ∈ ss ∧ r t.i < r t.j) ∧ acc.length ≤ n)
    (by
      rintro m ρ ⟨v, acc, rfl, hvn, hvm, hch, hmem, hnd, hr, rfl⟩
      rw [fgE_nil]
      have e0 := (look v hvn).2 acc
      have hlen : acc.length ≤ n := by
        have := nd_le hnd (n := n) fun w hw => by
          obtain ⟨t, ht, rfl⟩ := List.mem_map.mp hw
          exact (hr t ht).1
        simpa using this
      rcases hM : M.getD v none with _ | _ | s
      · exact absurd hM hvm
      · refine .inl ⟨?_, v, acc, rfl, (H.st v hvn).mp hM, hch, hmem, hlen⟩
        rw [dTst_ap, dB_ap, e0, hM]
        rfl
      · refine .inr ⟨?_, ?_⟩
        · rw [dTst_ap, dB_ap, e0, hM]
          rfl
        · obtain ⟨h1, h2, h3, h4⟩ := hv v s hM
          have hsi := (lt s h1).1
          refine ⟨st s.i (acc ++ [s]), .nx, ?_, .inl ⟨.inl rfl, r s.i, by omega, s.i, acc ++ [s], rfl, hsi, h3, ?_, ?_, ?_, ?_, rfl⟩⟩
          · have e0' : (dIx (dS (dVar 0)) (dVar 1)) (st v acc) = some (encStep s) := by rw [e0, hM]; rfl
            rw [dSeq_ap, app_own (l := acc.map encStep) (p := encStep s) rfl e0' (by simp; omega), Option.bind_some]
            have e1 : (dIx (dS (dVar 0)) (dVar 1)) (st v (acc ++ [s])) = some (encStep s) := by rw [(look v hvn).2 (acc ++ [s]), hM]; rfl
            show (dAsg 1 (dIx (dS (dIx (dS (dVar 0)) (dVar 1))) (dC (.int 0)))) _ = _
            have es : (st v acc).set 2 (.ol (acc.map encStep ++ [encStep s])) = st v (acc ++ [s]) := by simp [st]
            rw [es, dAsg_ap, dIx_ap, dS_ap, e1]
            simp [encStep, st]
          · rw [List.reverse_append]
            exact ⟨rfl, by rw [h2]; exact hch⟩
          · intro t ht
            rcases List.mem_append.mp ht with ht | ht
            · exact hmem t ht
            · rw [List.mem_singleton.mp ht]; exact ⟨h1, by rw [h2]; exact h4⟩
          · rw [List.map_append, List.nodup_append]
            refine ⟨hnd, by simp, fun a ha b hb e => ?_⟩
            obtain ⟨t, ht, rfl⟩ := List.mem_map.mp ha
            have hb' : b = s.j := by simpa using hb
            have := (hr t ht).2
            rw [e, hb', h2] at this
            omega
          · intro t ht
            rcases List.mem_append.mp ht with ht | ht
            · exact ⟨(hr t ht).1, by have := (hr t ht).2; omega⟩
            · rw [List.mem_singleton.mp ht]; exact ⟨(lt s h1).2, by rw [h2]; exact h4⟩)
    (ρ := st goal []) ⟨goal, [], rfl, hg, hn, rfl, fun t h => (by cases h), (by simp), fun t h => (by cases h), rfl⟩
  obtain ⟨p, hp, v, acc, rfl, hvs, hch, hmem, hlen⟩ := hw
  refine ⟨acc.reverse, v, runD_rt (ρ' := st v acc) rfl rfl ?_, ⟨hvs, hch, fun t ht => (hmem t (by simpa using ht)).1, fun t ht => (hmem t (by simpa using ht)).2⟩, by simpa using hlen⟩
  show bod_way_to [.fz mP, .fz (.int (goal : Nat)), .un] = _
  unfold bod_way_to
  have s1 : (dAsgO 2 (dLst dNil)) [.fz mP, .fz (.int (goal : Nat)), .un] = some (st goal [], .nx) := rfl
  rw [seq_nx s1, seq_nx hp]
  simp [st]
/-- the least room -/
def roomOf (l : List Step) : Option Int := l.foldl (fun a t => leastOf a t.room) none
theorem v_room_along (l : List Step) : den_room_along [.list (l.map encStep)] = some (.va (oI (roomOf l))) := by
  let st : Option Int → En := fun a => [.fz (.list (l.map encStep)), .fz (oI a), .un]
  have loop := forD_fold (vs := [2]) (t := .nm 2) (db := (dAsg 1 (dCall den_least_of (dCons (dVar 1) (dCons (dIx (dS (dVar 2)) (dC (.int 4))) dNil))))) encStep st (fun a t => leastOf a t.room) (fun _ => True) l none (st none) (by simp [st]) trivial (fun a t _ _ => by
    refine ⟨trivial, [.fz (.list (l.map encStep)), .fz (oI a), .fz (encStep t)], [.fz (.list (l.map encStep)), .fz (oI (leastOf a t.room)), .fz (encStep t)], .nx, rfl, ?_, .inl rfl, by simp [st]⟩
    have := v_least_of a t.room
    simp [encStep, this])
  refine runD_rt (ρ' := st (roomOf l)) rfl rfl ?_
  show bod_room_along [.fz (.list (l.map encStep)), .un, .un] = _
  unfold bod_room_along
  have s1 : (dAsg 1 (dC .none)) [.fz (.list (l.map encStep)), .un, .un] = some (st none, .nx) := rfl
  have s2 : (dFor (dS (dVar 0)) [2] (.nm 2) (dAsg 1 (dCall den_least_of (dCons (dVar 1) (dCons (dIx (dS (dVar 2)) (dC (.int 4))) dNil))))) (st none) = some (st (roomOf l), .nx) := by
    rw [dFor_ap]
    exact loop.1
  rw [seq_nx s1, seq_nx s2]
  rfl
theorem v_price_along (l : List Step) (hl : l.length ≤ 1000) : den_price_along [.list (l.map encStep)] = some (.va (.int (l.map Step.pr).sum)) := by
  have h := compD_all (t := .nm 1) (te := dIx (dS (dVar 1)) (dC (.int 5))) (ρ := [.fz (.list (l.map encStep)), .un]) encStep (fun t => PyData.int t.pr) l fun a _ => ⟨_, rfl, rfl⟩
  have e : l.map (fun t => PyData.int t.pr) = (l.map Step.pr).map .int := by rw [List.map_map]; rfl
  rw [e] at h
  have hlim : Dn.lim (l.map encStep) = some (l.map encStep) := lim_ok (by simp; omega)
  simp only [den_price_along, bod_price_along]
  simp only [runD_ap, entry_ap]
  have hg := gSum_ints (l.map Step.pr)
  rw [List.map_map] at hg
  simp [hlim, h, hg]
def push (f : List Int) (l : List Step) (x : Int) : List Int := l.foldl (fun f t => addAt f t.k (t.w * x)) f
theorem push_length {x : Int} : ∀ (l : List Step) (f : List Int), (push f l x).length = f.length := by
  intro l
  induction l with
  | nil => intro f; rfl
  | cons t l ih =>
    intro f
    show (push (addAt f t.k (t.w * x)) l x).length = _
    rw [ih]; simp
theorem v_pushed (f : List Int) (l : List Step) (x : Int) (hl : ∀ t ∈ l, t.k < f.length ∧ (t.w = 1 ∨ t.w = -1)) : den_pushed [encF f, .list (l.map encStep), .int x] = some (.va (encF (push f l x))) := by
  let st : List Int → En := fun g => [.fz (encF f), .fz (.list (l.map encStep)), .fz (.int x), .ol (g.map .int), .un, .un, .un]
  have loop := forD_fold (vs := [4, 5, 6]) (t := .tp [(.nm 4), (.nm 4), (.nm 5), (.nm 6), (.nm 4), (.nm 4)]) (db := dAugIx 3 (fun i j => i + j) (dVar 5) (dB pMul (dVar 6) (dVar 2))) encStep st (fun g t => addAt g t.k (t.w * x)) (fun g => g.length = f.length) l f (st f) (by simp [st]) rfl (fun g t ht hg => by
    obtain ⟨hk, hw⟩ := hl t ht
    refine ⟨by simp [hg], [.fz (encF f), .fz (.list (l.map encStep)), .fz (.int x), .ol (g.map .int), .fz (.int t.pr), .fz (.int (t.k : Nat)), .fz (.int t.w)], [.fz (encF f), .fz (.list (l.map encStep)), .fz (.int x), .ol ((addAt g t.k (t.w * x)).map .int), .fz (.int t.pr), .fz (.int (t.k : Nat)), .fz (.int t.w)], .nx, ?_, ?_, .inl rfl, by simp [st]⟩
    · simp [encStep, st]
    · have em : (dB pMul (dVar 6) (dVar 2)) [.fz (encF f), .fz (.list (l.map encStep)), .fz (.int x), .ol (g.map .int), .fz (.int t.pr), .fz (.int (t.k : Nat)), .fz (.int t.w)] = some (.int (t.w * x)) := by
        show (if smallI t.w ∨ smallI x then some (PyData.int (t.w * x)) else none) = _
        rw [if_pos (.inl (by rcases hw with e | e <;> rw [e] <;> decide))]
      rw [aug_own (r := g) (t := t.k) (x := t.w * x) rfl rfl em (by omega)]
      rfl)
  refine runD_rt (ρ' := st (push f l x)) rfl rfl ?_
  show bod_pushed [.fz (encF f), .fz (.list (l.map encStep)), .fz (.int x), .un, .un, .un, .un] = _
  unfold bod_pushed
  have s1 : (dAsgO 3 (dGl some (dS (dVar 0)))) [.fz (encF f), .fz (.list (l.map encStep)), .fz (.int x), .un, .un, .un, .un] = some (st f, .nx) := rfl
  have s2 : (dFor (dS (dVar 1)) [4, 5, 6] (.tp [(.nm 4), (.nm 4), (.nm 5), (.nm 6), (.nm 4), (.nm 4)]) (dAugIx 3 (fun i j => i + j) (dVar 5) (dB pMul (dVar 6) (dVar 2)))) (st f) = some (st (push f l x), .nx) := by
    rw [dFor_ap]
    exact loop.1
  rw [seq_nx s1, seq_nx s2]
  rfl
theorem v_least_amounts (W : N.WF) : den_least_amounts [N.enc] = some (.va (encF (N.arcs.map Arc.lo))) := by
  have l1 : N.enc = .tuple [.str "net", .tuple (N.nodes.map encNode), .tuple (N.arcs.map N.encArc)] := rfl
  have h := compD_all (t := .nm 1) (te := dIx (dS (dVar 1)) (dC (.int 3))) (ρ := [.fz N.enc, .un]) N.encArc (fun t => PyData.int t.lo) N.arcs fun a _ => ⟨_, rfl, rfl⟩
  have e : N.arcs.map (fun t => PyData.int t.lo) = (N.arcs.map Arc.lo).map .int := by rw [List.map_map]; rfl
  rw [e] at h
  simp only [den_least_amounts, bod_least_amounts]
  rw [l1] at h ⊢
  simp [W.limA, h, encF]
end K04
end
section
set_option linter.all false
set_option maxRecDepth 100000
set_option maxHeartbeats 1000000
namespace K04
open PySem PySem.Spec L2 Dn
variable {N : Net}
/-! ### what stays at a node -/
def one (p : Prop) [Decidable p] : Int := if p then 1 else 0
def cf (v : Nat) (a : Arc) : Int := one (v = a.h) - one (v = a.t)
def flux (v : Nat) (l : List (Arc × Int)) : Int := (l.map fun p => cf v p.1 * p.2).sum
theorem mv_get {r : List Int} {t h v : Nat} {x : Int} (ht : t < r.length) (hh : h < r.length) : (mv r t h x).getD v 0 = r.getD v 0 + (one (v = h) - one (v = t)) * x := by
  unfold mv
  rw [addAt_get (by simpa using hh), addAt_get ht]
  unfold one
  by_cases e1 : v = t <;> by_cases e2 : v = h <;> simp [e1, e2] <;> (try subst e1) <;> (try subst e2) <;> simp_all <;> omega
theorem fold_get (v : Nat) : ∀ (l : List (Arc × Int)) (r : List Int), (∀ p ∈ l, p.1.t < r.length ∧ p.1.h < r.length) → (l.foldl (fun r p => mv r p.1.t p.1.h p.2) r).getD v 0 = r.getD v 0 + flux v l
  | [], r, _ => by simp [flux]
  | p :: l, r, h => by
    obtain ⟨h1, h2⟩ := h p List.mem_cons_self
    rw [List.foldl_cons, fold_get v l _ fun q hq => by simpa using h q (List.mem_cons_of_mem _ hq), mv_get h1 h2]
    simp only [flux, cf, List.map_cons, List.sum_cons]
    omega
def Net.sup (N : Net) (v : Nat) : Int := N.sups.getD v 0
theorem rest_get (W : N.WF) (f : List Int) (v : Nat) : (N.rest f).getD v 0 = N.sup v + flux v (N.arcs.zip f) := by
  unfold Net.rest
  rw [fold_get]
  · rfl
  · intro p hp
    have := W.ends p.1 (List.of_mem_zip hp).1
    simpa [Net.sups] using this
theorem flux_set (v : Nat) : ∀ (as : List Arc) (f : List Int) (k : Nat) (a : Arc) (y : Int), as[k]? = some a → k < f.length → flux v (as.zip (f.set k y)) = flux v (as.zip f) + cf v a * (y - f.getD k 0)
  | [], f, k, a, y, h, _ => by simp at h
  | b :: as, [], k, a, y, _, h => by simp at h
  | b :: as, x :: f, 0, a, y, h, _ => by
    simp at h; subst h
    simp [flux, Int.mul_sub]
    omega
  | b :: as, x :: f, k + 1, a, y, h, hk => by
    have ih := flux_set v as f k a y (by simpa using h) (by simpa using hk)
    simp only [flux, List.set_cons_succ, List.zip_cons_cons, List.map_cons, List.sum_cons] at ih ⊢
    rw [ih]
    simp
    omega
theorem rest_add (W : N.WF) {f : List Int} {k : Nat} {a : Arc} {x : Int} (ha : N.arcs[k]? = some a) (hk : k < f.length) (v : Nat) : (N.rest (addAt f k x)).getD v 0 = (N.rest f).getD v 0 + cf v a * x := by
  rw [rest_get W, rest_get W]
  unfold addAt
  rw [flux_set v _ _ _ a _ ha hk]
  have : f.getD k 0 + x - f.getD k 0 = x := by omega
  rw [this]; omega
/-- a step of some flow's -/
def IsStep (N : Net) (t : Step) : Prop := ∃ a, N.arcs[t.k]? = some a ∧ ((t.i = a.t ∧ t.j = a.h ∧ t.w = 1) ∨ (t.i = a.h ∧ t.j = a.t ∧ t.w = -1))
theorem isStep_of {f : List Int} {t : Step} (h : t ∈ N.steps f) : IsStep N t := by
  obtain ⟨a, x, hz, h⟩ := steps_mem h
  refine ⟨a, (zip_at hz).1, ?_⟩
  rcases h with ⟨h1, h2, h3, _⟩ | ⟨h1, h2, h3, _⟩
  · exact .inl ⟨h1, h2, h3⟩
  · exact .inr ⟨h1, h2, h3⟩
theorem IsStep.lt {t : Step} (h : IsStep N t) : t.k < N.arcs.length := by
  obtain ⟨a, ha, _⟩ := h
  exact (List.getElem?_eq_some_iff.mp ha).1
theorem rest_step (W : N.WF) {f : List Int} {t : Step} {x : Int} (h : IsStep N t) (hf : f.length = N.arcs.length) (v : Nat) : (N.rest (addAt f t.k (t.w * x))).getD v 0 = (N.rest f).getD v 0 + (one (v = t.j) - one (v = t.i)) * x := by
  have hk := h.lt
  obtain ⟨a, ha, h⟩ := h
  rw [rest_add W ha (by omega)]
  rcases h with ⟨h1, h2, h3⟩ | ⟨h1, h2, h3⟩
  · rw [h1, h2, h3]; unfold cf; simp
  · rw [h1, h2, h3]; unfold cf
    have : (one (v = a.h) - one (v = a.t)) * (-1 * x) = (one (v = a.t) - one (v = a.h)) * x := by
      rw [← Int.mul_assoc]
      congr 1
      omega
    rw [this]
theorem rest_push (W : N.WF) {x : Int} (v : Nat) : ∀ {l : List Step} {f : List Int} {u w : Nat}, f.length = N.arcs.length → (∀ t ∈ l, IsStep N t) → Chain u l w → (N.rest (push f l x)).getD v 0 = (N.rest f).getD v 0 + (one (v = w) - one (v = u)) * x
  | [], f, u, w, _, _, h => by
    have : u = w := h
    subst this
    simp [push]
  | t :: l, f, u, w, hf, hs, h => by
    have ih := rest_push W (x := x) v (l := l) (f := addAt f t.k (t.w * x)) (by simpa using hf) (fun s hs' => hs s (List.mem_cons_of_mem _ hs')) h.2
    show (N.rest (push (addAt f t.k (t.w * x)) l x)).getD v 0 = _
    rw [ih, rest_step W (hs t List.mem_cons_self) hf, h.1]
    have : (one (v = w) - one (v = u)) * x = (one (v = t.j) - one (v = u)) * x + (one (v = w) - one (v = t.j)) * x := by
      rw [← Int.add_mul]
      congr 1
      omega
    rw [this]; omega
/-! ### bounds -/
structure Inb (N : Net) (f : List Int) : Prop where
  len : f.length = N.arcs.length
  bd : ∀ k a, N.arcs[k]? = some a → a.lo ≤ f.getD k 0 ∧ ∀ u, a.hi = some u → f.getD k 0 ≤ u
theorem push_get {x : Int} (k : Nat) : ∀ {l : List Step} {f : List Int}, (l.map Step.k).Nodup → (∀ t ∈ l, t.k < f.length) → (k ∉ l.map Step.k → (push f l x).getD k 0 = f.getD k 0) ∧ ∀ t ∈ l, t.k = k → (push f l x).getD k 0 = f.getD k 0 + t.w * x
  | [], f, _, _ => ⟨fun _ => rfl, fun t h => (by cases h)⟩
  | s :: l, f, nd, hl => by
    have hs := hl s List.mem_cons_self
    obtain ⟨n1, n2⟩ := List.nodup_cons.mp (by simpa using nd : (s.k :: l.map Step.k).Nodup)
    obtain ⟨i1, i2⟩ := push_get k (l := l) (f := addAt f s.k (s.w * x)) n2 fun t ht => by simpa using hl t (List.mem_cons_of_mem _ ht)
    refine ⟨fun h => ?_, fun t ht e => ?_⟩
    · have h1 : k ≠ s.k := fun e => h (by rw [e]; simp)
      have h2 : k ∉ l.map Step.k := fun q => h (by rw [List.map_cons]; exact List.mem_cons_of_mem _ q)
      show (push (addAt f s.k (s.w * x)) l x).getD k 0 = _
      rw [i1 h2, addAt_get hs, if_neg h1]; omega
    · show (push (addAt f s.k (s.w * x)) l x).getD k 0 = _
      rcases List.mem_cons.mp ht with q | q
      · subst q
        rw [i1 (by rw [← e]; exact n1), addAt_get hs, if_pos e.symm]
      · have h1 : k ≠ s.k := fun z => n1 (by rw [← z, ← e]; exact List.mem_map_of_mem q)
        rw [i2 t q e, addAt_get hs, if_neg h1]; omega
theorem chain_up {r : Nat → Nat} : ∀ {l : List Step} {u v : Nat}, Chain u l v → (∀ t ∈ l, r t.i < r t.j) → ∀ s ∈ l, r u ≤ r s.i
  | [], _, _, _, _, s, h => by cases h
  | t :: l, u, v, h, hu, s, hs => by
    rcases List.mem_cons.mp hs with e | hs
    · rw [e, h.1]; exact Nat.le_refl _
    · have := chain_up h.2 (fun s hs => hu s (List.mem_cons_of_mem _ hs)) s hs
      have h2 := hu t List.mem_cons_self
      rw [h.1] at h2
      omega
theorem way_nodup {r : Nat → Nat} : ∀ {l : List Step} {u v : Nat}, Chain u l v → (∀ t ∈ l, r t.i < r t.j) → (∀ t ∈ l, IsStep N t) → (l.map Step.k).Nodup
  | [], _, _, _, _, _ => by simp
  | t :: l, u, v, h, hu, hs => by
    rw [List.map_cons, List.nodup_cons]
    refine ⟨fun q => ?_, way_nodup h.2 (fun s q => hu s (List.mem_cons_of_mem _ q)) fun s q => hs s (List.mem_cons_of_mem _ q)⟩
    obtain ⟨s, hsl, e⟩ := List.mem_map.mp q
    obtain ⟨a, ha, ht⟩ := hs t List.mem_cons_self
    obtain ⟨b, hb, hsb⟩ := hs s (List.mem_cons_of_mem _ hsl)
    rw [e, ha] at hb
    cases hb
    have h1 := hu t List.mem_cons_self
    have h2 := hu s (List.mem_cons_of_mem _ hsl)
    have h3 := chain_up h.2 (fun s q => hu s (List.mem_cons_of_mem _ q)) s hsl
    rcases ht with ⟨t1, t2, _⟩ | ⟨t1, t2, _⟩ <;> rcases hsb with ⟨s1, s2, _⟩ | ⟨s1, s2, _⟩ <;> rw [t1, t2] at h1 <;> rw [s1, s2] at h2 <;> rw [t2, s1] at h3 <;> omega
theorem getD_of {α : Type} {l : List α} {i : Nat} {x d : α} (h : l[i]? = some x) : l.getD i d = x := by rw [List.getD_eq_getElem?_getD, h]; rfl
theorem push_inb {f : List Int} (I : Inb N f) {l : List Step} {x : Int} (hx : 0 ≤ x) (nd : (l.map Step.k).Nodup) (hs : ∀ t ∈ l, t ∈ N.steps f) (hr : ∀ t ∈ l, ∀ u, t.room = some u → x ≤ u) : Inb N (push f l x) := by
  refine ⟨by rw [push_length]; exact I.len, fun k a ha => ?_⟩
  have hk : ∀ t ∈ l, t.k < f.length := fun t ht => by rw [I.len]; exact (isStep_of (hs t ht)).lt
  obtain ⟨p1, p2⟩ := push_get (x := x) k nd hk
  obtain ⟨b1, b2⟩ := I.bd k a ha
  by_cases h : k ∈ l.map Step.k
  · obtain ⟨t, ht, e⟩ := List.mem_map.mp h
    rw [p2 t ht e]
    have hrt := hr t ht
    obtain ⟨b, y, hz, h⟩ := steps_mem (hs t ht)
    obtain ⟨hb, hy⟩ := zip_at hz
    rw [e] at hb hy
    have eab : b = a := Option.some.inj (hb.symm.trans ha)
    subst eab
    have ey : f.getD k 0 = y := getD_of hy
    rw [ey] at b1 b2 ⊢
    rcases h with ⟨_, _, h3, h4, _, h6⟩ | ⟨_, _, h3, h4, _, h6⟩
    · rw [h3]
      refine ⟨by omega, fun u hu => ?_⟩
      have := hrt (u - y) (by rw [h4, hu]; rfl)
      omega
    · rw [h3]
      have := hrt _ h4
      refine ⟨by omega, fun u hu => ?_⟩
      have := b2 u hu
      omega
  · rw [p1 h]
    exact ⟨b1, b2⟩
/-! ### the least room -/
theorem leastOf_some {a b : Option Int} {m : Int} (h : leastOf a b = some m) : (a = some m ∨ b = some m) ∧ (∀ u, a = some u → m ≤ u) ∧ ∀ u, b = some u → m ≤ u := by
  cases a with
  | none =>
    have : b = some m := h
    subst this
    exact ⟨.inr rfl, fun u q => (by cases q), fun u q => (by cases q; omega)⟩
  | some a =>
    cases b with
    | none =>
      have : some a = some m := h
      cases this
      exact ⟨.inl rfl, fun u q => (by cases q; omega), fun u q => (by cases q)⟩
    | some b =>
      have h' : some (if b < a then b else a) = some m := h
      cases h'
      by_cases hb : b < a
      · rw [if_pos hb]
        exact ⟨.inr rfl, fun u q => (by cases q; omega), fun u q => (by cases q; omega)⟩
      · rw [if_neg hb]
        exact ⟨.inl rfl, fun u q => (by cases q; omega), fun u q => (by cases q; omega)⟩
theorem leastOf_isSome {a : Option Int} {b : Int} : ∃ m, leastOf a (some b) = some m := by
  cases a <;> exact ⟨_, rfl⟩
theorem room_spec : ∀ (l : List Step) (a : Option Int), (∀ m, l.foldl (fun a t => leastOf a t.room) a = some m → (a = some m ∨ ∃ t ∈ l, t.room = some m) ∧ (∀ u, a = some u → m ≤ u) ∧ ∀ t ∈ l, ∀ u, t.room = some u → m ≤ u) ∧
    (l.foldl (fun a t => leastOf a t.room) a = none → a = none ∧ ∀ t ∈ l, t.room = none)
  | [], a => ⟨fun m h => ⟨.inl h, fun u q => by
      have h : a = some m := h
      rw [h] at q; cases q; omega, fun t h => (by cases h)⟩, fun h => ⟨h, fun t h => (by cases h)⟩⟩
  | t :: l, a => by
    obtain ⟨i1, i2⟩ := room_spec l (leastOf a t.room)
    refine ⟨fun m h => ?_, fun h => ?_⟩
    · obtain ⟨j1, j2, j3⟩ := i1 m h
      have key : ∀ u, (a = some u ∨ t.room = some u) → m ≤ u := fun u hu => by
        cases hl : leastOf a t.room with
        | none =>
          cases a <;> cases hr : t.room <;> rw [hr] at hl <;> simp [leastOf] at hl <;> rw [hr] at hu <;> simp at hu
        | some z =>
          have h1 := leastOf_some hl
          have h2 := j2 z hl
          rcases hu with hu | hu
          · have := h1.2.1 u hu; omega
          · have := h1.2.2 u hu; omega
      refine ⟨?_, fun u hu => key u (.inl hu), fun s hs u hu => ?_⟩
      · rcases j1 with j1 | ⟨s, hs, e⟩
        · rcases (leastOf_some j1).1 with e | e
          · exact .inl e
          · exact .inr ⟨t, List.mem_cons_self, e⟩
        · exact .inr ⟨s, List.mem_cons_of_mem _ hs, e⟩
      · rcases List.mem_cons.mp hs with e | hs
        · subst e; exact key u (.inr hu)
        · exact j3 s hs u hu
    · obtain ⟨j1, j2⟩ := i2 h
      have : a = none ∧ t.room = none := by
        cases a <;> cases hr : t.room <;> rw [hr] at j1 <;> simp [leastOf] at j1 <;> simp
      refine ⟨this.1, fun s hs => ?_⟩
      rcases List.mem_cons.mp hs with e | hs
      · subst e; exact this.2
      · exact j2 s hs
theorem steps_room {f : List Int} {t : Step} (h : t ∈ N.steps f) {u : Int} (hu : t.room = some u) : 0 < u := by
  obtain ⟨a, x, _, h⟩ := steps_mem h
  rcases h with ⟨_, _, _, h4, _, h6⟩ | ⟨_, _, _, h4, _, h6⟩
  · rw [hu] at h4
    obtain ⟨v, hv, e⟩ := Option.map_eq_some_iff.mp h4.symm
    have := h6 v hv
    omega
  · rw [hu] at h4; cases h4; omega
end K04
end
section
set_option linter.all false
set_option maxRecDepth 100000
set_option maxHeartbeats 1000000
namespace K04
open PySem PySem.Spec L2 Dn
variable {N : Net}
/-- places by their value -/
def pick (p : Int → Nat → Bool) (r : List Int) : List Nat := (r.zipIdx.filter fun q => p q.1 q.2).map (·.2)
theorem mem_pick {p : Int → Nat → Bool} {r : List Int} {v : Nat} : v ∈ pick p r ↔ v < r.length ∧ p (r.getD v 0) v = true := by
  unfold pick
  constructor
  · intro h
    obtain ⟨q, hq, e⟩ := List.mem_map.mp h
    obtain ⟨h1, h2⟩ := List.mem_filter.mp hq
    obtain ⟨i, hi, e2⟩ := List.getElem_of_mem h1
    obtain ⟨h3, h4⟩ := zipIdx_at (by rw [List.getElem?_eq_getElem hi, e2] : r.zipIdx[i]? = some q)
    rw [← e, h3]
    refine ⟨(List.getElem?_eq_some_iff.mp h4).1, ?_⟩
    rw [getD_of h4, ← h3]; exact h2
  · rintro ⟨h1, h2⟩
    refine List.mem_map.mpr ⟨(r.getD v 0, v), List.mem_filter.mpr ⟨?_, h2⟩, rfl⟩
    refine List.mem_of_getElem? (i := v) ?_
    rw [List.getElem?_zipIdx, List.getElem?_eq_getElem h1]
    simp [List.getD_eq_getElem?_getD, h1]
theorem pick_nodup {p : Int → Nat → Bool} {r : List Int} : (pick p r).Nodup := by
  have h : (pick p r).Sublist (r.zipIdx.map (·.2)) := (List.filter_sublist).map _
  have e : r.zipIdx.map (·.2) = List.range' 0 r.length := List.zipIdx_map_snd ..
  rw [e] at h
  exact List.Nodup.sublist h (List.nodup_range')
def encN (l : List Nat) : List PV := l.map fun v => .int (v : Nat)
theorem comp_pick {r : List Int} {t : Tg} {tt : DTv} {te : DPv} {ρ : En} (p : Int → Nat → Bool) (h : ∀ (x : Int) (v : Nat), v < r.length → ∃ ρ1, tgB t (.tuple [.int (v : Nat), .int x]) ρ = some ρ1 ∧ tt ρ1 = some (p x v) ∧ te ρ1 = some (.int (v : Nat))) :
    compD t tt te ρ (enumP 0 (r.map .int)) = some (encN (pick p r)) := by
  rw [enumP_map, compD_map (fun q : Int × Nat => PyData.tuple [.int (q.2 : Nat), .int q.1]) (fun q => p q.1 q.2) (fun q => PyData.int (q.2 : Nat)) r.zipIdx fun q hq => by
    obtain ⟨i, hi, e⟩ := List.getElem_of_mem hq
    have h3 := zipIdx_at (by rw [List.getElem?_eq_getElem hi, e] : r.zipIdx[i]? = some q)
    obtain ⟨ρ1, h1, h2, h4⟩ := h q.1 q.2 (by rw [h3.1]; exact (List.getElem?_eq_some_iff.mp h3.2).1)
    exact ⟨ρ1, h1, h2, fun _ => h4⟩]
  unfold encN pick
  rw [List.map_map]; rfl
theorem depthAll0 : ∀ {l : List PV}, (∀ x ∈ l, PyData.canLay0 x = true ∧ PyData.depth x = 0) → PyData.canLayAll0 l = true ∧ PyData.depthAll l = 0
  | [], _ => ⟨by simp [PyData.canLayAll0], by simp [PyData.depthAll]⟩
  | x :: l, h => by
    have h1 := h x List.mem_cons_self
    have ih := depthAll0 fun y hy => h y (List.mem_cons_of_mem _ hy)
    exact ⟨by simp [PyData.canLayAll0, h1.1, ih.1], by simp [PyData.depthAll, h1.2, ih.2]⟩
theorem shaped_flat {l : List PV} (h : ∀ x ∈ l, PyData.canLay0 x = true ∧ PyData.depth x = 0) : SeqAt.shaped (.list l) = true := by
  have := depthAll0 h
  simp [SeqAt.shaped, PyData.canLay0, PyData.depth, this.1, this.2]
theorem pEq_nil (l : List Nat) : pEq (.list (encN l)) (.list []) = some (.bool l.isEmpty) := by
  have h1 : SeqAt.shaped (.list (encN l)) = true := shaped_flat fun x hx => by
    obtain ⟨v, _, rfl⟩ := List.mem_map.mp hx
    exact ⟨by simp [PyData.canLay0], by simp [PyData.depth]⟩
  have h2 : SeqAt.shaped (.list []) = true := shaped_flat fun x hx => by cases hx
  unfold pEq shp
  rw [h1, h2]
  cases l with
  | nil => simp [encN, PyData.eqv, PyData.eqvAll]
  | cons v l => simp [encN, PyData.eqv, PyData.eqvAll]
def psum (r : List Int) : Nat := (r.map Int.toNat).sum
theorem psum_set : ∀ {r : List Int} {i : Nat} {y : Int}, i < r.length → psum (r.set i y) + (r.getD i 0).toNat = psum r + y.toNat
  | [], _, _, h => by simp at h
  | x :: r, 0, y, _ => by simp [psum]; omega
  | x :: r, i + 1, y, h => by
    have ih := psum_set (r := r) (i := i) (y := y) (by simpa using h)
    simp [psum] at ih ⊢
    omega
theorem psum_mv {r : List Int} {s g : Nat} {x : Int} (hs : s < r.length) (hg : g < r.length) (e : s ≠ g) (hx : 0 < x) (h1 : x ≤ r.getD s 0) (h2 : x ≤ -r.getD g 0) : psum (mv r s g x) < psum r := by
  unfold mv
  have a1 := psum_set (r := r) (i := s) (y := r.getD s 0 + -x) hs
  have a2 := psum_set (r := addAt r s (-x)) (i := g) (y := (addAt r s (-x)).getD g 0 + x) (by simpa using hg)
  have a3 : (addAt r s (-x)).getD g 0 = r.getD g 0 := by rw [addAt_get hs, if_neg (Ne.symm e)]; omega
  rw [a3] at a2
  show psum ((addAt r s (-x)).set g ((addAt r s (-x)).getD g 0 + x)) < _
  rw [a3]
  have a4 : psum (addAt r s (-x)) = psum (r.set s (r.getD s 0 + -x)) := rfl
  omega
theorem ext_getD {l m : List Int} (hl : l.length = m.length) (h : ∀ v, l.getD v 0 = m.getD v 0) : l = m := by
  apply List.ext_getElem hl
  intro i h1 h2
  have := h i
  rw [List.getD_eq_getElem?_getD, List.getD_eq_getElem?_getD, List.getElem?_eq_getElem h1, List.getElem?_eq_getElem h2] at this
  exact this
def overs (r : List Int) : List Nat := pick (fun x _ => decide (0 < x)) r
def unders (r : List Int) : List Nat := pick (fun x _ => decide (x < 0)) r
/-- no way leads from where too much is to where too little is -/
def Full (N : Net) (f : List Int) : Prop := ∀ v, v < N.nodes.length → (N.rest f).getD v 0 < 0 → ¬ Rch (N.steps f) (overs (N.rest f)) v
theorem atR {r : List Int} {v : Nat} (h : v < r.length) : atI (r.map PyData.int) (v : Int) = some (.int (r.getD v 0)) := atI_map (by rw [List.getD_eq_getElem?_getD, List.getElem?_eq_getElem h]; rfl)
theorem v_filled (W : N.WF) (f : List Int) (I : Inb N f) : ∃ f', den_filled [N.enc, encF f] = some (.va (encF f')) ∧ Inb N f' ∧ Full N f' := by
  have hend : ∀ g, ∀ t ∈ N.steps g, t.i < N.nodes.length ∧ t.j < N.nodes.length := fun g t ht => steps_ends W ht
  let st : List Int → En := fun f => [.fz N.enc, .fz (encF f), .ol ((N.rest f).map .int), .un, .un, .un, .un, .un, .un, .un]
  have s1 : (dAsgO 2 (dCallL den_left_over (dCons (dVar 0) (dCons (dVar 1) dNil)))) [.fz N.enc, .fz (encF f), .un, .un, .un, .un, .un, .un, .un, .un] = some (st f, .nx) := by
    simp [v_left_over W f, st]
  have hw := dWhile_run (vs := [3, 4, 5, 6, 7, 8]) (tc := dTru (dC (.bool true))) (db := (dSeq (dAsg 3 (dFz (dComp (dEnum (dOwn 2)) (.tp [(.nm 9), (.nm 8)]) [9, 8] (dTst (dB pGt (dVar 8) (dC (.int 0)))) (dVar 9))))
    (dSeq (dAsg 4 (dFz (dCallL den_reached_from (dCons (dVar 0) (dCons (dVar 1) (dCons (dVar 3) dNil))))))
    (dSeq (dAsg 5 (dFz (dComp (dEnum (dOwn 2)) (.tp [(.nm 9), (.nm 8)]) [9, 8] (dAnd (dTst (dB pLt (dVar 8) (dC (.int 0)))) (dTst (dB pNotN (dIx (dS (dVar 4)) (dVar 9)) (dC .none)))) (dVar 9))))
    (dSeq (dIfS (dTst (dB pEq (dVar 5) (dFz (dLst dNil)))) (dRet (dVar 1)) dSkip)
    (dSeq (dAsg 6 (dFz (dCallL den_way_to (dCons (dVar 4) (dCons (dIx (dS (dVar 5)) (dC (.int 0))) dNil)))))
    (dSeq (dAsg 7 (dIx (dS (dIx (dS (dVar 6)) (dC (.int 0)))) (dC (.int 0))))
    (dSeq (dAsg 8 (dCall den_least_of (dCons (dCall den_room_along (dCons (dVar 6) dNil)) (dCons (dG gMin2 (dCons (dIx (dOwn 2) (dVar 7)) (dCons (dU pNeg (dIx (dOwn 2) (dIx (dS (dVar 5)) (dC (.int 0))))) dNil))) dNil))))
    (dSeq (dAsg 1 (dCall den_pushed (dCons (dVar 1) (dCons (dVar 6) (dCons (dVar 8) dNil)))))
    (dSeq (dAugIx 2 (fun i j => i - j) (dVar 7) (dVar 8))
    (dAugIx 2 (fun i j => i + j) (dIx (dS (dVar 5)) (dC (.int 0))) (dVar 8))))))))))))
    (fun ρ m => ∃ f tl, ρ = [.fz N.enc, .fz (encF f), .ol ((N.rest f).map .int)] ++ tl ++ [.un] ∧ (∃ a b c d e g, tl = [a, b, c, d, e, g] ∧ (∀ x ∈ tl, ∀ (l : List PV), x ≠ .ox l)) ∧ Inb N f ∧ m = psum (N.rest f))
    (fun p => ∃ f ρ, p = (ρ, .rt (.va (encF f))) ∧ Inb N f ∧ Full N f)
    (by
      rintro m ρ ⟨f, tl, rfl, ⟨a, b, c, d, e, g, rfl, hox⟩, I, rfl⟩
      have efg : fgE ([.fz N.enc, .fz (encF f), .ol ((N.rest f).map .int)] ++ [a, b, c, d, e, g] ++ [.un]) [3, 4, 5, 6, 7, 8] = st f := by
        have fg1u : ∀ (ρ : En) (v : Nat), (∀ (l : List PV), ρ[v]? ≠ some (Sl.ox l)) → fg1 ρ v = ρ.set v .un := fun ρ v h => by
          unfold fg1
          split
          · rename_i l w; exact absurd w (h l)
          · rfl
        have no : ∀ x ∈ [a, b, c, d, e, g], ∀ (l : List PV), (some x : Option Sl) ≠ some (Sl.ox l) := fun x hx l w => hox x hx l (Option.some.inj w)
        simp only [fgE_cons, fgE_nil, List.cons_append, List.nil_append]
        rw [fg1u _ 8 (by simpa using no g (by simp))]
        rw [fg1u _ 7 (by simpa using no e (by simp))]
        rw [fg1u _ 6 (by simpa using no d (by simp))]
        rw [fg1u _ 5 (by simpa using no c (by simp))]
        rw [fg1u _ 4 (by simpa using no b (by simp))]
        rw [fg1u _ 3 (by simpa using no a (by simp))]
        rfl
      rw [efg]
      refine .inr ⟨rfl, ?_⟩
      have rl := rest_length (N := N) f
      generalize hr : N.rest f = r at rl
      have hlim : Dn.lim (enumP 0 (r.map .int)) = some (enumP 0 (r.map .int)) := lim_ok (by rw [enumP_length]; have := W.few; simp; omega)
      -- starts
      let sP := PyData.list (encN (overs r))
      have c1 : compD (.tp [(.nm 9), (.nm 8)]) (dTst (dB pGt (dVar 8) (dC (.int 0)))) (dVar 9) [.fz N.enc, .fz (encF f), .ol (r.map .int), .un, .un, .un, .un, .un, .un, .un] (enumP 0 (r.map .int)) = some (encN (overs r)) :=
        comp_pick (fun x _ => decide (0 < x)) fun x v _ => ⟨_, rfl, rfl, rfl⟩
      have t1 : (dAsg 3 (dFz (dComp (dEnum (dOwn 2)) (.tp [(.nm 9), (.nm 8)]) [9, 8] (dTst (dB pGt (dVar 8) (dC (.int 0)))) (dVar 9)))) [.fz N.enc, .fz (encF f), .ol (r.map .int), .un, .un, .un, .un, .un, .un, .un] = some ([.fz N.enc, .fz (encF f), .ol (r.map .int), .fz sP, .un, .un, .un, .un, .un, .un], .nx) := by
        simp [hlim, c1, sP]
      -- met
      obtain ⟨M, hM, HM⟩ := v_reached_from W f I.len (overs r) pick_nodup fun v hv => by
        have := (mem_pick.mp hv).1
        omega
      let mP := PyData.list (M.map encM)
      have t2 : (dAsg 4 (dFz (dCallL den_reached_from (dCons (dVar 0) (dCons (dVar 1) (dCons (dVar 3) dNil)))))) [.fz N.enc, .fz (encF f), .ol (r.map .int), .fz sP, .un, .un, .un, .un, .un, .un] = some ([.fz N.enc, .fz (encF f), .ol (r.map .int), .fz sP, .fz mP, .un, .un, .un, .un, .un], .nx) := by
        have hM' : den_reached_from [N.enc, encF f, sP] = some (.li (M.map encM)) := hM
        simp [hM', mP]
      -- goals
      let gs := pick (fun x v => decide (x < 0) && (M.getD v none).isSome) r
      let gP := PyData.list (encN gs)
      have c2 : compD (.tp [(.nm 9), (.nm 8)]) (dAnd (dTst (dB pLt (dVar 8) (dC (.int 0)))) (dTst (dB pNotN (dIx (dS (dVar 4)) (dVar 9)) (dC .none)))) (dVar 9) [.fz N.enc, .fz (encF f), .ol (r.map .int), .fz sP, .fz mP, .un, .un, .un, .un, .un] (enumP 0 (r.map .int)) = some (encN gs) :=
        comp_pick (fun x v => decide (x < 0) && (M.getD v none).isSome) fun x v hv => by
          have h1 := atM (M := M) (v := v) (by rw [HM.len]; omega)
          refine ⟨_, rfl, ?_, rfl⟩
          have h2 : (dTst (dB pNotN (dIx (dS (dVar 4)) (dVar 9)) (dC .none))) [.fz N.enc, .fz (encF f), .ol (r.map .int), .fz sP, .fz mP, .un, .un, .un, .fz (.int x), .fz (.int (v : Nat))] = some (M.getD v none).isSome := by
            simp only [dTst_ap, dB_ap, dIx_ap, dS_ap, dVar_ap, dC_ap, List.getElem?_cons_succ, List.getElem?_cons_zero, Option.bind_some, mP, asSeq_l, asInt_i, h1, pNotN_ap, isN_encM, asBool_b]
            cases M.getD v none <;> rfl
          show ((dTst (dB pLt (dVar 8) (dC (.int 0)))) [.fz N.enc, .fz (encF f), .ol (r.map .int), .fz sP, .fz mP, .un, .un, .un, .fz (.int x), .fz (.int (v : Nat))]).bind (fun y => if y = true then (dTst (dB pNotN (dIx (dS (dVar 4)) (dVar 9)) (dC .none))) [.fz N.enc, .fz (encF f), .ol (r.map .int), .fz sP, .fz mP, .un, .un, .un, .fz (.int x), .fz (.int (v : Nat))] else some false) = _
          rw [h2]
          show (if decide (x < 0) = true then some (M.getD v none).isSome else some false) = _
          by_cases hx : x < 0 <;> simp [hx]
      have t3 : (dAsg 5 (dFz (dComp (dEnum (dOwn 2)) (.tp [(.nm 9), (.nm 8)]) [9, 8] (dAnd (dTst (dB pLt (dVar 8) (dC (.int 0)))) (dTst (dB pNotN (dIx (dS (dVar 4)) (dVar 9)) (dC .none)))) (dVar 9)))) [.fz N.enc, .fz (encF f), .ol (r.map .int), .fz sP, .fz mP, .un, .un, .un, .un, .un] = some ([.fz N.enc, .fz (encF f), .ol (r.map .int), .fz sP, .fz mP, .fz gP, .un, .un, .un, .un], .nx) := by
        simp [hlim, c2, gP]
      have hgs : ∀ v, v ∈ gs ↔ v < N.nodes.length ∧ r.getD v 0 < 0 ∧ M.getD v none ≠ none := fun v => by
        rw [mem_pick, rl]
        simp [Option.isSome_iff_ne_none]
      have tq : (dTst (dB pEq (dVar 5) (dFz (dLst dNil)))) [.fz N.enc, .fz (encF f), .ol (r.map .int), .fz sP, .fz mP, .fz gP, .un, .un, .un, .un] = some gs.isEmpty := by
        have := pEq_nil gs
        simp [gP, this]
      by_cases hg : gs = []
      · have t4 : (dIfS (dTst (dB pEq (dVar 5) (dFz (dLst dNil)))) (dRet (dVar 1)) dSkip) [.fz N.enc, .fz (encF f), .ol (r.map .int), .fz sP, .fz mP, .fz gP, .un, .un, .un, .un] = some ([.fz N.enc, .fz (encF f), .ol (r.map .int), .fz sP, .fz mP, .fz gP, .un, .un, .un, .un], .rt (.va (encF f))) := by
          rw [dIfS_ap, tq, hg]; rfl
        refine ⟨[.fz N.enc, .fz (encF f), .ol (r.map .int), .fz sP, .fz mP, .fz gP, .un, .un, .un, .un], .rt (.va (encF f)), ?_, .inr (.inr ⟨.va (encF f), rfl, f, _, rfl, I, fun v hv hn hR => ?_⟩)⟩
        · simp only [st]
          rw [hr, seq_nx t1, seq_nx t2, seq_nx t3, seq_rt t4]
        · rw [hr] at hn hR
          have : v ∈ gs := (hgs v).mpr ⟨hv, hn, (HM.rch v hv).mpr hR⟩
          rw [hg] at this; cases this
      · obtain ⟨goal, gs', hge⟩ : ∃ goal gs', gs = goal :: gs' := by
          cases h : gs with
          | nil => exact absurd h hg
          | cons a b => exact ⟨a, b, rfl⟩
        obtain ⟨g1, g2, g3⟩ := (hgs goal).mp (by rw [hge]; exact List.mem_cons_self)
        have t4 : (dIfS (dTst (dB pEq (dVar 5) (dFz (dLst dNil)))) (dRet (dVar 1)) dSkip) [.fz N.enc, .fz (encF f), .ol (r.map .int), .fz sP, .fz mP, .fz gP, .un, .un, .un, .un] = some ([.fz N.enc, .fz (encF f), .ol (r.map .int), .fz sP, .fz mP, .fz gP, .un, .un, .un, .un], .nx) := by
          rw [dIfS_ap, tq, hge]; rfl
        obtain ⟨rk, hway⟩ := v_way_to HM (hend f)
        obtain ⟨l, u, hl, HW, hlen⟩ := hway goal g1 W.few g3
        let lP := PyData.list (l.map encStep)
        have hgix : ∀ tl, (dIx (dS (dVar 5)) (dC (.int 0))) ([.fz N.enc, .fz (encF f), .ol (r.map .int), .fz sP, .fz mP, .fz gP] ++ tl) = some (.int (goal : Nat)) := fun tl => by
          simp [gP, hge, encN]
        have t5 : (dAsg 6 (dFz (dCallL den_way_to (dCons (dVar 4) (dCons (dIx (dS (dVar 5)) (dC (.int 0))) dNil))))) [.fz N.enc, .fz (encF f), .ol (r.map .int), .fz sP, .fz mP, .fz gP, .un, .un, .un, .un] = some ([.fz N.enc, .fz (encF f), .ol (r.map .int), .fz sP, .fz mP, .fz gP, .fz lP, .un, .un, .un], .nx) := by
          have h1 := hgix [.un, .un, .un, .un]
          have h2 : den_way_to [mP, .int (goal : Nat)] = some (.li (l.map encStep)) := hl
          simp only [List.cons_append, List.nil_append] at h1
          rw [dAsg_ap, dFz_ap, dCallL_ap, dCons_ap, dCons_ap, h1]
          simp [h2, lP]
        have hu := mem_pick.mp HW.st
        have huv : u ≠ goal := fun e => by
          rw [e] at hu
          have := of_decide_eq_true hu.2
          omega
        obtain ⟨t, l', hle⟩ : ∃ t l', l = t :: l' := by
          cases h : l with
          | nil => rw [h] at HW; exact absurd HW.ch huv
          | cons a b => exact ⟨a, b, rfl⟩
        have hti : t.i = u := by have := HW.ch; rw [hle] at this; exact this.1
        have t6 : (dAsg 7 (dIx (dS (dIx (dS (dVar 6)) (dC (.int 0)))) (dC (.int 0)))) [.fz N.enc, .fz (encF f), .ol (r.map .int), .fz sP, .fz mP, .fz gP, .fz lP, .un, .un, .un] = some ([.fz N.enc, .fz (encF f), .ol (r.map .int), .fz sP, .fz mP, .fz gP, .fz lP, .fz (.int (u : Nat)), .un, .un], .nx) := by
          simp [lP, hle, encStep, hti]
        -- the amount
        have hun : u < r.length := hu.1
        have hgn : goal < r.length := by omega
        generalize hb : (if -r.getD goal 0 < r.getD u 0 then -r.getD goal 0 else r.getD u 0) = lm
        obtain ⟨x, hx⟩ := leastOf_isSome (a := roomOf l) (b := lm)
        have hxs := leastOf_some hx
        have hu0 : 0 < r.getD u 0 := of_decide_eq_true hu.2
        have hxl : x ≤ lm := hxs.2.2 lm rfl
        have hxr : ∀ t ∈ l, ∀ z, t.room = some z → x ≤ z := fun s hs z hz => by
          cases hro : roomOf l with
          | none => rw [((room_spec l none).2 hro).2 s hs] at hz; cases hz
          | some y =>
            have := (((room_spec l none).1 y hro).2.2 s hs z hz)
            have := hxs.2.1 y hro
            omega
        have hx0 : 0 < x := by
          rcases hxs.1 with e | e
          · rcases ((room_spec l none).1 x e).1 with w | ⟨s, hs, w⟩
            · cases w
            · exact steps_room (HW.mem s hs) w
          · cases e
            rw [← hb]; split <;> omega
        have hx1 : x ≤ r.getD u 0 := by rw [← hb] at hxl; split at hxl <;> omega
        have hx2 : x ≤ -r.getD goal 0 := by rw [← hb] at hxl; split at hxl <;> omega
        have t7 : (dAsg 8 (dCall den_least_of (dCons (dCall den_room_along (dCons (dVar 6) dNil)) (dCons (dG gMin2 (dCons (dIx (dOwn 2) (dVar 7)) (dCons (dU pNeg (dIx (dOwn 2) (dIx (dS (dVar 5)) (dC (.int 0))))) dNil))) dNil)))) [.fz N.enc, .fz (encF f), .ol (r.map .int), .fz sP, .fz mP, .fz gP, .fz lP, .fz (.int (u : Nat)), .un, .un] = some ([.fz N.enc, .fz (encF f), .ol (r.map .int), .fz sP, .fz mP, .fz gP, .fz lP, .fz (.int (u : Nat)), .fz (.int x), .un], .nx) := by
          have h1 := hgix [.fz lP, .fz (.int (u : Nat)), .un, .un]
          simp only [List.cons_append, List.nil_append] at h1
          have h2 : (dIx (dOwn 2) (dIx (dS (dVar 5)) (dC (.int 0)))) [.fz N.enc, .fz (encF f), .ol (r.map .int), .fz sP, .fz mP, .fz gP, .fz lP, .fz (.int (u : Nat)), .un, .un] = some (.int (r.getD goal 0)) := by
            rw [dIx_ap, h1]
            have := atR hgn
            simp only [dOwn_ap, List.getElem?_cons_succ, List.getElem?_cons_zero, Option.bind_some, asInt_i, this]
          have h3 : (dIx (dOwn 2) (dVar 7)) [.fz N.enc, .fz (encF f), .ol (r.map .int), .fz sP, .fz mP, .fz gP, .fz lP, .fz (.int (u : Nat)), .un, .un] = some (.int (r.getD u 0)) := by
            have := atR hun
            simp only [dIx_ap, dVar_ap, dOwn_ap, List.getElem?_cons_succ, List.getElem?_cons_zero, Option.bind_some, asInt_i, this]
          have h4 := v_room_along l
          have h5 := v_least_of (roomOf l) (some lm)
          rw [hx] at h5
          simp only [oI_some] at h5
          rw [dAsg_ap, dCall_ap, dCons_ap, dCons_ap, dG_ap, dCons_ap, dCons_ap, dU_ap, h2, h3]
          have h4' : den_room_along [lP] = some (.va (oI (roomOf l))) := h4
          simp only [dCall_ap, dCons_ap, dNil_ap, dVar_ap, List.getElem?_cons_succ, List.getElem?_cons_zero, Option.bind_some, Option.map_some, h4', pv_va, pNeg_int, gMin2_ap, hb, h5]
          rfl
        have t8 : (dAsg 1 (dCall den_pushed (dCons (dVar 1) (dCons (dVar 6) (dCons (dVar 8) dNil))))) [.fz N.enc, .fz (encF f), .ol (r.map .int), .fz sP, .fz mP, .fz gP, .fz lP, .fz (.int (u : Nat)), .fz (.int x), .un] = some ([.fz N.enc, .fz (encF (push f l x)), .ol (r.map .int), .fz sP, .fz mP, .fz gP, .fz lP, .fz (.int (u : Nat)), .fz (.int x), .un], .nx) := by
          have h1 : den_pushed [encF f, lP, .int x] = some (.va (encF (push f l x))) := v_pushed f l x fun s hs => by
            have h := isStep_of (HW.mem s hs)
            refine ⟨by rw [I.len]; exact h.lt, ?_⟩
            obtain ⟨_, _, h⟩ := h
            rcases h with h | h
            · exact .inl h.2.2
            · exact .inr h.2.2
          simp [h1]
        have hstep : ∀ s ∈ l, IsStep N s := fun s hs => isStep_of (HW.mem s hs)
        have hnd := way_nodup HW.ch HW.up hstep
        have I' : Inb N (push f l x) := push_inb I (by omega) hnd HW.mem hxr
        have hrest : N.rest (push f l x) = mv r u goal x := by
          refine ext_getD (by rw [rest_length]; simp [rl]) fun v => ?_
          rw [rest_push W v I.len hstep HW.ch, mv_get hun hgn, hr]
        refine ⟨[.fz N.enc, .fz (encF (push f l x)), .ol ((mv r u goal x).map .int), .fz sP, .fz mP, .fz gP, .fz lP, .fz (.int (u : Nat)), .fz (.int x), .un], .nx, ?_, .inl ⟨.inl rfl, psum (mv r u goal x), ?_, push f l x, [.fz sP, .fz mP, .fz gP, .fz lP, .fz (.int (u : Nat)), .fz (.int x)], ?_, ⟨_, _, _, _, _, _, rfl, fun y hy l0 => by simp at hy; rcases hy with rfl | rfl | rfl | rfl | rfl | rfl <;> exact fun w => by cases w⟩, I', by rw [hrest]⟩⟩
        · simp only [st]
          rw [hr, seq_nx t1, seq_nx t2, seq_nx t3, seq_nx t4, seq_nx t5, seq_nx t6, seq_nx t7, seq_nx t8, dSeq_ap, aug_own (r := r) (t := u) (x := x) rfl rfl rfl hun]
          simp only [Option.bind_some]
          have h1 := hgix
          rw [aug_own (r := r.set u (r.getD u 0 - x)) (t := goal) (x := x) rfl (by simp [gP, hge, encN]) rfl (by simpa using hgn)]
          simp [mv, addAt, Int.sub_eq_add_neg]
        · exact psum_mv hun hgn huv hx0 hx1 hx2
        · rw [hrest]; rfl)
    (ρ := st f) ⟨f, [.un, .un, .un, .un, .un, .un], rfl, ⟨_, _, _, _, _, _, rfl, fun y hy l0 => by simp at hy; subst hy; exact fun w => by cases w⟩, I, rfl⟩
  obtain ⟨p, hp, f', ρ', rfl, I', hF⟩ := hw
  refine ⟨f', runD_rt (ρ' := ρ') rfl rfl ?_, I', hF⟩
  show bod_filled [.fz N.enc, .fz (encF f), .un, .un, .un, .un, .un, .un, .un, .un] = _
  unfold bod_filled
  rw [seq_nx s1, hp]
end K04
end
section
set_option linter.all false
set_option maxRecDepth 100000
set_option maxHeartbeats 1000000
namespace K04
open PySem PySem.Spec L2 Dn
variable {N : Net}
/-- names by their place -/
def sel (p : Nat → Bool) (l : List Str) : List Str := (l.zipIdx.filter fun q => p q.2).map (·.1)
theorem sel_congr {p q : Nat → Bool} {l : List Str} (h : ∀ v, v < l.length → p v = q v) : sel p l = sel q l := by
  unfold sel
  congr 1
  apply List.filter_congr
  intro x hx
  obtain ⟨i, hi, e⟩ := List.getElem_of_mem hx
  have h3 := zipIdx_at (by rw [List.getElem?_eq_getElem hi, e] : l.zipIdx[i]? = some x)
  rw [h3.1]
  exact h i (List.getElem?_eq_some_iff.mp h3.2).1
theorem comp_sel {l : List Str} {t : Tg} {tt : DTv} {te : DPv} {ρ : En} (p : Nat → Bool) (h : ∀ (x : Str) (v : Nat), v < l.length → ∃ ρ1, tgB t (.tuple [.int (v : Nat), .str x]) ρ = some ρ1 ∧ tt ρ1 = some (p v) ∧ te ρ1 = some (.str x)) :
    compD t tt te ρ (enumP 0 (l.map .str)) = some ((sel p l).map .str) := by
  rw [enumP_map, compD_map (fun q : Str × Nat => PyData.tuple [.int (q.2 : Nat), .str q.1]) (fun q => p q.2) (fun q => PyData.str q.1) l.zipIdx fun q hq => by
    obtain ⟨i, hi, e⟩ := List.getElem_of_mem hq
    have h3 := zipIdx_at (by rw [List.getElem?_eq_getElem hi, e] : l.zipIdx[i]? = some q)
    obtain ⟨ρ1, h1, h2, h4⟩ := h q.1 q.2 (by rw [h3.1]; exact (List.getElem?_eq_some_iff.mp h3.2).1)
    exact ⟨ρ1, h1, h2, fun _ => h4⟩]
  unfold sel
  rw [List.map_map]; rfl
open Classical in
noncomputable def reachB (N : Net) (f : List Int) (v : Nat) : Bool := decide (Rch (N.steps f) (overs (N.rest f)) v)
open Classical in
noncomputable def backB (N : Net) (f : List Int) (v : Nat) : Bool := decide (Rch ((N.steps f).map Step.rev) (unders (N.rest f)) v)
def sumAt (l : List Nat) (r : List Int) : Int := (l.map fun v => r.getD v 0).sum
noncomputable def lackP (N : Net) (f : List Int) : PV :=
  if overs (N.rest f) ≠ [] then .tuple [.str "never", .int (sumAt (overs (N.rest f)) (N.rest f)), .str "over", .tuple ((sel (reachB N f) N.names).map .str)]
  else if unders (N.rest f) ≠ [] then .tuple [.str "never", .int (-sumAt (unders (N.rest f)) (N.rest f)), .str "under", .tuple ((sel (backB N f) N.names).map .str)]
  else .none
theorem lim_sel {p : Nat → Bool} {l : List Str} : (sel p l).length ≤ l.length := by
  unfold sel
  rw [List.length_map]
  exact Nat.le_trans (List.length_filter_le ..) (by simp)
theorem pick_length {p : Int → Nat → Bool} {r : List Int} : (pick p r).length ≤ r.length := by
  unfold pick
  rw [List.length_map]
  exact Nat.le_trans (List.length_filter_le ..) (by simp)
theorem comp_sumAt {t : Tg} {te : DPv} {ρ : En} {l : List Nat} {r : List Int} (h : ∀ v ∈ l, ∃ ρ1, tgB t (.int (v : Nat)) ρ = some ρ1 ∧ te ρ1 = some (.int (r.getD v 0))) : compD t dYes te ρ (encN l) = some ((l.map fun v => r.getD v 0).map .int) := by
  unfold encN
  rw [compD_all (fun v : Nat => PyData.int (v : Nat)) (fun v => PyData.int (r.getD v 0)) l h, List.map_map]; rfl
theorem v_lacking (W : N.WF) (f : List Int) (hf : f.length = N.arcs.length) : den_lacking [N.enc, encF f] = some (.va (lackP N f)) := by
  have rl := rest_length (N := N) f
  unfold lackP
  have hO : ∃ M, den_reached_from [N.enc, encF f, .list (encN (overs (N.rest f)))] = some (.li (M.map encM)) ∧ Met (N.steps f) (overs (N.rest f)) N.nodes.length M := v_reached_from W f hf _ pick_nodup fun v hv => by
    have := (mem_pick.mp hv).1; omega
  have hU : ∃ M, den_reaching [N.enc, encF f, .list (encN (unders (N.rest f)))] = some (.li (M.map encB)) ∧ Met ((N.steps f).map Step.rev) (unders (N.rest f)) N.nodes.length M := v_reaching W f hf _ pick_nodup fun v hv => by
    have := (mem_pick.mp hv).1; omega
  have eR : ∀ M, Met (N.steps f) (overs (N.rest f)) N.nodes.length M → sel (fun v => (M.getD v none).isSome) N.names = sel (reachB N f) N.names := fun M H => sel_congr fun v hv => by
    have hv' : v < N.nodes.length := by simpa [Net.names] using hv
    unfold reachB
    rw [Bool.eq_iff_iff, Option.isSome_iff_ne_none, H.rch v hv']; simp
  have eB : ∀ M, Met ((N.steps f).map Step.rev) (unders (N.rest f)) N.nodes.length M → sel (fun v => (M.getD v none).isSome) N.names = sel (backB N f) N.names := fun M H => sel_congr fun v hv => by
    have hv' : v < N.nodes.length := by simpa [Net.names] using hv
    unfold backB
    rw [Bool.eq_iff_iff, Option.isSome_iff_ne_none, H.rch v hv']; simp
  generalize reachB N f = pR at *
  generalize backB N f = pB at *
  have hL := v_left_over W f
  generalize hr : N.rest f = r at *
  have few := W.few
  have hlim : Dn.lim (enumP 0 (r.map .int)) = some (enumP 0 (r.map .int)) := lim_ok (by rw [enumP_length]; simp; omega)
  have hlimN : Dn.lim (enumP 0 (N.names.map .str)) = some (enumP 0 (N.names.map .str)) := lim_ok (by rw [enumP_length]; simp [Net.names]; omega)
  have lO : Dn.lim (encN (overs r)) = some (encN (overs r)) := lim_ok (by have := pick_length (p := fun x _ => decide (0 < x)) (r := r); simp only [encN, List.length_map, overs]; omega)
  have lU : Dn.lim (encN (unders r)) = some (encN (unders r)) := lim_ok (by have := pick_length (p := fun x _ => decide (x < 0)) (r := r); simp only [encN, List.length_map, unders]; omega)
  let rP := PyData.list (r.map .int)
  let oP := PyData.list (encN (overs r))
  let uP := PyData.list (encN (unders r))
  let nP := PyData.list (N.names.map .str)
  have s1 : (dAsg 2 (dFz (dCallL den_left_over (dCons (dVar 0) (dCons (dVar 1) dNil))))) [.fz N.enc, .fz (encF f), .un, .un, .un, .un, .un, .un, .un, .un, .un, .un] = some ([.fz N.enc, .fz (encF f), .fz rP, .un, .un, .un, .un, .un, .un, .un, .un, .un], .nx) := by
    simp [hL, rP]
  have c2 : compD (.tp [(.nm 9), (.nm 10)]) (dTst (dB pGt (dVar 10) (dC (.int 0)))) (dVar 9) [.fz N.enc, .fz (encF f), .fz rP, .un, .un, .un, .un, .un, .un, .un, .un, .un] (enumP 0 (r.map .int)) = some (encN (overs r)) :=
    comp_pick (fun x _ => decide (0 < x)) fun x v _ => ⟨_, rfl, rfl, rfl⟩
  have s2 : (dAsg 3 (dFz (dComp (dEnum (dS (dVar 2))) (.tp [(.nm 9), (.nm 10)]) [9, 10] (dTst (dB pGt (dVar 10) (dC (.int 0)))) (dVar 9)))) [.fz N.enc, .fz (encF f), .fz rP, .un, .un, .un, .un, .un, .un, .un, .un, .un] = some ([.fz N.enc, .fz (encF f), .fz rP, .fz oP, .un, .un, .un, .un, .un, .un, .un, .un], .nx) := by
    simp only [rP] at c2 ⊢
    simp [hlim, c2, oP]
  have c3 : compD (.tp [(.nm 9), (.nm 10)]) (dTst (dB pLt (dVar 10) (dC (.int 0)))) (dVar 9) [.fz N.enc, .fz (encF f), .fz rP, .fz oP, .un, .un, .un, .un, .un, .un, .un, .un] (enumP 0 (r.map .int)) = some (encN (unders r)) :=
    comp_pick (fun x _ => decide (x < 0)) fun x v _ => ⟨_, rfl, rfl, rfl⟩
  have s3 : (dAsg 4 (dFz (dComp (dEnum (dS (dVar 2))) (.tp [(.nm 9), (.nm 10)]) [9, 10] (dTst (dB pLt (dVar 10) (dC (.int 0)))) (dVar 9)))) [.fz N.enc, .fz (encF f), .fz rP, .fz oP, .un, .un, .un, .un, .un, .un, .un, .un] = some ([.fz N.enc, .fz (encF f), .fz rP, .fz oP, .fz uP, .un, .un, .un, .un, .un, .un, .un], .nx) := by
    simp only [rP] at c3 ⊢
    simp [hlim, c3, uP]
  have s4 : (dAsg 5 (dFz (dCallL den_node_names (dCons (dVar 0) dNil)))) [.fz N.enc, .fz (encF f), .fz rP, .fz oP, .fz uP, .un, .un, .un, .un, .un, .un, .un] = some ([.fz N.enc, .fz (encF f), .fz rP, .fz oP, .fz uP, .fz nP, .un, .un, .un, .un, .un, .un], .nx) := by
    simp [v_node_names W, nP]
  have ixR : ∀ (v : Nat), v < r.length → atI (r.map PyData.int) (v : Int) = some (.int (r.getD v 0)) := fun v hv => atR hv
  have tO : (dTru (dVar 3)) [.fz N.enc, .fz (encF f), .fz rP, .fz oP, .fz uP, .fz nP, .un, .un, .un, .un, .un, .un] = some (!(overs r).isEmpty) := by
    simp [oP, encN]
  have tU : (dTru (dVar 4)) [.fz N.enc, .fz (encF f), .fz rP, .fz oP, .fz uP, .fz nP, .un, .un, .un, .un, .un, .un] = some (!(unders r).isEmpty) := by
    simp [uP, encN]
  have go : ∃ ρ', bod_lacking [.fz N.enc, .fz (encF f), .un, .un, .un, .un, .un, .un, .un, .un, .un, .un] = some (ρ', .rt (.va (if overs r ≠ [] then .tuple [.str "never", .int (sumAt (overs r) r), .str "over", .tuple ((sel pR N.names).map .str)]
      else if unders r ≠ [] then .tuple [.str "never", .int (-sumAt (unders r) r), .str "under", .tuple ((sel pB N.names).map .str)] else .none))) := by
    unfold bod_lacking
    rw [seq_nx s1, seq_nx s2, seq_nx s3, seq_nx s4]
    by_cases h1 : overs r = []
    · have t1 : (dIfS (dTru (dVar 3)) (dSeq (dAsg 6 (dFz (dCallL den_reached_from (dCons (dVar 0) (dCons (dVar 1) (dCons (dVar 3) dNil))))))
        (dSeq (dAsg 7 (dG gTuple (dComp (dEnum (dS (dVar 5))) (.tp [(.nm 9), (.nm 11)]) [9, 11] (dTst (dB pNotN (dIx (dS (dVar 6)) (dVar 9)) (dC .none))) (dVar 11))))
        (dRet (dTup (dCons (dC (.str "never")) (dCons (dG gSum (dComp (dS (dVar 3)) (.nm 9) [9] dYes (dIx (dS (dVar 2)) (dVar 9)))) (dCons (dC (.str "over")) (dCons (dVar 7) dNil)))))))) dSkip) [.fz N.enc, .fz (encF f), .fz rP, .fz oP, .fz uP, .fz nP, .un, .un, .un, .un, .un, .un] = some ([.fz N.enc, .fz (encF f), .fz rP, .fz oP, .fz uP, .fz nP, .un, .un, .un, .un, .un, .un], .nx) := by
        rw [dIfS_ap, tO, h1]; rfl
      rw [seq_nx t1, if_neg (by simpa using h1)]
      by_cases h2 : unders r = []
      · rw [if_neg (by simpa using h2)]
        refine ⟨[.fz N.enc, .fz (encF f), .fz rP, .fz oP, .fz uP, .fz nP, .un, .un, .un, .un, .un, .un], ?_⟩
        rw [seq_nx (ρ' := [.fz N.enc, .fz (encF f), .fz rP, .fz oP, .fz uP, .fz nP, .un, .un, .un, .un, .un, .un]) (by rw [dIfS_ap, tU, h2]; rfl)]
        rfl
      · rw [if_pos h2]
        obtain ⟨M, hM, HM⟩ := hU
        let mP := PyData.list (M.map encB)
        have a1 : (dAsg 8 (dFz (dCallL den_reaching (dCons (dVar 0) (dCons (dVar 1) (dCons (dVar 4) dNil)))))) [.fz N.enc, .fz (encF f), .fz rP, .fz oP, .fz uP, .fz nP, .un, .un, .un, .un, .un, .un] = some ([.fz N.enc, .fz (encF f), .fz rP, .fz oP, .fz uP, .fz nP, .un, .un, .fz mP, .un, .un, .un], .nx) := by
          have hM' : den_reaching [N.enc, encF f, uP] = some (.li (M.map encB)) := hM
          simp [hM', mP]
        have a2c : compD (.tp [(.nm 9), (.nm 11)]) (dTru (dIx (dS (dVar 8)) (dVar 9))) (dVar 11) [.fz N.enc, .fz (encF f), .fz rP, .fz oP, .fz uP, .fz nP, .un, .un, .fz mP, .un, .un, .un] (enumP 0 (N.names.map .str)) = some ((sel pB N.names).map .str) := by
          rw [← eB M HM]
          refine comp_sel _ fun x v hv => ⟨_, rfl, ?_, rfl⟩
          have h1 := atB (M := M) (v := v) (by rw [HM.len]; simpa [Net.names] using hv)
          show ((dIx (dS (dVar 8)) (dVar 9)) [.fz N.enc, .fz (encF f), .fz rP, .fz oP, .fz uP, .fz nP, .un, .un, .fz mP, .fz (.int (v : Nat)), .un, .fz (.str x)]).bind tru = _
          simp only [dIx_ap, dS_ap, dVar_ap, List.getElem?_cons_succ, List.getElem?_cons_zero, Option.bind_some, mP, asSeq_l, asInt_i, h1, encB, tru_b]
        have a2 : (dAsg 7 (dG gTuple (dComp (dEnum (dS (dVar 5))) (.tp [(.nm 9), (.nm 11)]) [9, 11] (dTru (dIx (dS (dVar 8)) (dVar 9))) (dVar 11)))) [.fz N.enc, .fz (encF f), .fz rP, .fz oP, .fz uP, .fz nP, .un, .un, .fz mP, .un, .un, .un] = some ([.fz N.enc, .fz (encF f), .fz rP, .fz oP, .fz uP, .fz nP, .un, .fz (.tuple ((sel pB N.names).map .str)), .fz mP, .un, .un, .un], .nx) := by
          simp only [nP] at a2c ⊢
          simp [hlimN, a2c]
        have a3c : compD (.nm 9) dYes (dIx (dS (dVar 2)) (dVar 9)) [.fz N.enc, .fz (encF f), .fz rP, .fz oP, .fz uP, .fz nP, .un, .fz (.tuple ((sel pB N.names).map .str)), .fz mP, .un, .un, .un] (encN (unders r)) = some (((unders r).map fun v => r.getD v 0).map .int) :=
          comp_sumAt fun v hv => ⟨_, rfl, by
            have := ixR v (mem_pick.mp hv).1
            simp only [dIx_ap, dS_ap, dVar_ap, List.getElem?_cons_succ, List.getElem?_cons_zero, Option.bind_some, rP, asSeq_l, asInt_i, this, List.set_cons_succ, List.set_cons_zero]⟩
        have a3g := gSum_ints ((unders r).map fun v => r.getD v 0)
        have a3 : (dRet (dTup (dCons (dC (.str "never")) (dCons (dU pNeg (dG gSum (dComp (dS (dVar 4)) (.nm 9) [9] dYes (dIx (dS (dVar 2)) (dVar 9))))) (dCons (dC (.str "under")) (dCons (dVar 7) dNil)))))) [.fz N.enc, .fz (encF f), .fz rP, .fz oP, .fz uP, .fz nP, .un, .fz (.tuple ((sel pB N.names).map .str)), .fz mP, .un, .un, .un] = some ([.fz N.enc, .fz (encF f), .fz rP, .fz oP, .fz uP, .fz nP, .un, .fz (.tuple ((sel pB N.names).map .str)), .fz mP, .un, .un, .un], .rt (.va (.tuple [.str "never", .int (-sumAt (unders r) r), .str "under", .tuple ((sel pB N.names).map .str)]))) := by
          have e : (dG gSum (dComp (dS (dVar 4)) (.nm 9) [9] dYes (dIx (dS (dVar 2)) (dVar 9)))) [.fz N.enc, .fz (encF f), .fz rP, .fz oP, .fz uP, .fz nP, .un, .fz (.tuple ((sel pB N.names).map .str)), .fz mP, .un, .un, .un] = some (.int (sumAt (unders r) r)) := by
            have w : wipeE [.fz N.enc, .fz (encF f), .fz rP, .fz oP, .fz uP, .fz nP, .un, .fz (.tuple ((sel pB N.names).map .str)), .fz mP, .un, .un, .un] [9] = some [.fz N.enc, .fz (encF f), .fz rP, .fz oP, .fz uP, .fz nP, .un, .fz (.tuple ((sel pB N.names).map .str)), .fz mP, .un, .un, .un] := rfl
            have q : (dS (dVar 4)) [.fz N.enc, .fz (encF f), .fz rP, .fz oP, .fz uP, .fz nP, .un, .fz (.tuple ((sel pB N.names).map .str)), .fz mP, .un, .un, .un] = some (encN (unders r)) := rfl
            rw [dG_ap, dComp_ap, q, Option.bind_some, lU, Option.bind_some, w, Option.bind_some, a3c, Option.bind_some, a3g]; rfl
          rw [dRet_ap, dTup_ap, dCons_ap, dCons_ap, dU_ap, e]
          rfl
        refine ⟨[.fz N.enc, .fz (encF f), .fz rP, .fz oP, .fz uP, .fz nP, .un, .fz (.tuple ((sel pB N.names).map .str)), .fz mP, .un, .un, .un], ?_⟩
        rw [seq_rt (q := .va (.tuple [.str "never", .int (-sumAt (unders r) r), .str "under", .tuple ((sel pB N.names).map .str)])) (ρ' := [.fz N.enc, .fz (encF f), .fz rP, .fz oP, .fz uP, .fz nP, .un, .fz (.tuple ((sel pB N.names).map .str)), .fz mP, .un, .un, .un]) (by
          rw [dIfS_ap, tU, Option.bind_some, if_pos (by simpa using h2), seq_nx a1, seq_nx a2]; exact a3)]
    · rw [if_pos h1]
      obtain ⟨M, hM, HM⟩ := hO
      let mP := PyData.list (M.map encM)
      have a1 : (dAsg 6 (dFz (dCallL den_reached_from (dCons (dVar 0) (dCons (dVar 1) (dCons (dVar 3) dNil)))))) [.fz N.enc, .fz (encF f), .fz rP, .fz oP, .fz uP, .fz nP, .un, .un, .un, .un, .un, .un] = some ([.fz N.enc, .fz (encF f), .fz rP, .fz oP, .fz uP, .fz nP, .fz mP, .un, .un, .un, .un, .un], .nx) := by
        have hM' : den_reached_from [N.enc, encF f, oP] = some (.li (M.map encM)) := hM
        simp [hM', mP]
      have a2c : compD (.tp [(.nm 9), (.nm 11)]) (dTst (dB pNotN (dIx (dS (dVar 6)) (dVar 9)) (dC .none))) (dVar 11) [.fz N.enc, .fz (encF f), .fz rP, .fz oP, .fz uP, .fz nP, .fz mP, .un, .un, .un, .un, .un] (enumP 0 (N.names.map .str)) = some ((sel pR N.names).map .str) := by
        rw [← eR M HM]
        refine comp_sel _ fun x v hv => ⟨_, rfl, ?_, rfl⟩
        have h1 := atM (M := M) (v := v) (by rw [HM.len]; simpa [Net.names] using hv)
        show (((dIx (dS (dVar 6)) (dVar 9)) [.fz N.enc, .fz (encF f), .fz rP, .fz oP, .fz uP, .fz nP, .fz mP, .un, .un, .fz (.int (v : Nat)), .un, .fz (.str x)]).bind fun x => (some PyData.none).bind fun y => pNotN x y).bind asBool = _
        simp only [dIx_ap, dS_ap, dVar_ap, List.getElem?_cons_succ, List.getElem?_cons_zero, Option.bind_some, mP, asSeq_l, asInt_i, h1, pNotN_ap, isN_encM, asBool_b]
        cases M.getD v none <;> rfl
      have a2 : (dAsg 7 (dG gTuple (dComp (dEnum (dS (dVar 5))) (.tp [(.nm 9), (.nm 11)]) [9, 11] (dTst (dB pNotN (dIx (dS (dVar 6)) (dVar 9)) (dC .none))) (dVar 11)))) [.fz N.enc, .fz (encF f), .fz rP, .fz oP, .fz uP, .fz nP, .fz mP, .un, .un, .un, .un, .un] = some ([.fz N.enc, .fz (encF f), .fz rP, .fz oP, .fz uP, .fz nP, .fz mP, .fz (.tuple ((sel pR N.names).map .str)), .un, .un, .un, .un], .nx) := by
        simp only [nP] at a2c ⊢
        simp [hlimN, a2c]
      have a3c : compD (.nm 9) dYes (dIx (dS (dVar 2)) (dVar 9)) [.fz N.enc, .fz (encF f), .fz rP, .fz oP, .fz uP, .fz nP, .fz mP, .fz (.tuple ((sel pR N.names).map .str)), .un, .un, .un, .un] (encN (overs r)) = some (((overs r).map fun v => r.getD v 0).map .int) :=
        comp_sumAt fun v hv => ⟨_, rfl, by
          have := ixR v (mem_pick.mp hv).1
          simp only [dIx_ap, dS_ap, dVar_ap, List.getElem?_cons_succ, List.getElem?_cons_zero, Option.bind_some, rP, asSeq_l, asInt_i, this, List.set_cons_succ, List.set_cons_zero]⟩
      have a3g := gSum_ints ((overs r).map fun v => r.getD v 0)
      have a3 : (dRet (dTup (dCons (dC (.str "never")) (dCons (dG gSum (dComp (dS (dVar 3)) (.nm 9) [9] dYes (dIx (dS (dVar 2)) (dVar 9)))) (dCons (dC (.str "over")) (dCons (dVar 7) dNil)))))) [.fz N.enc, .fz (encF f), .fz rP, .fz oP, .fz uP, .fz nP, .fz mP, .fz (.tuple ((sel pR N.names).map .str)), .un, .un, .un, .un] = some ([.fz N.enc, .fz (encF f), .fz rP, .fz oP, .fz uP, .fz nP, .fz mP, .fz (.tuple ((sel pR N.names).map .str)), .un, .un, .un, .un], .rt (.va (.tuple [.str "never", .int (sumAt (overs r) r), .str "over", .tuple ((sel pR N.names).map .str)]))) := by
        have e : (dG gSum (dComp (dS (dVar 3)) (.nm 9) [9] dYes (dIx (dS (dVar 2)) (dVar 9)))) [.fz N.enc, .fz (encF f), .fz rP, .fz oP, .fz uP, .fz nP, .fz mP, .fz (.tuple ((sel pR N.names).map .str)), .un, .un, .un, .un] = some (.int (sumAt (overs r) r)) := by
          have w : wipeE [.fz N.enc, .fz (encF f), .fz rP, .fz oP, .fz uP, .fz nP, .fz mP, .fz (.tuple ((sel pR N.names).map .str)), .un, .un, .un, .un] [9] = some [.fz N.enc, .fz (encF f), .fz rP, .fz oP, .fz uP, .fz nP, .fz mP, .fz (.tuple ((sel pR N.names).map .str)), .un, .un, .un, .un] := rfl
          have q : (dS (dVar 3)) [.fz N.enc, .fz (encF f), .fz rP, .fz oP, .fz uP, .fz nP, .fz mP, .fz (.tuple ((sel pR N.names).map .str)), .un, .un, .un, .un] = some (encN (overs r)) := rfl
          rw [dG_ap, dComp_ap, q, Option.bind_some, lO, Option.bind_some, w, Option.bind_some, a3c, Option.bind_some, a3g]; rfl
        rw [dRet_ap, dTup_ap, dCons_ap, dCons_ap, e]
        rfl
      refine ⟨[.fz N.enc, .fz (encF f), .fz rP, .fz oP, .fz uP, .fz nP, .fz mP, .fz (.tuple ((sel pR N.names).map .str)), .un, .un, .un, .un], ?_⟩
      rw [seq_rt (q := .va (.tuple [.str "never", .int (sumAt (overs r) r), .str "over", .tuple ((sel pR N.names).map .str)])) (ρ' := [.fz N.enc, .fz (encF f), .fz rP, .fz oP, .fz uP, .fz nP, .fz mP, .fz (.tuple ((sel pR N.names).map .str)), .un, .un, .un, .un]) (by
        rw [dIfS_ap, tO, Option.bind_some, if_pos (by simpa using h1), seq_nx a1, seq_nx a2]; exact a3)]
  obtain ⟨ρ', h⟩ := go
  exact runD_rt (ρ' := ρ') rfl rfl h
end K04
end
section
set_option linter.all false
set_option maxRecDepth 100000
set_option maxHeartbeats 1000000
namespace K04
open PySem PySem.Spec L2 Dn
variable {N : Net}
theorem pEq_int (a b : Int) : pEq (.int a) (.int b) = some (.bool (a == b)) := by
  have h : ∀ i : Int, SeqAt.shaped (.int i) = true := fun i => by simp [SeqAt.shaped, PyData.canLay0, PyData.depth]
  unfold pEq shp
  rw [h, h]; simp [PyData.eqv]
theorem pNe_int (a b : Int) : pNe (.int a) (.int b) = some (.bool (!(a == b))) := by
  have h : ∀ i : Int, SeqAt.shaped (.int i) = true := fun i => by simp [SeqAt.shaped, PyData.canLay0, PyData.depth]
  unfold pNe shp
  rw [h, h]; simp [PyData.eqv]
theorem dB_of {g : PV → PV → Option PV} {da db : DPv} {ρ : En} {x y z : PV} (h1 : da ρ = some x) (h2 : db ρ = some y) (h3 : g x y = some z) : dB g da db ρ = some z := by
  rw [dB_ap, h1, Option.bind_some, h2, Option.bind_some, h3]
theorem pMul_int {i j : Int} (h : smallI i ∨ smallI j) : pMul (.int i) (.int j) = some (.int (i * j)) := by
  show (if smallI i ∨ smallI j then some (PyData.int (i * j)) else none) = _
  rw [if_pos h]
theorem pMod_int {i j : Int} (h : 0 < j) : pMod (.int i) (.int j) = some (.int (i % j)) := by
  show (if 0 < j then some (PyData.int (i % j)) else none) = _
  rw [if_pos h]
/-- the draw state -/
structure Dst where
  ns : List Int
  pos : Nat
  cell : Int
  left : Nat
  big : Bool
def Dst.enc (s : Dst) : List PV := [.list (s.ns.map .int), .int (s.pos : Nat), .int s.cell, .int (s.left : Nat), .bool s.big, .int 500]
structure Dst.Ok (s : Dst) : Prop where
  cell : 0 ≤ s.cell
theorem v_law_state (ns : List Int) : den_law_state [.list (ns.map .int)] = some (.li (Dst.enc ⟨ns, 0, 0, 0, false, ⟩)) := by
  simp [den_law_state, bod_law_state, Dst.enc, Dn.lim]
section
variable {a b c d e f p : PV} {tl : En} {da : DPv}
theorem st1 (h : da (.ox [a, b, c, d, e, f] :: tl) = some p) : dSetIx 0 (dC (.int 1)) da (.ox [a, b, c, d, e, f] :: tl) = some (.ox [a, p, c, d, e, f] :: tl, .nx) := by rw [dSetIx_ap, h]; rfl
theorem st2 (h : da (.ox [a, b, c, d, e, f] :: tl) = some p) : dSetIx 0 (dC (.int 2)) da (.ox [a, b, c, d, e, f] :: tl) = some (.ox [a, b, p, d, e, f] :: tl, .nx) := by rw [dSetIx_ap, h]; rfl
theorem st3 (h : da (.ox [a, b, c, d, e, f] :: tl) = some p) : dSetIx 0 (dC (.int 3)) da (.ox [a, b, c, d, e, f] :: tl) = some (.ox [a, b, c, p, e, f] :: tl, .nx) := by rw [dSetIx_ap, h]; rfl
theorem st4 (h : da (.ox [a, b, c, d, e, f] :: tl) = some p) : dSetIx 0 (dC (.int 4)) da (.ox [a, b, c, d, e, f] :: tl) = some (.ox [a, b, c, d, p, f] :: tl, .nx) := by rw [dSetIx_ap, h]; rfl
end
/-- the digits -/
theorem draw_tail (s : Dst) (hs : s.Ok) (hl : 0 < s.left) (k : Int) (hk : 1 ≤ k) (hk2 : k < 1073741824) (x : Sl) (hx : ∀ l, x ≠ .ox l ∧ x ≠ .br l) : ∃ d s' tl, 
    (dSeq (dSetIx 0 (dC (.int 3)) (dB pSub (dIx (dOwn 0) (dC (.int 3))) (dC (.int 1))))
    (dSeq (dIfS (dTru (dIx (dOwn 0) (dC (.int 4)))) (dSeq (dAsg 3 (dB pMod (dG gInt (dCons (dIx (dOwn 0) (dC (.int 2))) dNil)) (dVar 1)))
    (dSeq (dSetIx 0 (dC (.int 2)) (dB pFdiv (dIx (dOwn 0) (dC (.int 2))) (dVar 1)))
    (dSeq (dIfS (dTst (dB pEq (dIx (dOwn 0) (dC (.int 2))) (dC (.int 0)))) (dSetIx 0 (dC (.int 3)) (dC (.int 0))) dSkip)
    (dRet (dVar 3))))) dSkip)
    (dSeq (dAsg 4 (dB pMod (dG gInt (dCons (dB pAdd (dB pAdd (dB pMul (dIx (dOwn 0) (dC (.int 2))) (dC (.int 48271))) (dB pMul (dIx (dOwn 0) (dC (.int 3))) (dC (.int 69621)))) (dC (.int 7))) dNil)) (dC (.int 2147483647))))
    (dSeq (dAsg 4 (dB pMod (dG gInt (dCons (dB pAdd (dB pAdd (dB pMul (dVar 4) (dVar 4)) (dB pMul (dIx (dOwn 0) (dC (.int 2))) (dC (.int 31)))) (dIx (dOwn 0) (dC (.int 3)))) dNil)) (dC (.int 1000003))))
    (dRet (dB pMod (dG gInt (dCons (dVar 4) dNil)) (dVar 1))))))) (.ox s.enc :: [.fz (.int k), x, .un, .un])
      = some (.ox (Dst.enc s') :: tl, .rt (.va (.int d))) ∧ 0 ≤ d ∧ d < k ∧ Dst.Ok s' := by
  obtain ⟨ns, pos, cell, left, big⟩ := s
  have hc := hs.cell
  simp only at hc hl
  have e1 : (dB pSub (dIx (dOwn 0) (dC (.int 3))) (dC (.int 1))) (.ox (Dst.enc ⟨ns, pos, cell, left, big⟩) :: [.fz (.int k), x, .un, .un]) = some (.int ((left - 1 : Nat) : Int)) := by
    show some (PyData.int ((left : Int) - 1)) = _
    rw [show ((left : Int) - 1) = ((left - 1 : Nat) : Int) by omega]
  have ee : Dst.enc ⟨ns, pos, cell, left, big⟩ = [.list (ns.map .int), .int (pos : Nat), .int cell, .int (left : Nat), .bool big, .int 500] := rfl
  rw [ee] at e1 ⊢
  rw [seq_nx (st3 e1)]
  have hk0 : 0 < k := by omega
  cases big with
  | true =>
    have q1 : (dAsg 3 (dB pMod (dG gInt (dCons (dIx (dOwn 0) (dC (.int 2))) dNil)) (dVar 1))) (.ox [.list (ns.map .int), .int (pos : Nat), .int cell, .int ((left - 1 : Nat) : Int), .bool true, .int 500] :: [.fz (.int k), x, .un, .un]) = some (.ox [.list (ns.map .int), .int (pos : Nat), .int cell, .int ((left - 1 : Nat) : Int), .bool true, .int 500] :: [.fz (.int k), x, .fz (.int (cell % k)), .un], .nx) := by
      show ((if 0 < k then some (PyData.int (cell % k)) else none).bind _) = _
      rw [if_pos hk0]; rfl
    have q2 : (dB pFdiv (dIx (dOwn 0) (dC (.int 2))) (dVar 1)) (.ox [.list (ns.map .int), .int (pos : Nat), .int cell, .int ((left - 1 : Nat) : Int), .bool true, .int 500] :: [.fz (.int k), x, .fz (.int (cell % k)), .un]) = some (.int (cell / k)) := by
      show (if 0 < k ∧ k < 1073741824 then some (PyData.int (cell / k)) else none) = _
      rw [if_pos ⟨hk0, hk2⟩]
    have q3 : (dTst (dB pEq (dIx (dOwn 0) (dC (.int 2))) (dC (.int 0)))) (.ox [.list (ns.map .int), .int (pos : Nat), .int (cell / k), .int ((left - 1 : Nat) : Int), .bool true, .int 500] :: [.fz (.int k), x, .fz (.int (cell % k)), .un]) = some (cell / k == 0) := by
      show ((pEq (.int (cell / k)) (.int 0)).bind asBool) = _
      rw [pEq_int]; rfl
    have hd0 : 0 ≤ cell / k := Int.ediv_nonneg hc (by omega)
    have m0 := Int.emod_nonneg cell (show k ≠ 0 by omega)
    have m1 := Int.emod_lt_of_pos cell hk0
    by_cases hz : cell / k = 0
    · refine ⟨cell % k, ⟨ns, pos, cell / k, 0, true⟩, [.fz (.int k), x, .fz (.int (cell % k)), .un], ?_, m0, m1, ⟨hd0⟩⟩
      refine seq_rt ?_
      rw [dIfS_ap]
      show dSeq _ _ _ = _
      rw [seq_nx q1, seq_nx (st2 q2)]
      have q4 : (dIfS (dTst (dB pEq (dIx (dOwn 0) (dC (.int 2))) (dC (.int 0)))) (dSetIx 0 (dC (.int 3)) (dC (.int 0))) dSkip) (.ox [.list (ns.map .int), .int (pos : Nat), .int (cell / k), .int ((left - 1 : Nat) : Int), .bool true, .int 500] :: [.fz (.int k), x, .fz (.int (cell % k)), .un]) = some (.ox [.list (ns.map .int), .int (pos : Nat), .int (cell / k), .int 0, .bool true, .int 500] :: [.fz (.int k), x, .fz (.int (cell % k)), .un], .nx) := by
        rw [dIfS_ap, q3, hz]; rfl
      rw [seq_nx q4]
      rfl
    · refine ⟨cell % k, ⟨ns, pos, cell / k, left - 1, true⟩, [.fz (.int k), x, .fz (.int (cell % k)), .un], ?_, m0, m1, ⟨hd0⟩⟩
      refine seq_rt ?_
      rw [dIfS_ap]
      show dSeq _ _ _ = _
      rw [seq_nx q1, seq_nx (st2 q2)]
      have q4 : (dIfS (dTst (dB pEq (dIx (dOwn 0) (dC (.int 2))) (dC (.int 0)))) (dSetIx 0 (dC (.int 3)) (dC (.int 0))) dSkip) (.ox [.list (ns.map .int), .int (pos : Nat), .int (cell / k), .int ((left - 1 : Nat) : Int), .bool true, .int 500] :: [.fz (.int k), x, .fz (.int (cell % k)), .un]) = some (.ox [.list (ns.map .int), .int (pos : Nat), .int (cell / k), .int ((left - 1 : Nat) : Int), .bool true, .int 500] :: [.fz (.int k), x, .fz (.int (cell % k)), .un], .nx) := by
        rw [dIfS_ap, q3, Option.bind_some, if_neg (by simp [hz])]; rfl
      rw [seq_nx q4]
      rfl
  | false =>
    have q0 : (dIfS (dTru (dIx (dOwn 0) (dC (.int 4)))) (dSeq (dAsg 3 (dB pMod (dG gInt (dCons (dIx (dOwn 0) (dC (.int 2))) dNil)) (dVar 1)))
      (dSeq (dSetIx 0 (dC (.int 2)) (dB pFdiv (dIx (dOwn 0) (dC (.int 2))) (dVar 1)))
      (dSeq (dIfS (dTst (dB pEq (dIx (dOwn 0) (dC (.int 2))) (dC (.int 0)))) (dSetIx 0 (dC (.int 3)) (dC (.int 0))) dSkip)
      (dRet (dVar 3))))) dSkip) (.ox [.list (ns.map .int), .int (pos : Nat), .int cell, .int ((left - 1 : Nat) : Int), .bool false, .int 500] :: [.fz (.int k), x, .un, .un]) = some (.ox [.list (ns.map .int), .int (pos : Nat), .int cell, .int ((left - 1 : Nat) : Int), .bool false, .int 500] :: [.fz (.int k), x, .un, .un], .nx) := rfl
    rw [seq_nx q0]
    generalize hz : ((left - 1 : Nat) : Int) = z
    generalize hm : ((cell * 48271 + z * 69621 + 7) % 2147483647 : Int) = m
    have m0 : 0 ≤ m := by rw [← hm]; exact Int.emod_nonneg _ (by decide)
    have m1 : m < 2147483647 := by rw [← hm]; exact Int.emod_lt_of_pos _ (by decide)
    have q1 : (dAsg 4 (dB pMod (dG gInt (dCons (dB pAdd (dB pAdd (dB pMul (dIx (dOwn 0) (dC (.int 2))) (dC (.int 48271))) (dB pMul (dIx (dOwn 0) (dC (.int 3))) (dC (.int 69621)))) (dC (.int 7))) dNil)) (dC (.int 2147483647)))) (.ox [.list (ns.map .int), .int (pos : Nat), .int cell, .int z, .bool false, .int 500] :: [.fz (.int k), x, .un, .un]) = some (.ox [.list (ns.map .int), .int (pos : Nat), .int cell, .int z, .bool false, .int 500] :: [.fz (.int k), x, .un, .fz (.int m)], .nx) := by
      rw [← hm]
      have h1 : pMul (.int cell) (.int 48271) = some (.int (cell * 48271)) := pMul_int (.inr (by decide))
      have h2 : pMul (.int z) (.int 69621) = some (.int (z * 69621)) := pMul_int (.inr (by decide))
      have h3 : ∀ z : Int, pMod (.int z) (.int 2147483647) = some (.int (z % 2147483647)) := fun z => pMod_int (by decide)
      have e2 : (dB pAdd (dB pAdd (dB pMul (dIx (dOwn 0) (dC (.int 2))) (dC (.int 48271))) (dB pMul (dIx (dOwn 0) (dC (.int 3))) (dC (.int 69621)))) (dC (.int 7))) (.ox [.list (ns.map .int), .int (pos : Nat), .int cell, .int z, .bool false, .int 500] :: [.fz (.int k), x, .un, .un]) = some (.int (cell * 48271 + z * 69621 + 7)) := by
        exact dB_of (dB_of (dB_of rfl rfl h1) (dB_of rfl rfl h2) (pAdd_int _ _)) rfl (pAdd_int _ _)
      simp only [dAsg_ap, dB_ap _ pMod, dG_ap, dCons_ap, e2, dNil_ap, Option.bind_some, Option.map_some, gInt_i, dC_ap, h3, setS_ap, List.getElem?_cons_zero, List.getElem?_cons_succ, List.set_cons_succ, List.set_cons_zero]
    rw [seq_nx q1]
    generalize hv : ((m * m + cell * 31 + z) % 1000003 : Int) = v
    have v0 : 0 ≤ v := by rw [← hv]; exact Int.emod_nonneg _ (by decide)
    have q2 : (dAsg 4 (dB pMod (dG gInt (dCons (dB pAdd (dB pAdd (dB pMul (dVar 4) (dVar 4)) (dB pMul (dIx (dOwn 0) (dC (.int 2))) (dC (.int 31)))) (dIx (dOwn 0) (dC (.int 3)))) dNil)) (dC (.int 1000003)))) (.ox [.list (ns.map .int), .int (pos : Nat), .int cell, .int z, .bool false, .int 500] :: [.fz (.int k), x, .un, .fz (.int m)]) = some (.ox [.list (ns.map .int), .int (pos : Nat), .int cell, .int z, .bool false, .int 500] :: [.fz (.int k), x, .un, .fz (.int v)], .nx) := by
      rw [← hv]
      have h1 : pMul (.int m) (.int m) = some (.int (m * m)) := pMul_int (.inl ⟨by omega, by omega⟩)
      have h2 : pMul (.int cell) (.int 31) = some (.int (cell * 31)) := pMul_int (.inr (by decide))
      have h3 : ∀ z : Int, pMod (.int z) (.int 1000003) = some (.int (z % 1000003)) := fun z => pMod_int (by decide)
      have e2 : (dB pAdd (dB pAdd (dB pMul (dVar 4) (dVar 4)) (dB pMul (dIx (dOwn 0) (dC (.int 2))) (dC (.int 31)))) (dIx (dOwn 0) (dC (.int 3)))) (.ox [.list (ns.map .int), .int (pos : Nat), .int cell, .int z, .bool false, .int 500] :: [.fz (.int k), x, .un, .fz (.int m)]) = some (.int (m * m + cell * 31 + z)) := by
        exact dB_of (dB_of (dB_of rfl rfl h1) (dB_of rfl rfl h2) (pAdd_int _ _)) rfl (pAdd_int _ _)
      simp only [dAsg_ap, dB_ap _ pMod, dG_ap, dCons_ap, e2, dNil_ap, Option.bind_some, Option.map_some, gInt_i, dC_ap, h3, setS_ap, List.getElem?_cons_zero, List.getElem?_cons_succ, List.set_cons_succ, List.set_cons_zero]
    rw [seq_nx q2]
    refine ⟨v % k, ⟨ns, pos, cell, left - 1, false⟩, [.fz (.int k), x, .un, .fz (.int v)], ?_, Int.emod_nonneg _ (by omega), Int.emod_lt_of_pos _ hk0, ⟨hc⟩⟩
    show ((if 0 < k then some (PyData.int (v % k)) else none).map _) = _
    rw [if_pos hk0, ← hz]; rfl
end K04
end
section
set_option linter.all false
set_option maxRecDepth 100000
set_option maxHeartbeats 1000000
namespace K04
open PySem PySem.Spec L2 Dn
theorem pow_some : ∃ z : Int, pPow (.int 10) (.int 18) = some (.int z) := by
  refine ⟨10 ^ (18 : Int).toNat, ?_⟩
  show (if (0 : Int) ≤ 18 ∧ (18 : Int) ≤ 1000000 ∧ (10 : Int).natAbs < 2 ^ 64 then some (PyData.int (10 ^ (18 : Int).toNat)) else none) = _
  rw [if_pos (by decide)]
theorem v_law_draw (s : Dst) (hs : s.Ok) (k : Int) (hk : 1 ≤ k) (hk2 : k < 1073741824) : ∃ d s', den_law_draw s.enc [.int k] = some (.int d, Dst.enc s') ∧ 0 ≤ d ∧ d < k ∧ Dst.Ok s' := by
  suffices h : ∃ d s' tl, bod_law_draw (.ox s.enc :: [.fz (.int k), .un, .un, .un]) = some (.ox (Dst.enc s') :: tl, .rt (.va (.int d))) ∧ 0 ≤ d ∧ d < k ∧ Dst.Ok s' by
    obtain ⟨d, s', tl, h, h1, h2, h3⟩ := h
    exact ⟨d, s', runX_rt (ρ' := .ox (Dst.enc s') :: tl) rfl rfl h rfl, h1, h2, h3⟩
  unfold bod_law_draw
  by_cases hl : 0 < s.left
  · have t1 : (dTst (dB pEq (dIx (dOwn 0) (dC (.int 3))) (dC (.int 0)))) (.ox s.enc :: [.fz (.int k), .un, .un, .un]) = some false := by
      have : (dB pEq (dIx (dOwn 0) (dC (.int 3))) (dC (.int 0))) (.ox s.enc :: [.fz (.int k), .un, .un, .un]) = some (.bool ((s.left : Int) == 0)) := dB_of (x := .int (s.left : Nat)) (y := .int 0) rfl rfl (pEq_int _ _)
      rw [dTst_ap, this, Option.bind_some]
      have e : ((s.left : Int) == 0) = false := by simp; omega
      rw [e]; rfl
    rw [dSeq_ap, dIfS_ap, t1]
    exact draw_tail s hs hl k hk hk2 .un fun l => ⟨fun w => (by cases w), fun w => (by cases w)⟩
  · have hl0 : s.left = 0 := by omega
    obtain ⟨ns, pos, cell, left, big⟩ := s
    simp only at hl0
    subst hl0
    have ee : Dst.enc ⟨ns, pos, cell, 0, big⟩ = [.list (ns.map .int), .int (pos : Nat), .int cell, .int 0, .bool big, .int 500] := rfl
    rw [ee]
    have t1 : (dTst (dB pEq (dIx (dOwn 0) (dC (.int 3))) (dC (.int 0)))) (.ox [.list (ns.map .int), .int (pos : Nat), .int cell, .int 0, .bool big, .int 500] :: [.fz (.int k), .un, .un, .un]) = some true := by
      rw [dTst_ap, dB_of (x := .int 0) (y := .int 0) rfl rfl (pEq_int _ _)]; rfl
    have t2 : (dTst (dB pGe (dIx (dOwn 0) (dC (.int 1))) (dG gLen (dS (dIx (dOwn 0) (dC (.int 0))))))) (.ox [.list (ns.map .int), .int (pos : Nat), .int cell, .int 0, .bool big, .int 500] :: [.fz (.int k), .un, .un, .un]) = some (decide (ns.length ≤ pos)) := by
      have e : (dG gLen (dS (dIx (dOwn 0) (dC (.int 0))))) (.ox [.list (ns.map .int), .int (pos : Nat), .int cell, .int 0, .bool big, .int 500] :: [.fz (.int k), .un, .un, .un]) = some (.int (ns.length : Nat)) := by
        show some (PyData.int ((ns.map PyData.int).length : Nat)) = _
        rw [List.length_map]
      rw [dTst_ap, dB_of (x := .int (pos : Nat)) rfl e (pII_int _ _ _)]
      show some (decide ((ns.length : Int) ≤ (pos : Int))) = _
      congr 1
      rw [Bool.eq_iff_iff]; simp
    by_cases hp : ns.length ≤ pos
    · refine ⟨0, ⟨ns, pos, cell, 0, big⟩, [.fz (.int k), .un, .un, .un], ?_, by omega, by omega, hs⟩
      refine seq_rt ?_
      rw [dIfS_ap, t1, Option.bind_some, if_pos rfl]
      refine seq_rt ?_
      rw [dIfS_ap, t2, Option.bind_some, if_pos (by simpa using hp)]
      rfl
    · have hp' : pos < ns.length := by omega
      have b1 : (dIfS (dTst (dB pGe (dIx (dOwn 0) (dC (.int 1))) (dG gLen (dS (dIx (dOwn 0) (dC (.int 0))))))) (dRet (dC (.int 0))) dSkip) (.ox [.list (ns.map .int), .int (pos : Nat), .int cell, .int 0, .bool big, .int 500] :: [.fz (.int k), .un, .un, .un]) = some (.ox [.list (ns.map .int), .int (pos : Nat), .int cell, .int 0, .bool big, .int 500] :: [.fz (.int k), .un, .un, .un], .nx) := by
        rw [dIfS_ap, t2, Option.bind_some, if_neg (by simpa using hp)]; rfl
      have b2 : (dAsg 2 (dIx (dS (dIx (dOwn 0) (dC (.int 0)))) (dIx (dOwn 0) (dC (.int 1))))) (.ox [.list (ns.map .int), .int (pos : Nat), .int cell, .int 0, .bool big, .int 500] :: [.fz (.int k), .un, .un, .un]) = some (.ox [.list (ns.map .int), .int (pos : Nat), .int cell, .int 0, .bool big, .int 500] :: [.fz (.int k), .fz (.int ns[pos]), .un, .un], .nx) := by
        have e : (dIx (dS (dIx (dOwn 0) (dC (.int 0)))) (dIx (dOwn 0) (dC (.int 1)))) (.ox [.list (ns.map .int), .int (pos : Nat), .int cell, .int 0, .bool big, .int 500] :: [.fz (.int k), .un, .un, .un]) = some (.int ns[pos]) := by
          show atI (ns.map PyData.int) (pos : Int) = _
          exact atI_map (List.getElem?_eq_getElem hp')
        rw [dAsg_ap, e]; rfl
      generalize ns[pos] = c0 at b2
      obtain ⟨c, hc, b3⟩ : ∃ c : Int, 0 ≤ c ∧ (dIfS (dTst (dB pLt (dVar 2) (dC (.int 0)))) (dAsg 2 (dB pSub (dU pNeg (dC (.int 1))) (dVar 2))) dSkip) (.ox [.list (ns.map .int), .int (pos : Nat), .int cell, .int 0, .bool big, .int 500] :: [.fz (.int k), .fz (.int c0), .un, .un]) = some (.ox [.list (ns.map .int), .int (pos : Nat), .int cell, .int 0, .bool big, .int 500] :: [.fz (.int k), .fz (.int c), .un, .un], .nx) := by
        by_cases h : c0 < 0
        · refine ⟨-1 - c0, by omega, ?_⟩
          rw [dIfS_ap, dTst_ap, dB_of (x := .int c0) (y := .int 0) rfl rfl (pII_int _ _ _)]
          show (if decide (c0 < 0) = true then _ else _) = _
          rw [if_pos (by simpa using h)]
          rfl
        · refine ⟨c0, by omega, ?_⟩
          rw [dIfS_ap, dTst_ap, dB_of (x := .int c0) (y := .int 0) rfl rfl (pII_int _ _ _)]
          show (if decide (c0 < 0) = true then _ else _) = _
          rw [if_neg (by simpa using h)]
          rfl
      obtain ⟨z, hz⟩ := pow_some
      have b4 := st1 (a := .list (ns.map .int)) (b := .int (pos : Nat)) (c := .int cell) (d := .int 0) (e := .bool big) (f := .int 500) (tl := [.fz (.int k), .fz (.int c), .un, .un]) (da := dB pAdd (dIx (dOwn 0) (dC (.int 1))) (dC (.int 1))) (p := .int ((pos + 1 : Nat) : Int)) rfl
      have b5 := st2 (a := .list (ns.map .int)) (b := .int ((pos + 1 : Nat) : Int)) (c := .int cell) (d := .int 0) (e := .bool big) (f := .int 500) (tl := [.fz (.int k), .fz (.int c), .un, .un]) (da := dVar 2) (p := .int c) rfl
      have b6 := st4 (a := .list (ns.map .int)) (b := .int ((pos + 1 : Nat) : Int)) (c := .int c) (d := .int 0) (e := .bool big) (f := .int 500) (tl := [.fz (.int k), .fz (.int c), .un, .un]) (da := dB pGe (dVar 2) (dB pPow (dC (.int 10)) (dC (.int 18)))) (p := .bool (decide (z ≤ c))) (dB_of (x := .int c) (y := .int z) rfl (dB_of rfl rfl hz) (pII_int _ _ _))
      generalize decide (z ≤ c) = bg at b6
      have b7 := st3 (a := .list (ns.map .int)) (b := .int ((pos + 1 : Nat) : Int)) (c := .int c) (d := .int 0) (e := .bool bg) (f := .int 500) (tl := [.fz (.int k), .fz (.int c), .un, .un]) (da := dC (.int 6)) (p := .int 6) rfl
      have b8 : ∃ m : Nat, 0 < m ∧ (dIfS (dTru (dIx (dOwn 0) (dC (.int 4)))) (dSetIx 0 (dC (.int 3)) (dC (.int 60))) dSkip) (.ox [.list (ns.map .int), .int ((pos + 1 : Nat) : Int), .int c, .int 6, .bool bg, .int 500] :: [.fz (.int k), .fz (.int c), .un, .un]) = some (.ox [.list (ns.map .int), .int ((pos + 1 : Nat) : Int), .int c, .int (m : Nat), .bool bg, .int 500] :: [.fz (.int k), .fz (.int c), .un, .un], .nx) := by
        cases bg with
        | true => exact ⟨60, by omega, rfl⟩
        | false => exact ⟨6, by omega, rfl⟩
      obtain ⟨m, hm, b8⟩ := b8
      have hh := draw_tail ⟨ns, pos + 1, c, m, bg⟩ ⟨hc⟩ hm k hk hk2 (.fz (.int c)) fun l => ⟨fun w => (by cases w), fun w => (by cases w)⟩
      rw [dSeq_ap, dIfS_ap, t1, Option.bind_some, if_pos rfl, seq_nx b1, seq_nx b2, seq_nx b3, seq_nx b4, seq_nx b5, seq_nx b6, seq_nx b7, b8]
      exact hh
theorem v_law_truth (a b : Bool) : den_law_truth [.bool a, .bool b] = some (.va (.bool (a == b))) := by
  cases a <;> cases b <;> rfl
end K04
end
section
set_option linter.all false
set_option maxRecDepth 100000
set_option maxHeartbeats 1000000
namespace K04
open PySem PySem.Spec L2 Dn
variable {N : Net}
theorem least_inb (W : N.WF) : Inb N (N.arcs.map Arc.lo) := by
  refine ⟨by simp, fun k a ha => ?_⟩
  have e : (N.arcs.map Arc.lo).getD k 0 = a.lo := getD_of (by rw [List.getElem?_map, ha]; rfl)
  rw [e]
  exact ⟨Int.le_refl _, W.lohi a (List.mem_of_getElem? ha)⟩
def Even (N : Net) (f : List Int) : Prop := overs (N.rest f) = [] ∧ unders (N.rest f) = []
theorem lackP_none {f : List Int} (h : Even N f) : lackP N f = .none := by
  unfold lackP
  rw [if_neg (by simpa using h.1), if_neg (by simpa using h.2)]
theorem lackP_tup {f : List Int} (h : ¬ Even N f) : ∃ l, lackP N f = .tuple (.str "never" :: l) := by
  unfold lackP
  by_cases h1 : overs (N.rest f) = []
  · rw [if_neg (by simpa using h1)]
    by_cases h2 : unders (N.rest f) = []
    · exact absurd ⟨h1, h2⟩ h
    · rw [if_pos h2]; exact ⟨_, rfl⟩
  · rw [if_pos h1]; exact ⟨_, rfl⟩
open Classical in
noncomputable def firstP (N : Net) (f : List Int) : PV := if Even N f then .tuple [.str "flow", encF f] else lackP N f
theorem v_first_flow (W : N.WF) : ∃ f, Inb N f ∧ Full N f ∧ den_first_flow [N.enc] = some (.va (firstP N f)) := by
  obtain ⟨f, h1, I, F⟩ := v_filled W _ (least_inb W)
  refine ⟨f, I, F, ?_⟩
  have s1 : (dAsg 1 (dCall den_filled (dCons (dVar 0) (dCons (dCall den_least_amounts (dCons (dVar 0) dNil)) dNil)))) [.fz N.enc, .un] = some ([.fz N.enc, .fz (encF f)], .nx) := by
    simp [v_least_amounts W, h1]
  have hL := v_lacking W f I.len
  refine runD_rt (ρ' := [.fz N.enc, .fz (encF f)]) rfl rfl ?_
  show bod_first_flow [.fz N.enc, .un] = _
  unfold bod_first_flow
  rw [seq_nx s1]
  have e0 : (dCall den_lacking (dCons (dVar 0) (dCons (dVar 1) dNil))) [.fz N.enc, .fz (encF f)] = some (lackP N f) := by simp [hL]
  rw [dRet_ap, dOrT_ap, e0, Option.bind_some]
  unfold firstP
  by_cases h : Even N f
  · rw [if_pos h, lackP_none h]; rfl
  · rw [if_neg h]
    obtain ⟨l, hl⟩ := lackP_tup h
    rw [hl]; rfl
theorem shaped_str (x : Str) (h : PyData.strOk x = true) : SeqAt.shaped (.str x) = true := by simp [SeqAt.shaped, PyData.canLay0, PyData.depth, h]
theorem pEq_str {x y : Str} (hx : PyData.strOk x = true) (hy : PyData.strOk y = true) : pEq (.str x) (.str y) = some (.bool (x == y)) := by
  unfold pEq shp
  rw [shaped_str x hx, shaped_str y hy]; simp [PyData.eqv]
theorem pNe_str {x y : Str} (hx : PyData.strOk x = true) (hy : PyData.strOk y = true) : pNe (.str x) (.str y) = some (.bool (!(x == y))) := by
  unfold pNe shp
  rw [shaped_str x hx, shaped_str y hy]; simp [PyData.eqv]
theorem v_has_flow (W : N.WF) : ∃ f, Inb N f ∧ Full N f ∧ den_first_flow [N.enc] = some (.va (firstP N f)) ∧ ∃ b : Bool, den_has_flow [N.enc] = some (.va (.bool b)) ∧ (b = true ↔ Even N f) := by
  obtain ⟨f, I, F, h⟩ := v_first_flow W
  refine ⟨f, I, F, h, ?_⟩
  have e0 : (dCall den_first_flow (dCons (dVar 0) dNil)) [.fz N.enc] = some (firstP N f) := by simp [h]
  by_cases hE : Even N f
  · refine ⟨true, runD_rt (ρ' := [.fz N.enc]) rfl rfl ?_, by simp [hE]⟩
    show bod_has_flow [.fz N.enc] = _
    unfold bod_has_flow
    have e1 : (dIx (dS (dCall den_first_flow (dCons (dVar 0) dNil))) (dC (.int 0))) [.fz N.enc] = some (.str "flow") := by
      rw [dIx_ap, dS_ap, e0]; unfold firstP; rw [if_pos hE]; rfl
    rw [dRet_ap, dB_of (y := .str "flow") e1 rfl (pEq_str (by decide +kernel) (by decide +kernel))]
    simp
  · refine ⟨false, runD_rt (ρ' := [.fz N.enc]) rfl rfl ?_, by simp [hE]⟩
    show bod_has_flow [.fz N.enc] = _
    unfold bod_has_flow
    have e1 : (dIx (dS (dCall den_first_flow (dCons (dVar 0) dNil))) (dC (.int 0))) [.fz N.enc] = some (.str "never") := by
      rw [dIx_ap, dS_ap, e0]; unfold firstP; rw [if_neg hE]
      obtain ⟨l, hl⟩ := lackP_tup hE
      rw [hl]; simp
    have : (("never" : Str) == "flow") = false := by decide +kernel
    rw [dRet_ap, dB_of (y := .str "flow") e1 rfl (pEq_str (by decide +kernel) (by decide +kernel)), this]
    rfl
theorem v_is_whole (i : Int) : den_is_whole [.int i] = some (.va (.bool true)) := by
  have h1 : kitB "int" "int" = some true := by decide +kernel
  have h2 : kitB "int" "bool" = some false := by decide +kernel
  simp [den_is_whole, bod_is_whole, gIsi, tyN, h1, h2]
end K04
end
section
set_option linter.all false
set_option maxRecDepth 100000
set_option maxHeartbeats 1000000
namespace K04
open PySem PySem.Spec L2 Dn
variable {N : Net}
theorem even_zero {f : List Int} : Even N f ↔ ∀ x ∈ N.rest f, x = 0 := by
  constructor
  · rintro ⟨h1, h2⟩ x hx
    obtain ⟨v, hv, e⟩ := List.getElem_of_mem hx
    have ev : (N.rest f).getD v 0 = x := by rw [List.getD_eq_getElem?_getD, List.getElem?_eq_getElem hv, e]; rfl
    have a1 : v ∉ overs (N.rest f) := by rw [h1]; simp
    have a2 : v ∉ unders (N.rest f) := by rw [h2]; simp
    have b1 : ¬ 0 < (N.rest f).getD v 0 := fun q => a1 (mem_pick.mpr ⟨hv, by simpa using q⟩)
    have b2 : ¬ (N.rest f).getD v 0 < 0 := fun q => a2 (mem_pick.mpr ⟨hv, by simpa using q⟩)
    omega
  · intro h
    have z : ∀ v, v < (N.rest f).length → (N.rest f).getD v 0 = 0 := fun v hv => by
      rw [List.getD_eq_getElem?_getD, List.getElem?_eq_getElem hv]
      exact h _ (List.getElem_mem hv)
    constructor
    · rw [List.eq_nil_iff_forall_not_mem]
      intro v hv
      obtain ⟨h1, h2⟩ := mem_pick.mp hv
      rw [z v h1] at h2
      simp at h2
    · rw [List.eq_nil_iff_forall_not_mem]
      intro v hv
      obtain ⟨h1, h2⟩ := mem_pick.mp hv
      rw [z v h1] at h2
      simp at h2
theorem v_is_flow (W : N.WF) (f : List Int) (I : Inb N f) (hE : Even N f) : den_is_flow [N.enc, encF f] = some (.va (.bool true)) := by
  have l1 : N.enc = .tuple [.str "net", .tuple (N.nodes.map encNode), .tuple (N.arcs.map N.encArc)] := rfl
  let ρ0 : En := [.fz N.enc, .fz (encF f), .un, .un, .un]
  have few := W.fewA
  have hlen := I.len
  have c1 : (dOr (dNot (dTru (dIsi "tuple" (dVar 1)))) (dOr (dTst (dB pNe (dG gLen (dS (dVar 1))) (dG gLen (dS (dIx (dS (dVar 0)) (dC (.int 2))))))) (dNot (dTru (dG gAll (dComp (dS (dVar 1)) (.nm 3) [3] dYes (dCall den_is_whole (dCons (dVar 3) dNil)))))))) ρ0 = some false := by
    have h1 : kitB "tuple" "tuple" = some true := by decide +kernel
    have a1 : (dNot (dTru (dIsi "tuple" (dVar 1)))) ρ0 = some false := by
      simp [ρ0, encF, gIsi, tyN, h1]
    have a2 : (dTst (dB pNe (dG gLen (dS (dVar 1))) (dG gLen (dS (dIx (dS (dVar 0)) (dC (.int 2))))))) ρ0 = some false := by
      have e1 : (dG gLen (dS (dVar 1))) ρ0 = some (.int (f.length : Nat)) := by simp [ρ0, encF]
      have e2 : (dG gLen (dS (dIx (dS (dVar 0)) (dC (.int 2))))) ρ0 = some (.int (N.arcs.length : Nat)) := by simp [ρ0, l1]
      rw [dTst_ap, dB_of e1 e2 (pNe_int _ _), hlen]
      simp
    have a3 : (dNot (dTru (dG gAll (dComp (dS (dVar 1)) (.nm 3) [3] dYes (dCall den_is_whole (dCons (dVar 3) dNil)))))) ρ0 = some false := by
      have h2 := compD_all (t := .nm 3) (te := dCall den_is_whole (dCons (dVar 3) dNil)) (ρ := ρ0) PyData.int (fun _ => PyData.bool true) f fun a _ => ⟨_, rfl, by simp [ρ0, v_is_whole]⟩
      have h3 := gAll_bools (f.map fun _ => true)
      have h4 : f.map (fun _ => PyData.bool true) = (f.map fun _ => true).map .bool := by rw [List.map_map]; rfl
      rw [h4] at h2
      have hlim : Dn.lim (f.map PyData.int) = some (f.map PyData.int) := lim_ok (by simp; omega)
      have e1 : (dComp (dS (dVar 1)) (.nm 3) [3] dYes (dCall den_is_whole (dCons (dVar 3) dNil))) ρ0 = some ((f.map fun _ => true).map .bool) := by
        have q : (dS (dVar 1)) ρ0 = some (f.map PyData.int) := rfl
        have w : wipeE ρ0 [3] = some ρ0 := rfl
        rw [dComp_ap, q, Option.bind_some, hlim, Option.bind_some, w, Option.bind_some, h2]
      rw [dNot_ap, dTru_ap, dG_ap, e1, Option.bind_some, h3]
      simp
    rw [dOr_ap, a1, Option.bind_some, if_neg (by simp), dOr_ap, a2, Option.bind_some, if_neg (by simp), a3]
  have loop1 := forD_fold (vs := [2, 3]) (t := .tp [(.nm 2), (.nm 3)]) (db := (dIfS (dOr (dTst (dB pLt (dVar 3) (dIx (dS (dVar 2)) (dC (.int 3))))) (dAnd (dTst (dB pNotN (dIx (dS (dVar 2)) (dC (.int 4))) (dC .none))) (dTst (dB pGt (dVar 3) (dIx (dS (dVar 2)) (dC (.int 4))))))) (dRet (dTup (dCons (dC (.str "bounds")) (dCons (dIx (dS (dVar 2)) (dC (.int 0))) dNil)))) dSkip))
    (fun p : Arc × Int => PyData.tuple [N.encArc p.1, .int p.2]) (fun _ : Unit => ρ0) (fun _ _ => ()) (fun _ => True) (N.arcs.zip f) () ρ0 (by simp [ρ0]) trivial (fun _ p hp _ => by
      obtain ⟨i, hi, e⟩ := List.getElem_of_mem hp
      obtain ⟨ha, hx⟩ := zip_at (by rw [List.getElem?_eq_getElem hi, e] : (N.arcs.zip f)[i]? = some p)
      obtain ⟨a, x⟩ := p
      obtain ⟨b1, b2⟩ := I.bd i a ha
      have ex : f.getD i 0 = x := getD_of hx
      rw [ex] at b1 b2
      refine ⟨trivial, [.fz N.enc, .fz (encF f), .fz (N.encArc a), .fz (.int x), .un], [.fz N.enc, .fz (encF f), .fz (N.encArc a), .fz (.int x), .un], .nx, rfl, ?_, .inl rfl, by simp [ρ0]⟩
      have h1 : ¬ x < a.lo := by omega
      rcases hh : a.hi with _ | u
      · simp [Net.encArc, hh, h1]
      · have h2 : ¬ u < x := by have := b2 u hh; omega
        simp [Net.encArc, hh, h1, h2])
  have loop2 := forD_fold (vs := [3, 4]) (t := .tp [(.nm 4), (.nm 3)]) (db := (dIfS (dTst (dB pNe (dVar 3) (dC (.int 0)))) (dRet (dTup (dCons (dC (.str "balance")) (dCons (dVar 4) dNil)))) dSkip))
    (fun p : Str × Int => PyData.tuple [.str p.1, .int p.2]) (fun _ : Unit => ρ0) (fun _ _ => ()) (fun _ => True) (N.names.zip (N.rest f)) () ρ0 (by simp [ρ0]) trivial (fun _ p hp _ => by
      have hz := even_zero.mp hE p.2 (List.of_mem_zip hp).2
      refine ⟨trivial, [.fz N.enc, .fz (encF f), .un, .fz (.int p.2), .fz (.str p.1)], [.fz N.enc, .fz (encF f), .un, .fz (.int p.2), .fz (.str p.1)], .nx, rfl, ?_, .inl rfl, by simp [ρ0]⟩
      rw [dIfS_ap, dTst_ap, dB_of (x := .int p.2) (y := .int 0) rfl rfl (pNe_int _ _), hz]
      rfl)
  have ff : den_flow_fault [N.enc, encF f] = some (.va .none) := by
    refine runD_rt (ρ' := ρ0) rfl rfl ?_
    show bod_flow_fault ρ0 = _
    unfold bod_flow_fault
    have s1 : (dIfS (dOr (dNot (dTru (dIsi "tuple" (dVar 1)))) (dOr (dTst (dB pNe (dG gLen (dS (dVar 1))) (dG gLen (dS (dIx (dS (dVar 0)) (dC (.int 2))))))) (dNot (dTru (dG gAll (dComp (dS (dVar 1)) (.nm 3) [3] dYes (dCall den_is_whole (dCons (dVar 3) dNil)))))))) (dRet (dTup (dCons (dC (.str "form")) (dCons (dC (.str "")) dNil)))) dSkip) ρ0 = some (ρ0, .nx) := by
      rw [dIfS_ap, c1]; rfl
    have z1 : (dZip (dS (dIx (dS (dVar 0)) (dC (.int 2)))) (dS (dVar 1))) ρ0 = some ((N.arcs.zip f).map fun p : Arc × Int => PyData.tuple [N.encArc p.1, .int p.2]) := by
      have := zipP_map N.encArc PyData.int N.arcs f
      simp [ρ0, l1, encF, this]
    have z2 : (dZip (dS (dFz (dCallL den_node_names (dCons (dVar 0) dNil)))) (dS (dFz (dCallL den_left_over (dCons (dVar 0) (dCons (dVar 1) dNil)))))) ρ0 = some ((N.names.zip (N.rest f)).map fun p : Str × Int => PyData.tuple [.str p.1, .int p.2]) := by
      have := zipP_map PyData.str PyData.int N.names (N.rest f)
      simp [ρ0, v_node_names W, v_left_over W f, this]
    rw [seq_nx s1, dSeq_ap, dFor_ap, z1, Option.bind_some, loop1.1]
    show (dSeq _ _ ρ0) = _
    rw [dSeq_ap, dFor_ap, z2, Option.bind_some, loop2.1]
    rfl
  refine runD_rt (ρ' := [.fz N.enc, .fz (encF f)]) rfl rfl ?_
  show bod_is_flow [.fz N.enc, .fz (encF f)] = _
  unfold bod_is_flow
  simp [ff]
end K04
end
section
set_option linter.all false
set_option maxRecDepth 100000
set_option maxHeartbeats 1000000
namespace K04
open PySem PySem.Spec L2 Dn
variable {N : Net}
theorem any_str (S : List Str) (x : Str) : ((S.map PyData.str).any fun y => PyData.eqv y (.str x)) = S.contains x := by
  rw [List.any_map, List.contains_eq_any_beq]
  congr 1
  funext y
  simp only [Function.comp, eqv_str]
  exact Bool.beq_comm
theorem gIn_str (S : List Str) (x : Str) : gIn (.str x) (S.map .str) = some (.bool (S.contains x)) := by
  unfold gIn
  rw [if_pos ⟨rfl, all_flat_str S⟩, any_str]
theorem gNotIn_str (S : List Str) (x : Str) : gNotIn (.str x) (S.map .str) = some (.bool (!S.contains x)) := by
  unfold gNotIn
  rw [if_pos ⟨rfl, all_flat_str S⟩, any_str]
def gapR (cin cout : Arc → Bool) : List Arc → Int → Option Int
  | [], z => some z
  | a :: as, z => if cout a = true then (match a.hi with
      | none => none
      | some u => gapR cin cout as ((if cin a = true then z + a.lo else z) - u))
    else gapR cin cout as (if cin a = true then z + a.lo else z)
def Net.into (N : Net) (S : List Str) (a : Arc) : Bool := !S.contains (N.name a.t) && S.contains (N.name a.h)
def Net.outo (N : Net) (S : List Str) (a : Arc) : Bool := S.contains (N.name a.t) && !S.contains (N.name a.h)
def Net.supS (N : Net) (S : List Str) : Int := ((N.nodes.filter fun q => S.contains q.1).map (·.2)).sum
def encS (S : List Str) : PV := .tuple (S.map .str)
theorem v_gap_over (W : N.WF) (S : List Str) : den_gap_over [N.enc, encS S] = some (.va (oI (gapR (N.into S) (N.outo S) N.arcs (N.supS S)))) := by
  have l1 : N.enc = .tuple [.str "net", .tuple (N.nodes.map encNode), .tuple (N.arcs.map N.encArc)] := rfl
  let st : Int → En := fun z => [.fz N.enc, .fz (encS S), .fz (.int z), .un, .un, .un]
  have c1 : compD (.tp [(.nm 4), (.nm 5)]) (dTst (dInQ gIn (dVar 4) (dS (dVar 1)))) (dVar 5) [.fz N.enc, .fz (encS S), .un, .un, .un, .un] (N.nodes.map encNode) = some (((N.nodes.filter fun q => S.contains q.1).map (·.2)).map .int) := by
    rw [compD_map encNode (fun q => S.contains q.1) (fun q => PyData.int q.2) N.nodes fun q _ => ⟨[.fz N.enc, .fz (encS S), .un, .un, .fz (.str q.1), .fz (.int q.2)], rfl, by
      show (gIn (.str q.1) (S.map .str)).bind asBool = _
      rw [gIn_str]; rfl, fun _ => rfl⟩, List.map_map]
    rfl
  have s1 : (dAsg 2 (dG gSum (dComp (dS (dIx (dS (dVar 0)) (dC (.int 1)))) (.tp [(.nm 4), (.nm 5)]) [4, 5] (dTst (dInQ gIn (dVar 4) (dS (dVar 1)))) (dVar 5)))) [.fz N.enc, .fz (encS S), .un, .un, .un, .un] = some (st (N.supS S), .nx) := by
    have hg := gSum_ints ((N.nodes.filter fun q => S.contains q.1).map (·.2))
    have e : (dComp (dS (dIx (dS (dVar 0)) (dC (.int 1)))) (.tp [(.nm 4), (.nm 5)]) [4, 5] (dTst (dInQ gIn (dVar 4) (dS (dVar 1)))) (dVar 5)) [.fz N.enc, .fz (encS S), .un, .un, .un, .un] = some (((N.nodes.filter fun q => S.contains q.1).map (·.2)).map .int) := by
      have q : (dS (dIx (dS (dVar 0)) (dC (.int 1)))) [.fz N.enc, .fz (encS S), .un, .un, .un, .un] = some (N.nodes.map encNode) := rfl
      have w : wipeE [.fz N.enc, .fz (encS S), .un, .un, .un, .un] [4, 5] = some [.fz N.enc, .fz (encS S), .un, .un, .un, .un] := rfl
      rw [dComp_ap, q, Option.bind_some, W.lim, Option.bind_some, w, Option.bind_some, c1]
    rw [dAsg_ap, dG_ap, e, Option.bind_some, hg]
    rfl
  have loop : ∀ (as : List Arc) (z : Int) (ρ : En), fgE ρ [3] = st z → ∃ ρ', forD [3] (.nm 3) (dSeq (dIfS (dAnd (dTst (dInQ gNotIn (dIx (dS (dVar 3)) (dC (.int 1))) (dS (dVar 1)))) (dTst (dInQ gIn (dIx (dS (dVar 3)) (dC (.int 2))) (dS (dVar 1))))) (dAug 2 (fun i j => i + j) (dIx (dS (dVar 3)) (dC (.int 3)))) dSkip)
      (dIfS (dAnd (dTst (dInQ gIn (dIx (dS (dVar 3)) (dC (.int 1))) (dS (dVar 1)))) (dTst (dInQ gNotIn (dIx (dS (dVar 3)) (dC (.int 2))) (dS (dVar 1))))) (dSeq (dIfS (dTst (dB pIsN (dIx (dS (dVar 3)) (dC (.int 4))) (dC .none))) (dRet (dC .none)) dSkip)
      (dAug 2 (fun i j => i - j) (dIx (dS (dVar 3)) (dC (.int 4))))) dSkip)) (as.map N.encArc) ρ = match gapR (N.into S) (N.outo S) as z with
        | some y => some (st y, .nx)
        | none => some (ρ', .rt (.va .none)) := by
    intro as
    induction as with
    | nil => intro z ρ h; exact ⟨ρ, by show some (fgE ρ [3], Fl.nx) = _; rw [h]; rfl⟩
    | cons a as ih =>
      intro z ρ h
      let ρ1 : Int → En := fun z => [.fz N.enc, .fz (encS S), .fz (.int z), .fz (N.encArc a), .un, .un]
      have ht : tgB (.nm 3) (N.encArc a) (fgE ρ [3]) = some (ρ1 z) := by rw [h]; rfl
      have ta : ∀ z, (dTst (dInQ gNotIn (dIx (dS (dVar 3)) (dC (.int 1))) (dS (dVar 1)))) (ρ1 z) = some (!S.contains (N.name a.t)) := fun z => by
        show (gNotIn (.str (N.name a.t)) (S.map .str)).bind asBool = _
        rw [gNotIn_str]; rfl
      have tb : ∀ z, (dTst (dInQ gIn (dIx (dS (dVar 3)) (dC (.int 2))) (dS (dVar 1)))) (ρ1 z) = some (S.contains (N.name a.h)) := fun z => by
        show (gIn (.str (N.name a.h)) (S.map .str)).bind asBool = _
        rw [gIn_str]; rfl
      have tc : ∀ z, (dTst (dInQ gIn (dIx (dS (dVar 3)) (dC (.int 1))) (dS (dVar 1)))) (ρ1 z) = some (S.contains (N.name a.t)) := fun z => by
        show (gIn (.str (N.name a.t)) (S.map .str)).bind asBool = _
        rw [gIn_str]; rfl
      have td : ∀ z, (dTst (dInQ gNotIn (dIx (dS (dVar 3)) (dC (.int 2))) (dS (dVar 1)))) (ρ1 z) = some (!S.contains (N.name a.h)) := fun z => by
        show (gNotIn (.str (N.name a.h)) (S.map .str)).bind asBool = _
        rw [gNotIn_str]; rfl
      have hin : ∀ z, (dAnd (dTst (dInQ gNotIn (dIx (dS (dVar 3)) (dC (.int 1))) (dS (dVar 1)))) (dTst (dInQ gIn (dIx (dS (dVar 3)) (dC (.int 2))) (dS (dVar 1))))) (ρ1 z) = some (N.into S a) := fun z => by
        rw [dAnd_ap, ta, Option.bind_some, tb]; unfold Net.into
        cases S.contains (N.name a.t) <;> rfl
      have hout : ∀ z, (dAnd (dTst (dInQ gIn (dIx (dS (dVar 3)) (dC (.int 1))) (dS (dVar 1)))) (dTst (dInQ gNotIn (dIx (dS (dVar 3)) (dC (.int 2))) (dS (dVar 1))))) (ρ1 z) = some (N.outo S a) := fun z => by
        rw [dAnd_ap, tc, Option.bind_some, td]; unfold Net.outo
        cases S.contains (N.name a.t) <;> rfl
      have b1 : (dIfS (dAnd (dTst (dInQ gNotIn (dIx (dS (dVar 3)) (dC (.int 1))) (dS (dVar 1)))) (dTst (dInQ gIn (dIx (dS (dVar 3)) (dC (.int 2))) (dS (dVar 1))))) (dAug 2 (fun i j => i + j) (dIx (dS (dVar 3)) (dC (.int 3)))) dSkip) (ρ1 z) = some (ρ1 (if N.into S a = true then z + a.lo else z), .nx) := by
        rw [dIfS_ap, hin, Option.bind_some]
        cases N.into S a <;> rfl
      generalize hy : (if N.into S a = true then z + a.lo else z) = y at b1
      have unf : gapR (N.into S) (N.outo S) (a :: as) z = if N.outo S a = true then (match a.hi with
          | none => none
          | some u => gapR (N.into S) (N.outo S) as (y - u)) else gapR (N.into S) (N.outo S) as y := by
        rw [← hy]; rfl
      rw [unf, List.map_cons]
      cases ho : N.outo S a with
      | false =>
        obtain ⟨ρ', hi⟩ := ih y (ρ1 y) (by simp [ρ1, st])
        refine ⟨ρ', ?_⟩
        rw [forD_next (ρ2 := ρ1 y) (fl := .nx) ht (by rw [seq_nx b1, dIfS_ap, hout, ho]; rfl) (.inl rfl), hi]
        rfl
      | true =>
        cases hh : a.hi with
        | none =>
          refine ⟨ρ1 y, ?_⟩
          rw [forD_ret (ρ2 := ρ1 y) (q := .va .none) ht (by
            rw [seq_nx b1, dIfS_ap, hout, ho, Option.bind_some, if_pos rfl]
            simp [ρ1, Net.encArc, hh])]
          rfl
        | some u =>
          obtain ⟨ρ', hi⟩ := ih (y - u) (ρ1 (y - u)) (by simp [ρ1, st])
          refine ⟨ρ', ?_⟩
          rw [forD_next (ρ2 := ρ1 (y - u)) (fl := .nx) ht (by
            rw [seq_nx b1, dIfS_ap, hout, ho, Option.bind_some, if_pos rfl]
            simp [ρ1, Net.encArc, hh]) (.inl rfl), hi]
          rfl
  obtain ⟨ρ', hl⟩ := loop N.arcs (N.supS S) (st (N.supS S)) (by simp [st])
  have q2 : (dS (dIx (dS (dVar 0)) (dC (.int 2)))) (st (N.supS S)) = some (N.arcs.map N.encArc) := rfl
  cases hg : gapR (N.into S) (N.outo S) N.arcs (N.supS S) with
  | none =>
    refine runD_rt (ρ' := ρ') rfl rfl ?_
    show bod_gap_over [.fz N.enc, .fz (encS S), .un, .un, .un, .un] = _
    unfold bod_gap_over
    rw [seq_nx s1, seq_rt (by rw [dFor_ap, q2, Option.bind_some, hl, hg])]
    rfl
  | some y =>
    refine runD_rt (ρ' := st y) rfl rfl ?_
    show bod_gap_over [.fz N.enc, .fz (encS S), .un, .un, .un, .un] = _
    unfold bod_gap_over
    rw [seq_nx s1, seq_nx (ρ' := st y) (by rw [dFor_ap, q2, Option.bind_some, hl, hg])]
    rfl
end K04
end
section
set_option linter.all false
set_option maxRecDepth 100000
set_option maxHeartbeats 1000000
namespace K04
open PySem PySem.Spec L2 Dn
variable {N : Net}
theorem v_gap_under (W : N.WF) (S : List Str) : den_gap_under [N.enc, encS S] = some (.va (oI (gapR (N.outo S) (N.into S) N.arcs (-N.supS S)))) := by
  have l1 : N.enc = .tuple [.str "net", .tuple (N.nodes.map encNode), .tuple (N.arcs.map N.encArc)] := rfl
  let st : Int → En := fun z => [.fz N.enc, .fz (encS S), .fz (.int z), .un, .un, .un]
  have c1 : compD (.tp [(.nm 4), (.nm 5)]) (dTst (dInQ gIn (dVar 4) (dS (dVar 1)))) (dVar 5) [.fz N.enc, .fz (encS S), .un, .un, .un, .un] (N.nodes.map encNode) = some (((N.nodes.filter fun q => S.contains q.1).map (·.2)).map .int) := by
    rw [compD_map encNode (fun q => S.contains q.1) (fun q => PyData.int q.2) N.nodes fun q _ => ⟨[.fz N.enc, .fz (encS S), .un, .un, .fz (.str q.1), .fz (.int q.2)], rfl, by
      show (gIn (.str q.1) (S.map .str)).bind asBool = _
      rw [gIn_str]; rfl, fun _ => rfl⟩, List.map_map]
    rfl
  have s1 : (dAsg 2 (dU pNeg (dG gSum (dComp (dS (dIx (dS (dVar 0)) (dC (.int 1)))) (.tp [(.nm 4), (.nm 5)]) [4, 5] (dTst (dInQ gIn (dVar 4) (dS (dVar 1)))) (dVar 5))))) [.fz N.enc, .fz (encS S), .un, .un, .un, .un] = some (st (-N.supS S), .nx) := by
    have hg := gSum_ints ((N.nodes.filter fun q => S.contains q.1).map (·.2))
    have e : (dComp (dS (dIx (dS (dVar 0)) (dC (.int 1)))) (.tp [(.nm 4), (.nm 5)]) [4, 5] (dTst (dInQ gIn (dVar 4) (dS (dVar 1)))) (dVar 5)) [.fz N.enc, .fz (encS S), .un, .un, .un, .un] = some (((N.nodes.filter fun q => S.contains q.1).map (·.2)).map .int) := by
      have q : (dS (dIx (dS (dVar 0)) (dC (.int 1)))) [.fz N.enc, .fz (encS S), .un, .un, .un, .un] = some (N.nodes.map encNode) := rfl
      have w : wipeE [.fz N.enc, .fz (encS S), .un, .un, .un, .un] [4, 5] = some [.fz N.enc, .fz (encS S), .un, .un, .un, .un] := rfl
      rw [dComp_ap, q, Option.bind_some, W.lim, Option.bind_some, w, Option.bind_some, c1]
    rw [dAsg_ap, dU_ap, dG_ap, e, Option.bind_some, hg]
    rfl
  have loop : ∀ (as : List Arc) (z : Int) (ρ : En), fgE ρ [3] = st z → ∃ ρ', forD [3] (.nm 3) (dSeq (dIfS (dAnd (dTst (dInQ gIn (dIx (dS (dVar 3)) (dC (.int 1))) (dS (dVar 1)))) (dTst (dInQ gNotIn (dIx (dS (dVar 3)) (dC (.int 2))) (dS (dVar 1))))) (dAug 2 (fun i j => i + j) (dIx (dS (dVar 3)) (dC (.int 3)))) dSkip)
      (dIfS (dAnd (dTst (dInQ gNotIn (dIx (dS (dVar 3)) (dC (.int 1))) (dS (dVar 1)))) (dTst (dInQ gIn (dIx (dS (dVar 3)) (dC (.int 2))) (dS (dVar 1))))) (dSeq (dIfS (dTst (dB pIsN (dIx (dS (dVar 3)) (dC (.int 4))) (dC .none))) (dRet (dC .none)) dSkip)
      (dAug 2 (fun i j => i - j) (dIx (dS (dVar 3)) (dC (.int 4))))) dSkip)) (as.map N.encArc) ρ = match gapR (N.outo S) (N.into S) as z with
        | some y => some (st y, .nx)
        | none => some (ρ', .rt (.va .none)) := by
    intro as
    induction as with
    | nil => intro z ρ h; exact ⟨ρ, by show some (fgE ρ [3], Fl.nx) = _; rw [h]; rfl⟩
    | cons a as ih =>
      intro z ρ h
      let ρ1 : Int → En := fun z => [.fz N.enc, .fz (encS S), .fz (.int z), .fz (N.encArc a), .un, .un]
      have ht : tgB (.nm 3) (N.encArc a) (fgE ρ [3]) = some (ρ1 z) := by rw [h]; rfl
      have ta : ∀ z, (dTst (dInQ gNotIn (dIx (dS (dVar 3)) (dC (.int 1))) (dS (dVar 1)))) (ρ1 z) = some (!S.contains (N.name a.t)) := fun z => by
        show (gNotIn (.str (N.name a.t)) (S.map .str)).bind asBool = _
        rw [gNotIn_str]; rfl
      have tb : ∀ z, (dTst (dInQ gIn (dIx (dS (dVar 3)) (dC (.int 2))) (dS (dVar 1)))) (ρ1 z) = some (S.contains (N.name a.h)) := fun z => by
        show (gIn (.str (N.name a.h)) (S.map .str)).bind asBool = _
        rw [gIn_str]; rfl
      have tc : ∀ z, (dTst (dInQ gIn (dIx (dS (dVar 3)) (dC (.int 1))) (dS (dVar 1)))) (ρ1 z) = some (S.contains (N.name a.t)) := fun z => by
        show (gIn (.str (N.name a.t)) (S.map .str)).bind asBool = _
        rw [gIn_str]; rfl
      have td : ∀ z, (dTst (dInQ gNotIn (dIx (dS (dVar 3)) (dC (.int 2))) (dS (dVar 1)))) (ρ1 z) = some (!S.contains (N.name a.h)) := fun z => by
        show (gNotIn (.str (N.name a.h)) (S.map .str)).bind asBool = _
        rw [gNotIn_str]; rfl
      have hin : ∀ z, (dAnd (dTst (dInQ gNotIn (dIx (dS (dVar 3)) (dC (.int 1))) (dS (dVar 1)))) (dTst (dInQ gIn (dIx (dS (dVar 3)) (dC (.int 2))) (dS (dVar 1))))) (ρ1 z) = some (N.into S a) := fun z => by
        rw [dAnd_ap, ta, Option.bind_some, tb]; unfold Net.into
        cases S.contains (N.name a.t) <;> rfl
      have hout : ∀ z, (dAnd (dTst (dInQ gIn (dIx (dS (dVar 3)) (dC (.int 1))) (dS (dVar 1)))) (dTst (dInQ gNotIn (dIx (dS (dVar 3)) (dC (.int 2))) (dS (dVar 1))))) (ρ1 z) = some (N.outo S a) := fun z => by
        rw [dAnd_ap, tc, Option.bind_some, td]; unfold Net.outo
        cases S.contains (N.name a.t) <;> rfl
      have b1 : (dIfS (dAnd (dTst (dInQ gIn (dIx (dS (dVar 3)) (dC (.int 1))) (dS (dVar 1)))) (dTst (dInQ gNotIn (dIx (dS (dVar 3)) (dC (.int 2))) (dS (dVar 1))))) (dAug 2 (fun i j => i + j) (dIx (dS (dVar 3)) (dC (.int 3)))) dSkip) (ρ1 z) = some (ρ1 (if N.outo S a = true then z + a.lo else z), .nx) := by
        rw [dIfS_ap, hout, Option.bind_some]
        cases N.outo S a <;> rfl
      generalize hy : (if N.outo S a = true then z + a.lo else z) = y at b1
      have unf : gapR (N.outo S) (N.into S) (a :: as) z = if N.into S a = true then (match a.hi with
          | none => none
          | some u => gapR (N.outo S) (N.into S) as (y - u)) else gapR (N.outo S) (N.into S) as y := by
        rw [← hy]; rfl
      rw [unf, List.map_cons]
      cases ho : N.into S a with
      | false =>
        obtain ⟨ρ', hi⟩ := ih y (ρ1 y) (by simp [ρ1, st])
        refine ⟨ρ', ?_⟩
        rw [forD_next (ρ2 := ρ1 y) (fl := .nx) ht (by rw [seq_nx b1, dIfS_ap, hin, ho]; rfl) (.inl rfl), hi]
        rfl
      | true =>
        cases hh : a.hi with
        | none =>
          refine ⟨ρ1 y, ?_⟩
          rw [forD_ret (ρ2 := ρ1 y) (q := .va .none) ht (by
            rw [seq_nx b1, dIfS_ap, hin, ho, Option.bind_some, if_pos rfl]
            simp [ρ1, Net.encArc, hh])]
          rfl
        | some u =>
          obtain ⟨ρ', hi⟩ := ih (y - u) (ρ1 (y - u)) (by simp [ρ1, st])
          refine ⟨ρ', ?_⟩
          rw [forD_next (ρ2 := ρ1 (y - u)) (fl := .nx) ht (by
            rw [seq_nx b1, dIfS_ap, hin, ho, Option.bind_some, if_pos rfl]
            simp [ρ1, Net.encArc, hh]) (.inl rfl), hi]
          rfl
  obtain ⟨ρ', hl⟩ := loop N.arcs (-N.supS S) (st (-N.supS S)) (by simp [st])
  have q2 : (dS (dIx (dS (dVar 0)) (dC (.int 2)))) (st (-N.supS S)) = some (N.arcs.map N.encArc) := rfl
  cases hg : gapR (N.outo S) (N.into S) N.arcs (-N.supS S) with
  | none =>
    refine runD_rt (ρ' := ρ') rfl rfl ?_
    show bod_gap_under [.fz N.enc, .fz (encS S), .un, .un, .un, .un] = _
    unfold bod_gap_under
    rw [seq_nx s1, seq_rt (by rw [dFor_ap, q2, Option.bind_some, hl, hg])]
    rfl
  | some y =>
    refine runD_rt (ρ' := st y) rfl rfl ?_
    show bod_gap_under [.fz N.enc, .fz (encS S), .un, .un, .un, .un] = _
    unfold bod_gap_under
    rw [seq_nx s1, seq_nx (ρ' := st y) (by rw [dFor_ap, q2, Option.bind_some, hl, hg])]
    rfl
end K04
end
section
set_option linter.all false
set_option maxRecDepth 100000
set_option maxHeartbeats 1000000
namespace K04
open PySem PySem.Spec L2 Dn
variable {N : Net}
def Arc.turn (a : Arc) : Arc := { a with t := a.h, h := a.t }
def Net.turn (N : Net) : Net := ⟨N.nodes.map fun p => (p.1, -p.2), N.arcs.map Arc.turn⟩
theorem turn_names : N.turn.names = N.names := by
  unfold Net.names Net.turn
  rw [List.map_map]; rfl
theorem turn_name (v : Nat) : N.turn.name v = N.name v := by unfold Net.name; rw [turn_names]
theorem Net.WF.turn (W : N.WF) : N.turn.WF := by
  refine ⟨by rw [turn_names]; exact W.nd, fun a ha => ?_, by simpa [Net.turn] using W.few, by simpa [Net.turn] using W.fewA, fun a ha u hu => ?_⟩
  · obtain ⟨b, hb, rfl⟩ := List.mem_map.mp ha
    have := W.ends b hb
    simp [Net.turn]
    exact ⟨this.2, this.1⟩
  · obtain ⟨b, hb, rfl⟩ := List.mem_map.mp ha
    exact W.lohi b hb u hu
theorem v_turned_net (W : N.WF) : den_turned_net [N.enc] = some (.va N.turn.enc) := by
  have l1 : N.enc = .tuple [.str "net", .tuple (N.nodes.map encNode), .tuple (N.arcs.map N.encArc)] := rfl
  have c1 := compD_all (t := .tp [.nm 2, .nm 3]) (te := dTup (dCons (dVar 2) (dCons (dU pNeg (dVar 3)) dNil))) (ρ := [.fz N.enc, .un, .un, .un, .un, .un, .un, .un, .un]) encNode (fun p => PyData.tuple [.str p.1, .int (-p.2)]) N.nodes fun a _ => ⟨_, rfl, rfl⟩
  have e1 : N.nodes.map (fun p => PyData.tuple [.str p.1, .int (-p.2)]) = N.turn.nodes.map encNode := by
    unfold Net.turn
    rw [List.map_map]; rfl
  rw [e1] at c1
  have s1 : (dAsg 1 (dG gTuple (dComp (dS (dIx (dS (dVar 0)) (dC (.int 1)))) (.tp [(.nm 2), (.nm 3)]) [2, 3] dYes (dTup (dCons (dVar 2) (dCons (dU pNeg (dVar 3)) dNil)))))) [.fz N.enc, .un, .un, .un, .un, .un, .un, .un, .un] = some ([.fz N.enc, .fz (.tuple (N.turn.nodes.map encNode)), .un, .un, .un, .un, .un, .un, .un], .nx) := by
    have q : (dS (dIx (dS (dVar 0)) (dC (.int 1)))) [.fz N.enc, .un, .un, .un, .un, .un, .un, .un, .un] = some (N.nodes.map encNode) := rfl
    have w : wipeE [.fz N.enc, .un, .un, .un, .un, .un, .un, .un, .un] [2, 3] = some [.fz N.enc, .un, .un, .un, .un, .un, .un, .un, .un] := by simp
    rw [dAsg_ap, dG_ap, dComp_ap, q, Option.bind_some, W.lim, Option.bind_some, w, Option.bind_some, c1]
    rfl
  have c2 := compD_all (t := .tp [(.nm 2), (.nm 4), (.nm 5), (.nm 6), (.nm 7), (.nm 8)]) (te := dTup (dCons (dVar 2) (dCons (dVar 5) (dCons (dVar 4) (dCons (dVar 6) (dCons (dVar 7) (dCons (dVar 8) dNil))))))) (ρ := [.fz N.enc, .fz (.tuple (N.turn.nodes.map encNode)), .un, .un, .un, .un, .un, .un, .un]) N.encArc (fun a => N.turn.encArc a.turn) N.arcs fun a _ => ⟨[.fz N.enc, .fz (.tuple (N.turn.nodes.map encNode)), .fz (.str a.nm), .un, .fz (.str (N.name a.t)), .fz (.str (N.name a.h)), .fz (.int a.lo), .fz (oI a.hi), .fz (.int a.pr)], by simp [Net.encArc], by simp [Net.encArc, Arc.turn, turn_name, Dn.lim]⟩
  have e2 : N.arcs.map (fun a => N.turn.encArc a.turn) = N.turn.arcs.map N.turn.encArc := by
    show _ = (N.arcs.map Arc.turn).map N.turn.encArc
    rw [List.map_map]; rfl
  rw [e2] at c2
  refine runD_rt (ρ' := [.fz N.enc, .fz (.tuple (N.turn.nodes.map encNode)), .un, .un, .un, .un, .un, .un, .un]) rfl rfl ?_
  show bod_turned_net [.fz N.enc, .un, .un, .un, .un, .un, .un, .un, .un] = _
  unfold bod_turned_net
  rw [seq_nx s1]
  have q : (dS (dIx (dS (dVar 0)) (dC (.int 2)))) [.fz N.enc, .fz (.tuple (N.turn.nodes.map encNode)), .un, .un, .un, .un, .un, .un, .un] = some (N.arcs.map N.encArc) := rfl
  have w : wipeE [.fz N.enc, .fz (.tuple (N.turn.nodes.map encNode)), .un, .un, .un, .un, .un, .un, .un] [2, 4, 5, 6, 7, 8] = some [.fz N.enc, .fz (.tuple (N.turn.nodes.map encNode)), .un, .un, .un, .un, .un, .un, .un] := by simp
  have e : (dG gTuple (dComp (dS (dIx (dS (dVar 0)) (dC (.int 2)))) (.tp [(.nm 2), (.nm 4), (.nm 5), (.nm 6), (.nm 7), (.nm 8)]) [2, 4, 5, 6, 7, 8] dYes (dTup (dCons (dVar 2) (dCons (dVar 5) (dCons (dVar 4) (dCons (dVar 6) (dCons (dVar 7) (dCons (dVar 8) dNil))))))))) [.fz N.enc, .fz (.tuple (N.turn.nodes.map encNode)), .un, .un, .un, .un, .un, .un, .un] = some (.tuple (N.turn.arcs.map N.turn.encArc)) := by
    rw [dG_ap, dComp_ap, q, Option.bind_some, W.limA, Option.bind_some, w, Option.bind_some, c2]
    rfl
  rw [dRet_ap, dTup_ap, dCons_ap, dCons_ap, dCons_ap, e]
  rfl
end K04
end
section
set_option linter.all false
set_option maxRecDepth 100000
set_option maxHeartbeats 1000000
namespace K04
open PySem PySem.Spec L2 Dn
variable {N : Net}
/-! ### the sets -/
def sets : List Str → List (List Str)
  | l => l.foldl (fun rows x => rows ++ rows.map fun r => r ++ [x]) [[]]
def setsFrom (rows : List (List Str)) (l : List Str) : List (List Str) := l.foldl (fun rows x => rows ++ rows.map fun r => r ++ [x]) rows
theorem setsFrom_length : ∀ (l : List Str) (rows : List (List Str)), (setsFrom rows l).length = rows.length * 2 ^ l.length
  | [], rows => by simp [setsFrom]
  | x :: l, rows => by
    have := setsFrom_length l (rows ++ rows.map fun r => r ++ [x])
    show (setsFrom (rows ++ rows.map fun r => r ++ [x]) l).length = _
    rw [this, List.length_append, List.length_map, List.length_cons, Nat.pow_succ]
    rw [← Nat.two_mul, Nat.mul_comm 2, Nat.mul_assoc, Nat.mul_comm 2]
/-- which rows they are -/
theorem setsFrom_mem : ∀ (l : List Str) (rows : List (List Str)) (S : List Str), S ∈ setsFrom rows l ↔ ∃ r ∈ rows, ∃ m, m.Sublist l ∧ S = r ++ m
  | [], rows, S => by
    show S ∈ rows ↔ _
    constructor
    · intro h; exact ⟨S, h, [], List.Sublist.refl _, by simp⟩
    · rintro ⟨r, hr, m, hm, rfl⟩
      rw [List.eq_nil_of_sublist_nil hm]; simpa using hr
  | x :: l, rows, S => by
    have ih := setsFrom_mem l (rows ++ rows.map fun r => r ++ [x]) S
    show S ∈ setsFrom (rows ++ rows.map fun r => r ++ [x]) l ↔ _
    rw [ih]
    constructor
    · rintro ⟨r, hr, m, hm, rfl⟩
      rcases List.mem_append.mp hr with hr | hr
      · exact ⟨r, hr, m, hm.cons x, rfl⟩
      · obtain ⟨q, hq, rfl⟩ := List.mem_map.mp hr
        exact ⟨q, hq, x :: m, hm.cons_cons x, by simp⟩
    · rintro ⟨r, hr, m, hm, rfl⟩
      cases hm with
      | cons _ h => exact ⟨r, List.mem_append_left _ hr, m, h, rfl⟩
      | cons_cons _ h =>
        rename_i m'
        exact ⟨r ++ [x], List.mem_append_right _ (List.mem_map_of_mem hr), m', h, by simp⟩
theorem v_law_sets (W : N.WF) (h6 : N.nodes.length ≤ 6) : den_law_sets [N.enc] = some (.li ((setsFrom [[]] N.names).map encS)) := by
  have l1 : N.enc = .tuple [.str "net", .tuple (N.nodes.map encNode), .tuple (N.arcs.map N.encArc)] := rfl
  let nP := PyData.list (N.names.map .str)
  let st : List (List Str) → En := fun rows => [.fz N.enc, .fz nP, .ol (rows.map encS), .un, .un, .un]
  have hn : N.names.length ≤ 6 := by simpa [Net.names] using h6
  have loop := forD_foldI (vs := [3]) (t := .nm 3) (db := (dAsgO 2 (dCat 2 (dComp (dOwn 2) (.nm 5) [5] dYes (dB pAdd (dVar 5) (dTup (dCons (dVar 3) dNil))))))) PyData.str st (fun rows x => rows ++ rows.map fun r => r ++ [x]) (fun i rows => rows.length = 2 ^ i ∧ ∀ r ∈ rows, r.length ≤ i) N.names [[]] (st [[]]) (by simp [st]) (by simp) (fun i rows x hx hI => by
    obtain ⟨h1, h2⟩ := hI
    have hi := (List.getElem?_eq_some_iff.mp hx).1
    have hp : 2 ^ i ≤ 2 ^ 6 := Nat.pow_le_pow_right (by omega) (by omega)
    have hlim : Dn.lim (rows.map encS) = some (rows.map encS) := lim_ok (by rw [List.length_map, h1]; omega)
    have hlim2 : Dn.lim (rows.map encS ++ (rows.map fun r => encS (r ++ [x]))) = some (rows.map encS ++ (rows.map fun r => encS (r ++ [x]))) := lim_ok (by rw [List.length_append, List.length_map, List.length_map, h1]; omega)
    refine ⟨⟨by rw [List.length_append, List.length_map, h1, Nat.pow_succ]; omega, fun r hr => ?_⟩, [.fz N.enc, .fz nP, .ol (rows.map encS), .fz (.str x), .un, .un], [.fz N.enc, .fz nP, .ol ((rows ++ rows.map fun r => r ++ [x]).map encS), .fz (.str x), .un, .un], .nx, rfl, ?_, .inl rfl, by simp [st]⟩
    · rcases List.mem_append.mp hr with hr | hr
      · have := h2 r hr; omega
      · obtain ⟨q, hq, rfl⟩ := List.mem_map.mp hr
        have := h2 q hq
        rw [List.length_append, List.length_singleton]; omega
    · have c := compD_all (t := .nm 5) (te := dB pAdd (dVar 5) (dTup (dCons (dVar 3) dNil))) (ρ := [.fz N.enc, .fz nP, .ol (rows.map encS), .fz (.str x), .un, .un]) encS (fun r => encS (r ++ [x])) rows fun r hr => ⟨_, rfl, by
        have := h2 r hr
        have hz : r.length + 1 ≤ 16777216 := by omega
        show (if (r.map PyData.str).length + 1 ≤ 16777216 then some (PyData.tuple (r.map PyData.str ++ [.str x])) else none) = _
        rw [if_pos (by rw [List.length_map]; exact hz)]
        simp [encS]⟩
      have w : wipeE [.fz N.enc, .fz nP, .ol (rows.map encS), .fz (.str x), .un, .un] [5] = some [.fz N.enc, .fz nP, .ol (rows.map encS), .fz (.str x), .un, .un] := rfl
      have q : (dOwn 2) [.fz N.enc, .fz nP, .ol (rows.map encS), .fz (.str x), .un, .un] = some (rows.map encS) := rfl
      have q2 : ownL [.fz N.enc, .fz nP, .ol (rows.map encS), .fz (.str x), .un, .un] 2 = some (rows.map encS) := rfl
      rw [dAsgO_ap, dCat_ap, q2, Option.bind_some, dComp_ap, q, Option.bind_some, hlim, Option.bind_some, w, Option.bind_some, c, Option.bind_some, hlim2, List.map_append, List.map_map]
      rfl)
  have s1 : (dAsg 1 (dFz (dComp (dS (dIx (dS (dVar 0)) (dC (.int 1)))) (.tp [(.nm 3), (.nm 4)]) [3, 4] dYes (dVar 3)))) [.fz N.enc, .un, .un, .un, .un, .un] = some ([.fz N.enc, .fz nP, .un, .un, .un, .un], .nx) := by
    have c := compD_all (t := .tp [.nm 3, .nm 4]) (te := dVar 3) (ρ := [.fz N.enc, .un, .un, .un, .un, .un]) encNode (fun p => PyData.str p.1) N.nodes fun a _ => ⟨_, rfl, rfl⟩
    have e : N.nodes.map (fun p => PyData.str p.1) = N.names.map .str := by unfold Net.names; rw [List.map_map]; rfl
    rw [e] at c
    have q : (dS (dIx (dS (dVar 0)) (dC (.int 1)))) [.fz N.enc, .un, .un, .un, .un, .un] = some (N.nodes.map encNode) := rfl
    have w : wipeE [.fz N.enc, .un, .un, .un, .un, .un] [3, 4] = some [.fz N.enc, .un, .un, .un, .un, .un] := rfl
    rw [dAsg_ap, dFz_ap, dComp_ap, q, Option.bind_some, W.lim, Option.bind_some, w, Option.bind_some, c]
    rfl
  have s2 : (dAsgO 2 (dLst (dCons (dTup dNil) dNil))) [.fz N.enc, .fz nP, .un, .un, .un, .un] = some (st [[]], .nx) := rfl
  have q3 : (dS (dVar 1)) (st [[]]) = some (N.names.map .str) := rfl
  refine runD_rt (ρ' := st (setsFrom [[]] N.names)) rfl rfl ?_
  show bod_law_sets [.fz N.enc, .un, .un, .un, .un, .un] = _
  unfold bod_law_sets
  rw [seq_nx s1, seq_nx s2, dSeq_ap, dFor_ap, q3, Option.bind_some, loop.1]
  rfl
end K04
end
section
set_option linter.all false
set_option maxRecDepth 100000
set_option maxHeartbeats 1000000
namespace K04
open PySem PySem.Spec L2 Dn
variable {N : Net}
def sgn (b : Bool) : Int := if b then 1 else -1
def Net.cin (N : Net) (b : Bool) (S : List Str) : Arc → Bool := if b then N.into S else N.outo S
def Net.cout (N : Net) (b : Bool) (S : List Str) : Arc → Bool := if b then N.outo S else N.into S
def Net.gap (N : Net) (b : Bool) (S : List Str) : Option Int := gapR (N.cin b S) (N.cout b S) N.arcs (sgn b * N.supS S)
theorem supS_mul (c : Int) (S : List Str) : ((N.nodes.filter fun q => S.contains q.1).map fun q => c * q.2).sum = c * N.supS S := by
  unfold Net.supS
  induction (N.nodes.filter fun q => S.contains q.1) with
  | nil => simp
  | cons q l ih => simp [ih, Int.mul_add]
theorem v_law_gap (W : N.WF) (S : List Str) (b : Bool) : den_law_gap [N.enc, encS S, .int (sgn b)] = some (.va (oI (N.gap b S))) := by
  have l1 : N.enc = .tuple [.str "net", .tuple (N.nodes.map encNode), .tuple (N.arcs.map N.encArc)] := rfl
  have hsg : smallI (sgn b) := by cases b <;> decide
  let st : Int → En := fun z => [.fz N.enc, .fz (encS S), .fz (.int (sgn b)), .fz (.int z), .un, .un, .un, .un, .un, .un, .un, .un, .un]
  let ρ0 : En := [.fz N.enc, .fz (encS S), .fz (.int (sgn b)), .un, .un, .un, .un, .un, .un, .un, .un, .un, .un]
  have c1 : compD (.tp [(.nm 4), (.nm 12)]) (dTst (dInQ gIn (dVar 4) (dS (dVar 1)))) (dB pMul (dVar 2) (dVar 12)) ρ0 (N.nodes.map encNode) = some (((N.nodes.filter fun q => S.contains q.1).map fun q => sgn b * q.2).map .int) := by
    rw [compD_map encNode (fun q => S.contains q.1) (fun q => PyData.int (sgn b * q.2)) N.nodes fun q _ => ⟨[.fz N.enc, .fz (encS S), .fz (.int (sgn b)), .un, .fz (.str q.1), .un, .un, .un, .un, .un, .un, .un, .fz (.int q.2)], rfl, by
      show (gIn (.str q.1) (S.map .str)).bind asBool = _
      rw [gIn_str]; rfl, fun _ => dB_of rfl rfl (pMul_int (.inl hsg))⟩, List.map_map]
    rfl
  have s1 : (dAsg 3 (dG gSum (dComp (dS (dIx (dS (dVar 0)) (dC (.int 1)))) (.tp [(.nm 4), (.nm 12)]) [4, 12] (dTst (dInQ gIn (dVar 4) (dS (dVar 1)))) (dB pMul (dVar 2) (dVar 12))))) ρ0 = some (st (sgn b * N.supS S), .nx) := by
    have hg := gSum_ints ((N.nodes.filter fun q => S.contains q.1).map fun q => sgn b * q.2)
    have q : (dS (dIx (dS (dVar 0)) (dC (.int 1)))) ρ0 = some (N.nodes.map encNode) := rfl
    have w : wipeE ρ0 [4, 12] = some ρ0 := rfl
    rw [dAsg_ap, dG_ap, dComp_ap, q, Option.bind_some, W.lim, Option.bind_some, w, Option.bind_some, c1, Option.bind_some, hg, supS_mul]
    rfl
  have loop : ∀ (as : List Arc) (z : Int) (ρ : En), fgE ρ [4, 5, 6, 7, 8, 9, 10, 11] = st z → ∃ ρ', forD [4, 5, 6, 7, 8, 9, 10, 11] (.tp [(.nm 4), (.nm 5), (.nm 6), (.nm 7), (.nm 8), (.nm 9)]) (dSeq (dAsg 10 (dAndT (dInQ gIn (dVar 5) (dS (dVar 1))) (dInQ gNotIn (dVar 6) (dS (dVar 1)))))
    (dSeq (dAsg 11 (dAndT (dInQ gIn (dVar 6) (dS (dVar 1))) (dInQ gNotIn (dVar 5) (dS (dVar 1)))))
    (dSeq (dIfS (dTst (dB pEq (dVar 2) (dU pNeg (dC (.int 1))))) (dPar 10 11 (dCons (dVar 11) (dCons (dVar 10) dNil))) dSkip)
    (dSeq (dIfS (dTru (dVar 11)) (dAsg 3 (dB pAdd (dVar 3) (dVar 7))) dSkip)
    (dIfS (dTru (dVar 10)) (dSeq (dIfS (dTst (dB pIsN (dVar 8) (dC .none))) (dRet (dC .none)) dSkip)
    (dAsg 3 (dB pSub (dVar 3) (dVar 8)))) dSkip))))) (as.map N.encArc) ρ = match gapR (N.cin b S) (N.cout b S) as z with
        | some y => some (st y, .nx)
        | none => some (ρ', .rt (.va .none)) := by
    intro as
    induction as with
    | nil => intro z ρ h; exact ⟨ρ, by show some (fgE ρ [4, 5, 6, 7, 8, 9, 10, 11], Fl.nx) = _; rw [h]; rfl⟩
    | cons a as ih =>
      intro z ρ h
      let ρ1 : Int → Sl → Sl → En := fun z x y => [.fz N.enc, .fz (encS S), .fz (.int (sgn b)), .fz (.int z), .fz (.str a.nm), .fz (.str (N.name a.t)), .fz (.str (N.name a.h)), .fz (.int a.lo), .fz (oI a.hi), .fz (.int a.pr), x, y, .un]
      have ht : tgB (.tp [(.nm 4), (.nm 5), (.nm 6), (.nm 7), (.nm 8), (.nm 9)]) (N.encArc a) (fgE ρ [4, 5, 6, 7, 8, 9, 10, 11]) = some (ρ1 z .un .un) := by rw [h]; rfl
      have b1 : (dAsg 10 (dAndT (dInQ gIn (dVar 5) (dS (dVar 1))) (dInQ gNotIn (dVar 6) (dS (dVar 1))))) (ρ1 z .un .un) = some (ρ1 z (.fz (.bool (N.outo S a))) .un, .nx) := by
        have e1 : (dInQ gIn (dVar 5) (dS (dVar 1))) (ρ1 z .un .un) = some (.bool (S.contains (N.name a.t))) := gIn_str S _
        have e2 : (dInQ gNotIn (dVar 6) (dS (dVar 1))) (ρ1 z .un .un) = some (.bool (!S.contains (N.name a.h))) := gNotIn_str S _
        rw [dAsg_ap, dAndT_ap, e1, Option.bind_some, e2]; unfold Net.outo
        cases S.contains (N.name a.t) <;> rfl
      have b2 : (dAsg 11 (dAndT (dInQ gIn (dVar 6) (dS (dVar 1))) (dInQ gNotIn (dVar 5) (dS (dVar 1))))) (ρ1 z (.fz (.bool (N.outo S a))) .un) = some (ρ1 z (.fz (.bool (N.outo S a))) (.fz (.bool (N.into S a))), .nx) := by
        have e1 : (dInQ gIn (dVar 6) (dS (dVar 1))) (ρ1 z (.fz (.bool (N.outo S a))) .un) = some (.bool (S.contains (N.name a.h))) := gIn_str S _
        have e2 : (dInQ gNotIn (dVar 5) (dS (dVar 1))) (ρ1 z (.fz (.bool (N.outo S a))) .un) = some (.bool (!S.contains (N.name a.t))) := gNotIn_str S _
        rw [dAsg_ap, dAndT_ap, e1, Option.bind_some, e2]; unfold Net.into
        cases S.contains (N.name a.h) <;> cases S.contains (N.name a.t) <;> rfl
      have b3 : (dIfS (dTst (dB pEq (dVar 2) (dU pNeg (dC (.int 1))))) (dPar 10 11 (dCons (dVar 11) (dCons (dVar 10) dNil))) dSkip) (ρ1 z (.fz (.bool (N.outo S a))) (.fz (.bool (N.into S a)))) = some (ρ1 z (.fz (.bool (N.cout b S a))) (.fz (.bool (N.cin b S a))), .nx) := by
        have e : (dB pEq (dVar 2) (dU pNeg (dC (.int 1)))) (ρ1 z (.fz (.bool (N.outo S a))) (.fz (.bool (N.into S a)))) = some (.bool (sgn b == -1)) := dB_of (x := .int (sgn b)) (y := .int (-1)) rfl rfl (pEq_int _ _)
        rw [dIfS_ap, dTst_ap, e]
        cases b <;> rfl
      have b4 : (dIfS (dTru (dVar 11)) (dAsg 3 (dB pAdd (dVar 3) (dVar 7))) dSkip) (ρ1 z (.fz (.bool (N.cout b S a))) (.fz (.bool (N.cin b S a)))) = some (ρ1 (if N.cin b S a = true then z + a.lo else z) (.fz (.bool (N.cout b S a))) (.fz (.bool (N.cin b S a))), .nx) := by
        cases N.cin b S a <;> rfl
      generalize hy : (if N.cin b S a = true then z + a.lo else z) = y at b4
      have unf : gapR (N.cin b S) (N.cout b S) (a :: as) z = if N.cout b S a = true then (match a.hi with
          | none => none
          | some u => gapR (N.cin b S) (N.cout b S) as (y - u)) else gapR (N.cin b S) (N.cout b S) as y := by
        rw [← hy]; rfl
      rw [unf, List.map_cons]
      generalize N.cin b S a = ci at b3 b4
      cases ho : N.cout b S a with
      | false =>
        rw [ho] at b3 b4
        obtain ⟨ρ', hi⟩ := ih y (ρ1 y (.fz (.bool false)) (.fz (.bool ci))) (by simp [ρ1, st])
        refine ⟨ρ', ?_⟩
        rw [forD_next (ρ2 := ρ1 y (.fz (.bool false)) (.fz (.bool ci))) (fl := .nx) ht (by rw [seq_nx b1, seq_nx b2, seq_nx b3, seq_nx b4]; rfl) (.inl rfl), hi]
        rfl
      | true =>
        rw [ho] at b3 b4
        cases hh : a.hi with
        | none =>
          refine ⟨ρ1 y (.fz (.bool true)) (.fz (.bool ci)), ?_⟩
          rw [forD_ret (ρ2 := ρ1 y (.fz (.bool true)) (.fz (.bool ci))) (q := .va .none) ht (by
            rw [seq_nx b1, seq_nx b2, seq_nx b3, seq_nx b4]
            simp [ρ1, hh])]
          rfl
        | some u =>
          obtain ⟨ρ', hi⟩ := ih (y - u) (ρ1 (y - u) (.fz (.bool true)) (.fz (.bool ci))) (by simp [ρ1, st])
          refine ⟨ρ', ?_⟩
          rw [forD_next (ρ2 := ρ1 (y - u) (.fz (.bool true)) (.fz (.bool ci))) (fl := .nx) ht (by
            rw [seq_nx b1, seq_nx b2, seq_nx b3, seq_nx b4]
            simp [ρ1, hh]) (.inl rfl), hi]
          rfl
  obtain ⟨ρ', hl⟩ := loop N.arcs (sgn b * N.supS S) (st (sgn b * N.supS S)) (by simp [st])
  have q2 : (dS (dIx (dS (dVar 0)) (dC (.int 2)))) (st (sgn b * N.supS S)) = some (N.arcs.map N.encArc) := rfl
  unfold Net.gap
  cases hg : gapR (N.cin b S) (N.cout b S) N.arcs (sgn b * N.supS S) with
  | none =>
    refine runD_rt (ρ' := ρ') rfl rfl ?_
    show bod_law_gap ρ0 = _
    unfold bod_law_gap
    rw [seq_nx s1, seq_rt (by rw [dFor_ap, q2, Option.bind_some, hl, hg])]
    rfl
  | some y =>
    refine runD_rt (ρ' := st y) rfl rfl ?_
    show bod_law_gap ρ0 = _
    unfold bod_law_gap
    rw [seq_nx s1, seq_nx (ρ' := st y) (by rw [dFor_ap, q2, Option.bind_some, hl, hg])]
    rfl
end K04
end
section
set_option linter.all false
set_option maxRecDepth 100000
set_option maxHeartbeats 1000000
namespace K04
open PySem PySem.Spec L2 Dn
variable {N : Net}
theorem gap_true (S : List Str) : N.gap true S = gapR (N.into S) (N.outo S) N.arcs (N.supS S) := by simp [Net.gap, Net.cin, Net.cout, sgn]
theorem gap_false (S : List Str) : N.gap false S = gapR (N.outo S) (N.into S) N.arcs (-N.supS S) := by simp [Net.gap, Net.cin, Net.cout, sgn]
theorem pEq_oI (g : Option Int) (i : Int) : pEq (oI g) (.int i) = some (.bool (g == some i)) := by
  cases g with
  | none =>
    have h : SeqAt.shaped (.int i) = true := by simp [SeqAt.shaped, PyData.canLay0, PyData.depth]
    have h2 : SeqAt.shaped .none = true := by simp [SeqAt.shaped, PyData.canLay0, PyData.depth]
    unfold pEq shp oI
    rw [h, h2]; simp [PyData.eqv]
  | some j => rw [oI_some, pEq_int]; simp
def word (b : Bool) : Str := if b then "over" else "under"
theorem v_judge (W : N.WF) (S : List Str) (hS : ∀ x ∈ S, x ∈ N.names) (hl : S.length ≤ 1000) (b : Bool) (i : Int) (w0 : Str) : den_judge_never [N.enc, .tuple [.str w0, .int i, .str (word b), encS S]] = some (.va (.bool (decide (1 ≤ i) && (N.gap b S == some i)))) := by
  let ρ1 : En := [.fz N.enc, .fz (.tuple [.str w0, .int i, .str (word b), encS S]), .fz (.str w0), .fz (.int i), .fz (.str (word b)), .fz (encS S), .un, .un]
  have s1 : (dTgt (.tp [(.nm 2), (.nm 3), (.nm 4), (.nm 5)]) (dVar 1)) [.fz N.enc, .fz (.tuple [.str w0, .int i, .str (word b), encS S]), .un, .un, .un, .un, .un, .un] = some (ρ1, .nx) := rfl
  have t1 : (dTst (dInQ gNotIn (dVar 4) (dS (dTup (dCons (dC (.str "over")) (dCons (dC (.str "under")) dNil)))))) ρ1 = some false := by
    show (gNotIn (.str (word b)) ((["over", "under"] : List Str).map PyData.str)).bind asBool = _
    rw [gNotIn_str]
    cases b <;> decide +kernel
  have t2 : (dTst (dB pLt (dVar 3) (dC (.int 1)))) ρ1 = some (decide (i < 1)) := rfl
  have t3 : (dNot (dTru (dG gAll (dComp (dS (dVar 5)) (.nm 7) [7] dYes (dInQ gIn (dVar 7) (dCallL den_node_names (dCons (dVar 0) dNil))))))) ρ1 = some false := by
    have c := compD_all (t := .nm 7) (te := dInQ gIn (dVar 7) (dCallL den_node_names (dCons (dVar 0) dNil))) (ρ := ρ1) PyData.str (fun _ => PyData.bool true) S fun x hx => ⟨[.fz N.enc, .fz (.tuple [.str w0, .int i, .str (word b), encS S]), .fz (.str w0), .fz (.int i), .fz (.str (word b)), .fz (encS S), .un, .fz (.str x)], rfl, by
      have e : (dCallL den_node_names (dCons (dVar 0) dNil)) [.fz N.enc, .fz (.tuple [.str w0, .int i, .str (word b), encS S]), .fz (.str w0), .fz (.int i), .fz (.str (word b)), .fz (encS S), .un, .fz (.str x)] = some (N.names.map .str) := by simp [v_node_names W]
      rw [dInQ_ap, e]
      show gIn (.str x) (N.names.map .str) = _
      rw [gIn_str, List.contains_iff_mem.mpr (hS x hx)]⟩
    have h4 : S.map (fun _ => PyData.bool true) = (S.map fun _ => true).map .bool := by rw [List.map_map]; rfl
    rw [h4] at c
    have hlim : Dn.lim (S.map PyData.str) = some (S.map PyData.str) := lim_ok (by simp; omega)
    have q : (dS (dVar 5)) ρ1 = some (S.map .str) := rfl
    have w : wipeE ρ1 [7] = some ρ1 := rfl
    rw [dNot_ap, dTru_ap, dG_ap, dComp_ap, q, Option.bind_some, hlim, Option.bind_some, w, Option.bind_some, c, Option.bind_some, gAll_bools]
    simp
  have go : ∃ ρ', bod_judge_never [.fz N.enc, .fz (.tuple [.str w0, .int i, .str (word b), encS S]), .un, .un, .un, .un, .un, .un] = some (ρ', .rt (.va (.bool (decide (1 ≤ i) && (N.gap b S == some i))))) := by
    unfold bod_judge_never
    rw [seq_nx s1]
    by_cases hi : i < 1
    · refine ⟨ρ1, seq_rt ?_⟩
      rw [dIfS_ap, dOr_ap, t1, Option.bind_some, if_neg (by simp), dOr_ap, t2, Option.bind_some, if_pos (by simpa using hi), Option.bind_some, if_pos rfl]
      have : decide (1 ≤ i) = false := by simp; omega
      rw [this]; rfl
    · have hi' : decide (1 ≤ i) = true := by simp; omega
      refine ⟨[.fz N.enc, .fz (.tuple [.str w0, .int i, .str (word b), encS S]), .fz (.str w0), .fz (.int i), .fz (.str (word b)), .fz (encS S), .fz (oI (N.gap b S)), .un], ?_⟩
      have s2 : (dIfS (dOr (dTst (dInQ gNotIn (dVar 4) (dS (dTup (dCons (dC (.str "over")) (dCons (dC (.str "under")) dNil)))))) (dOr (dTst (dB pLt (dVar 3) (dC (.int 1)))) (dNot (dTru (dG gAll (dComp (dS (dVar 5)) (.nm 7) [7] dYes (dInQ gIn (dVar 7) (dCallL den_node_names (dCons (dVar 0) dNil))))))))) (dRet (dC (.bool false))) dSkip) ρ1 = some (ρ1, .nx) := by
        rw [dIfS_ap, dOr_ap, t1, Option.bind_some, if_neg (by simp), dOr_ap, t2, Option.bind_some, if_neg (by simpa using hi), t3]
        rfl
      have e : (dIf (dTst (dB pEq (dVar 4) (dC (.str "over")))) (dCall den_gap_over (dCons (dVar 0) (dCons (dVar 5) dNil))) (dCall den_gap_under (dCons (dVar 0) (dCons (dVar 5) dNil)))) ρ1 = some (oI (N.gap b S)) := by
        have e1 : (dB pEq (dVar 4) (dC (.str "over"))) ρ1 = some (.bool b) := by
          rw [dB_of (x := .str (word b)) (y := .str "over") rfl rfl (pEq_str (by cases b <;> decide +kernel) (by decide +kernel))]
          have e2 : (word b == ("over" : Str)) = b := by cases b <;> decide +kernel
          rw [e2]
        rw [dIf_ap, dTst_ap, e1]
        cases b with
        | true =>
          rw [gap_true]
          have := v_gap_over W S
          simp [ρ1, this]
        | false =>
          rw [gap_false]
          have := v_gap_under W S
          simp [ρ1, this]
      rw [seq_nx s2, seq_nx (ρ' := [.fz N.enc, .fz (.tuple [.str w0, .int i, .str (word b), encS S]), .fz (.str w0), .fz (.int i), .fz (.str (word b)), .fz (encS S), .fz (oI (N.gap b S)), .un]) (by rw [dAsg_ap, e]; rfl)]
      rw [dRet_ap, dB_of (x := oI (N.gap b S)) (y := .int i) rfl rfl (pEq_oI _ _), hi']
      rfl
  obtain ⟨ρ', h⟩ := go
  exact runD_rt (ρ' := ρ') rfl rfl h
end K04
end
section
set_option linter.all false
set_option maxRecDepth 100000
set_option maxHeartbeats 1000000
namespace K04
open PySem PySem.Spec L2 Dn
variable {N : Net}
/-! ### cuts: what must stay -/
def net1 (cin cout : Arc → Bool) (l : List (Arc × Int)) : Int := (l.map fun p => ((if cin p.1 = true then p.2 else 0) - if cout p.1 = true then p.2 else 0)).sum
theorem gapR_le {cin cout : Arc → Bool} : ∀ (as : List Arc) (f : List Int) (z g : Int), f.length = as.length → (∀ k a, as[k]? = some a → a.lo ≤ f.getD k 0 ∧ ∀ u, a.hi = some u → f.getD k 0 ≤ u) →
    gapR cin cout as z = some g → g ≤ z + net1 cin cout (as.zip f)
  | [], f, z, g, hl, hb, h => by
    have : z = g := Option.some.inj h
    subst this
    simp [net1]
  | a :: as, [], z, g, hl, hb, h => by simp at hl
  | a :: as, x :: f, z, g, hl, hb, h => by
    have b0 := hb 0 a rfl
    have ih := fun z1 => gapR_le (cin := cin) (cout := cout) as f z1 g (by simpa using hl) (fun k b hk => by simpa using hb (k + 1) b (by simpa using hk))
    have hx : (x :: f).getD 0 0 = x := rfl
    rw [hx] at b0
    have e : net1 cin cout ((a :: as).zip (x :: f)) = ((if cin a = true then x else 0) - if cout a = true then x else 0) + net1 cin cout (as.zip f) := by simp [net1]
    rw [e]
    unfold gapR at h
    split at h
    · rename_i ho
      cases hh : a.hi with
      | none => rw [hh] at h; cases h
      | some u =>
        rw [hh] at h
        have := ih _ h
        have hu := b0.2 u hh
        rw [if_pos ho]
        by_cases hc : cin a = true
        · rw [if_pos hc] at this ⊢; omega
        · rw [if_neg hc] at this ⊢; omega
    · rename_i ho
      have := ih _ h
      rw [if_neg ho]
      by_cases hc : cin a = true
      · rw [if_pos hc] at this ⊢; omega
      · rw [if_neg hc] at this ⊢; omega
end K04
end
section
set_option linter.all false
set_option maxRecDepth 100000
set_option maxHeartbeats 1000000
namespace K04
open PySem PySem.Spec L2 Dn
variable {N : Net}
/-- equality in a cut: arcs in at their least, arcs out at their most -/
theorem gapR_eq {cin cout : Arc → Bool} (hd : ∀ a, ¬ (cin a = true ∧ cout a = true)) : ∀ (as : List Arc) (f : List Int) (z g : Int), f.length = as.length → (∀ k a, as[k]? = some a → a.lo ≤ f.getD k 0 ∧ ∀ u, a.hi = some u → f.getD k 0 ≤ u) →
    gapR cin cout as z = some g → z + net1 cin cout (as.zip f) ≤ g → ∀ k a, as[k]? = some a → (cin a = true → f.getD k 0 = a.lo) ∧ (cout a = true → a.hi = some (f.getD k 0))
  | [], f, z, g, hl, hb, h, hle => fun k a hk => by simp at hk
  | a :: as, [], z, g, hl, hb, h, hle => by simp at hl
  | a :: as, x :: f, z, g, hl, hb, h, hle => by
    have b0 := hb 0 a rfl
    have hbt : ∀ k b, as[k]? = some b → b.lo ≤ f.getD k 0 ∧ ∀ u, b.hi = some u → f.getD k 0 ≤ u := fun k b hk => by simpa using hb (k + 1) b (by simpa using hk)
    have hlt : f.length = as.length := by simpa using hl
    have ihle := fun z1 => gapR_le (cin := cin) (cout := cout) as f z1 g hlt hbt
    have ih := fun z1 => gapR_eq (cin := cin) (cout := cout) hd as f z1 g hlt hbt
    have hx : (x :: f).getD 0 0 = x := rfl
    rw [hx] at b0
    have e : net1 cin cout ((a :: as).zip (x :: f)) = ((if cin a = true then x else 0) - if cout a = true then x else 0) + net1 cin cout (as.zip f) := by simp [net1]
    rw [e] at hle
    have hda := hd a
    have fin : ∀ z1, gapR cin cout as z1 = some g → z1 + net1 cin cout (as.zip f) ≤ g → ((cin a = true → x = a.lo) ∧ (cout a = true → a.hi = some x)) → ∀ k b, (a :: as)[k]? = some b → (cin b = true → (x :: f).getD k 0 = b.lo) ∧ (cout b = true → b.hi = some ((x :: f).getD k 0)) := fun z1 h1 h2 h3 k b hk => by
      cases k with
      | zero =>
        have : a = b := by simpa using hk
        subst this
        exact h3
      | succ k => exact ih z1 h1 h2 k b (by simpa using hk)
    unfold gapR at h
    split at h
    · rename_i ho
      have hc : ¬ cin a = true := fun q => hda ⟨q, ho⟩
      rw [if_pos ho, if_neg hc] at hle
      cases hh : a.hi with
      | none => rw [hh] at h; cases h
      | some u =>
        rw [hh] at h
        have h' : gapR cin cout as ((if cin a = true then z + a.lo else z) - u) = some g := h
        rw [if_neg hc] at h'
        have q1 := ihle _ h'
        have hu := b0.2 u hh
        have ex : x = u := by omega
        exact fin _ h' (by omega) ⟨fun q => absurd q hc, fun _ => by rw [hh, ex]⟩
    · rename_i ho
      rw [if_neg ho] at hle
      by_cases hc : cin a = true
      · rw [if_pos hc] at hle h
        have q1 := ihle _ h
        exact fin _ h (by omega) ⟨fun _ => by omega, fun q => absurd q ho⟩
      · rw [if_neg hc] at hle h
        exact fin _ h (by omega) ⟨fun q => absurd q hc, fun q => absurd q ho⟩
end K04
end
section
set_option linter.all false
set_option maxRecDepth 100000
set_option maxHeartbeats 1000000
namespace K04
open PySem PySem.Spec L2 Dn
variable {N : Net}
theorem gapR_tight {cin cout : Arc → Bool} (hd : ∀ a, ¬ (cin a = true ∧ cout a = true)) : ∀ (as : List Arc) (f : List Int) (z : Int), f.length = as.length → (∀ k a, as[k]? = some a → (cin a = true → f.getD k 0 = a.lo) ∧ (cout a = true → a.hi = some (f.getD k 0))) →
    gapR cin cout as z = some (z + net1 cin cout (as.zip f))
  | [], f, z, hl, h => by simp [gapR, net1]
  | a :: as, [], z, hl, h => by simp at hl
  | a :: as, x :: f, z, hl, h => by
    have h0 := h 0 a rfl
    have hx : (x :: f).getD 0 0 = x := rfl
    rw [hx] at h0
    have ih := fun z1 => gapR_tight (cin := cin) (cout := cout) hd as f z1 (by simpa using hl) fun k b hk => by simpa using h (k + 1) b (by simpa using hk)
    have e : net1 cin cout ((a :: as).zip (x :: f)) = ((if cin a = true then x else 0) - if cout a = true then x else 0) + net1 cin cout (as.zip f) := by simp [net1]
    rw [e]
    have hda := hd a
    unfold gapR
    by_cases ho : cout a = true
    · have hc : ¬ cin a = true := fun q => hda ⟨q, ho⟩
      rw [if_pos ho, h0.2 ho]
      show gapR cin cout as ((if cin a = true then z + a.lo else z) - x) = _
      rw [if_neg hc, if_neg hc, if_pos ho, ih]
      congr 1
      omega
    · rw [if_neg ho, if_neg ho]
      by_cases hc : cin a = true
      · rw [if_pos hc, if_pos hc, ih, ← h0.1 hc]
        congr 1
        omega
      · rw [if_neg hc, if_neg hc, ih]
        congr 1
        omega
theorem in_out (S : List Str) (a : Arc) : ¬ (N.into S a = true ∧ N.outo S a = true) := by
  unfold Net.into Net.outo
  cases S.contains (N.name a.t) <;> cases S.contains (N.name a.h) <;> simp
end K04
end
section
set_option linter.all false
set_option maxRecDepth 100000
set_option maxHeartbeats 1000000
namespace K04
open PySem PySem.Spec L2 Dn
variable {N : Net}
/-- a sum over marked places -/
def sumV (w : Nat → Bool) (g : Nat → Int) : Nat → Int
  | 0 => 0
  | n + 1 => sumV w g n + if w n = true then g n else 0
theorem sumV_add {w : Nat → Bool} {g h : Nat → Int} : ∀ n, sumV w (fun v => g v + h v) n = sumV w g n + sumV w h n
  | 0 => rfl
  | n + 1 => by
    simp only [sumV]
    rw [sumV_add n]
    split <;> omega
theorem sumV_congr {w : Nat → Bool} {g h : Nat → Int} : ∀ n, (∀ v, v < n → w v = true → g v = h v) → sumV w g n = sumV w h n
  | 0, _ => rfl
  | n + 1, e => by
    simp only [sumV]
    rw [sumV_congr n fun v hv => e v (by omega)]
    split
    · rename_i hw; rw [e n (by omega) hw]
    · rfl
theorem sumV_one {w : Nat → Bool} {t : Nat} {x : Int} : ∀ n, sumV w (fun v => one (v = t) * x) n = if t < n ∧ w t = true then x else 0
  | 0 => by simp [sumV]
  | n + 1 => by
    simp only [sumV]
    rw [sumV_one n]
    unfold one
    by_cases e : n = t
    · subst e
      by_cases hw : w n = true <;> simp [hw]
    · have : (t < n + 1) = (t < n) := by simp; omega
      by_cases hw : w n = true <;> simp [hw, e, this]
theorem sumV_flux {w : Nat → Bool} {n : Nat} : ∀ (l : List (Arc × Int)), (∀ p ∈ l, p.1.t < n ∧ p.1.h < n) → sumV w (fun v => flux v l) n = (l.map fun p => ((if w p.1.h = true then p.2 else 0) - if w p.1.t = true then p.2 else 0)).sum
  | [], _ => by
    have : ∀ n, sumV w (fun v => flux v []) n = 0 := fun n => by
      induction n with
      | zero => rfl
      | succ n ih => simp only [sumV]; rw [ih]; simp [flux]
    simpa using this n
  | p :: l, h => by
    obtain ⟨h1, h2⟩ := h p List.mem_cons_self
    have ih := sumV_flux (w := w) l fun q hq => h q (List.mem_cons_of_mem _ hq)
    have e : sumV w (fun v => flux v (p :: l)) n = sumV w (fun v => (one (v = p.1.h) * p.2 + one (v = p.1.t) * (-p.2)) + flux v l) n := sumV_congr n fun v _ _ => by
      have : flux v (p :: l) = cf v p.1 * p.2 + flux v l := by simp [flux]
      rw [this]
      unfold cf
      rw [Int.sub_mul, Int.mul_neg]
      omega
    rw [e, sumV_add, sumV_add, sumV_one, sumV_one, ih]
    simp only [List.map_cons, List.sum_cons]
    by_cases a : w p.1.h = true <;> by_cases b : w p.1.t = true <;> simp [a, b, h1, h2] <;> omega
end K04
end
section
set_option linter.all false
set_option maxRecDepth 100000
set_option maxHeartbeats 1000000
namespace K04
open PySem PySem.Spec L2 Dn
variable {N : Net}
/-- the marked places of a set of names -/
def Net.mks (N : Net) (S : List Str) (v : Nat) : Bool := S.contains (N.name v)
theorem supS_sum (W : N.WF) (S : List Str) : N.supS S = sumV (N.mks S) N.sup N.nodes.length := by
  have key : ∀ (l : List (Str × Int)) (pre : List (Str × Int)), N.nodes = pre ++ l → sumV (N.mks S) N.sup N.nodes.length = sumV (N.mks S) N.sup pre.length + ((l.filter fun q => S.contains q.1).map (·.2)).sum := by
    intro l
    induction l with
    | nil => intro pre h; rw [h]; simp
    | cons p l ih =>
      intro pre h
      have := ih (pre ++ [p]) (by rw [h]; simp)
      rw [this, List.length_append, List.length_singleton]
      have e1 : N.name pre.length = p.1 := by
        unfold Net.name Net.names
        rw [List.getD_eq_getElem?_getD, List.getElem?_map, h]; simp
      have e2 : N.sup pre.length = p.2 := by
        unfold Net.sup Net.sups
        rw [List.getD_eq_getElem?_getD, List.getElem?_map, h]; simp
      show sumV (N.mks S) N.sup pre.length + (if N.mks S pre.length = true then N.sup pre.length else 0) + _ = _
      unfold Net.mks
      rw [e1, e2]
      by_cases hc : S.contains p.1 = true
      · rw [if_pos hc, List.filter_cons_of_pos (by simpa using hc)]; simp; omega
      · rw [if_neg hc, List.filter_cons_of_neg (by simpa using hc)]; omega
  have := key N.nodes [] rfl
  rw [this]
  simp [sumV, Net.supS]
/-- what stays in a set -/
def Net.stay (N : Net) (f : List Int) (S : List Str) : Int := sumV (N.mks S) (fun v => (N.rest f).getD v 0) N.nodes.length
theorem stay_eq (W : N.WF) (f : List Int) (S : List Str) : N.stay f S = N.supS S + net1 (N.into S) (N.outo S) (N.arcs.zip f) := by
  unfold Net.stay
  rw [sumV_congr (h := fun v => N.sup v + flux v (N.arcs.zip f)) _ fun v _ _ => rest_get W f v, sumV_add, ← supS_sum W, sumV_flux _ fun p hp => W.ends p.1 (List.of_mem_zip hp).1]
  congr 1
  unfold net1
  congr 1
  apply List.map_congr_left
  intro p _
  unfold Net.mks Net.into Net.outo
  cases S.contains (N.name p.1.t) <;> cases S.contains (N.name p.1.h) <;> simp
theorem gap_le_stay (W : N.WF) {f : List Int} (I : Inb N f) {S : List Str} {g : Int} (h : N.gap true S = some g) : g ≤ N.stay f S := by
  rw [gap_true] at h
  rw [stay_eq W]
  exact gapR_le N.arcs f _ g I.len I.bd h
end K04
end
section
set_option linter.all false
set_option maxRecDepth 100000
set_option maxHeartbeats 1000000
namespace K04
open PySem PySem.Spec L2 Dn
variable {N : Net}
theorem zipIdx_snoc {α : Type} (l : List α) (x : α) : (l ++ [x]).zipIdx = l.zipIdx ++ [(x, l.length)] := by
  rw [List.zipIdx_append]; simp
theorem sumAt_pick (p : Int → Nat → Bool) (r : List Int) : sumAt (pick p r) r = sumV (fun v => p (r.getD v 0) v) (fun v => r.getD v 0) r.length := by
  have key : ∀ (l pre : List Int), r = pre ++ l → sumV (fun v => p (r.getD v 0) v) (fun v => r.getD v 0) r.length = sumV (fun v => p (r.getD v 0) v) (fun v => r.getD v 0) pre.length + (((l.zipIdx pre.length).filter fun q => p q.1 q.2).map fun q => r.getD q.2 0).sum := by
    intro l
    induction l with
    | nil => intro pre h; rw [h]; simp
    | cons x l ih =>
      intro pre h
      have hx : r.getD pre.length 0 = x := by rw [List.getD_eq_getElem?_getD, h]; simp
      have := ih (pre ++ [x]) (by rw [h]; simp)
      rw [this, List.length_append, List.length_singleton, List.zipIdx_cons]
      show (sumV _ _ pre.length + if p (r.getD pre.length 0) pre.length = true then r.getD pre.length 0 else 0) + _ = _
      rw [hx]
      by_cases hc : p x pre.length = true
      · rw [if_pos hc, List.filter_cons_of_pos (by simpa using hc), List.map_cons, List.sum_cons]
        simp only [hx]
        omega
      · rw [if_neg hc, List.filter_cons_of_neg (by simpa using hc)]
        omega
  have := key r [] rfl
  rw [this]
  unfold sumAt pick
  rw [List.map_map]
  simp [sumV]
  rfl
theorem sel_mem {p : Nat → Bool} {l : List Str} {x : Str} : x ∈ sel p l ↔ ∃ v, l[v]? = some x ∧ p v = true := by
  unfold sel
  constructor
  · intro h
    obtain ⟨q, hq, e⟩ := List.mem_map.mp h
    obtain ⟨h1, h2⟩ := List.mem_filter.mp hq
    obtain ⟨i, hi, e2⟩ := List.getElem_of_mem h1
    obtain ⟨h3, h4⟩ := zipIdx_at (by rw [List.getElem?_eq_getElem hi, e2] : l.zipIdx[i]? = some q)
    exact ⟨i, by rw [h4, e], by rw [← h3]; exact h2⟩
  · rintro ⟨v, hv, hp⟩
    refine List.mem_map.mpr ⟨(x, v), List.mem_filter.mpr ⟨?_, hp⟩, rfl⟩
    refine List.mem_of_getElem? (i := v) ?_
    rw [List.getElem?_zipIdx, hv]; simp
theorem sel_has (W : N.WF) {p : Nat → Bool} {v : Nat} (hv : v < N.nodes.length) : N.mks (sel p N.names) v = p v := by
  unfold Net.mks
  rw [Bool.eq_iff_iff, List.contains_iff_mem, sel_mem]
  constructor
  · rintro ⟨u, hu, hp⟩
    have h1 := W.at hv
    have hu1 := (List.getElem?_eq_some_iff.mp hu)
    have hv1 := (List.getElem?_eq_some_iff.mp h1)
    have : u = v := (List.getElem_inj (xs := N.names) (h₀ := hu1.1) (h₁ := hv1.1) W.nd).mp (by rw [hu1.2, hv1.2])
    rw [← this]; exact hp
  · intro hp
    exact ⟨v, W.at hv, hp⟩
end K04
end
section
set_option linter.all false
set_option maxRecDepth 100000
set_option maxHeartbeats 1000000
namespace K04
open PySem PySem.Spec L2 Dn
variable {N : Net}
theorem sumV_le {w : Nat → Bool} {g : Nat → Int} : ∀ n, sumV w g n ≤ sumV (fun v => decide (0 < g v)) g n
  | 0 => Int.le_refl _
  | n + 1 => by
    have ih := sumV_le (w := w) (g := g) n
    simp only [sumV]
    by_cases h : 0 < g n
    · by_cases hw : w n = true <;> simp [h, hw] <;> omega
    · by_cases hw : w n = true <;> simp [h, hw] <;> omega
/-- equality: the positive are in, the negative are out -/
theorem sumV_eq {w : Nat → Bool} {g : Nat → Int} : ∀ n, sumV (fun v => decide (0 < g v)) g n ≤ sumV w g n → ∀ v, v < n → (0 < g v → w v = true) ∧ (w v = true → 0 ≤ g v)
  | 0, _ => fun v hv => by omega
  | n + 1, h => by
    have l := sumV_le (w := w) (g := g) n
    simp only [sumV] at h
    have key : sumV (fun v => decide (0 < g v)) g n ≤ sumV w g n ∧ (0 < g n → w n = true) ∧ (w n = true → 0 ≤ g n) := by
      by_cases hp : 0 < g n
      · by_cases hw : w n = true
        · simp [hp, hw] at h; exact ⟨by omega, fun _ => hw, fun _ => by omega⟩
        · simp [hp, hw] at h; exfalso; omega
      · by_cases hw : w n = true
        · simp [hp, hw] at h; exact ⟨by omega, fun q => absurd q hp, fun _ => by omega⟩
        · simp [hp, hw] at h; exact ⟨by omega, fun q => absurd q hp, fun q => absurd q hw⟩
    intro v hv
    by_cases e : v = n
    · subst e; exact key.2
    · exact sumV_eq n key.1 v (by omega)
theorem sumV_eq' {w : Nat → Bool} {g : Nat → Int} : ∀ n, (∀ v, v < n → (0 < g v → w v = true) ∧ (w v = true → 0 ≤ g v)) → sumV w g n = sumV (fun v => decide (0 < g v)) g n
  | 0, _ => rfl
  | n + 1, h => by
    have ih := sumV_eq' n fun v hv => h v (by omega)
    obtain ⟨h1, h2⟩ := h n (by omega)
    simp only [sumV]
    rw [ih]
    by_cases hp : 0 < g n
    · simp [hp, h1 hp]
    · by_cases hw : w n = true
      · have := h2 hw
        simp [hp, hw]; omega
      · simp [hp, hw]
def osum (N : Net) (f : List Int) : Int := sumAt (overs (N.rest f)) (N.rest f)
theorem osum_eq (f : List Int) : osum N f = sumV (fun v => decide (0 < (N.rest f).getD v 0)) (fun v => (N.rest f).getD v 0) N.nodes.length := by
  unfold osum overs
  rw [sumAt_pick, rest_length]
/-- no set must keep more than what is over -/
theorem gap_le (W : N.WF) {f : List Int} (I : Inb N f) {S : List Str} {g : Int} (h : N.gap true S = some g) : g ≤ osum N f := by
  have h1 := gap_le_stay W I h
  have h2 := sumV_le (w := N.mks S) (g := fun v => (N.rest f).getD v 0) N.nodes.length
  rw [osum_eq]
  unfold Net.stay at h1
  omega
end K04
end
section
set_option linter.all false
set_option maxRecDepth 100000
set_option maxHeartbeats 1000000
namespace K04
open PySem PySem.Spec L2 Dn
variable {N : Net}
theorem zip_get {f : List Int} {k : Nat} {a : Arc} {x : Int} (ha : N.arcs[k]? = some a) (hx : f[k]? = some x) : ((a, x), k) ∈ (N.arcs.zip f).zipIdx := by
  refine List.mem_of_getElem? (i := k) ?_
  have e : (N.arcs.zip f)[k]? = some (a, x) := List.getElem?_zip_eq_some.mpr ⟨ha, hx⟩
  rw [List.getElem?_zipIdx, e]; simp
theorem step_fwd {f : List Int} {k : Nat} {a : Arc} {x : Int} (ha : N.arcs[k]? = some a) (hx : f[k]? = some x) (h : ∀ u, a.hi = some u → x < u) : ∃ t ∈ N.steps f, t.i = a.t ∧ t.j = a.h := by
  cases hh : a.hi with
  | none => exact ⟨⟨a.t, a.h, k, 1, none, a.pr⟩, List.mem_flatMap.mpr ⟨_, zip_get ha hx, List.mem_append_left _ (by simp [fwd, hh])⟩, rfl, rfl⟩
  | some u => exact ⟨⟨a.t, a.h, k, 1, some (u - x), a.pr⟩, List.mem_flatMap.mpr ⟨_, zip_get ha hx, List.mem_append_left _ (by have := h u hh; simp [fwd, hh]; omega)⟩, rfl, rfl⟩
theorem step_bwd {f : List Int} {k : Nat} {a : Arc} {x : Int} (ha : N.arcs[k]? = some a) (hx : f[k]? = some x) (h : a.lo < x) : ∃ t ∈ N.steps f, t.i = a.h ∧ t.j = a.t :=
  ⟨⟨a.h, a.t, k, -1, some (x - a.lo), -a.pr⟩, List.mem_flatMap.mpr ⟨_, zip_get ha hx, List.mem_append_right _ (by simp [bwd, h])⟩, rfl, rfl⟩
noncomputable def rset (N : Net) (f : List Int) : List Str := sel (reachB N f) N.names
theorem rset_has (W : N.WF) {f : List Int} {v : Nat} (hv : v < N.nodes.length) : N.mks (rset N f) v = true ↔ Rch (N.steps f) (overs (N.rest f)) v := by
  unfold rset
  rw [sel_has W hv]; unfold reachB; simp
theorem getF {f : List Int} (I : Inb N f) {k : Nat} {a : Arc} (ha : N.arcs[k]? = some a) : f[k]? = some (f.getD k 0) := by
  have hk := (List.getElem?_eq_some_iff.mp ha).1
  rw [List.getD_eq_getElem?_getD, List.getElem?_eq_getElem (by rw [I.len]; exact hk)]; rfl
theorem rset_gap (W : N.WF) {f : List Int} (I : Inb N f) (F : Full N f) : N.gap true (rset N f) = some (osum N f) := by
  have tight : ∀ k a, N.arcs[k]? = some a → (N.into (rset N f) a = true → f.getD k 0 = a.lo) ∧ (N.outo (rset N f) a = true → a.hi = some (f.getD k 0)) := fun k a ha => by
    obtain ⟨ht, hh⟩ := W.ends a (List.mem_of_getElem? ha)
    have hx := getF I ha
    obtain ⟨b1, b2⟩ := I.bd k a ha
    have e1 : (rset N f).contains (N.name a.t) = N.mks (rset N f) a.t := rfl
    have e2 : (rset N f).contains (N.name a.h) = N.mks (rset N f) a.h := rfl
    refine ⟨fun h => ?_, fun h => ?_⟩
    · unfold Net.into at h
      rw [e1, e2, Bool.and_eq_true, Bool.not_eq_true'] at h
      apply Decidable.byContradiction
      intro q
      obtain ⟨t, hm, hi, hj⟩ := step_bwd ha hx (by omega)
      have r1 := (rset_has W hh).mp h.2
      rw [← hi] at r1
      have r2 := Rch.step hm r1
      rw [hj] at r2
      rw [(rset_has W ht).mpr r2] at h
      cases h.1
    · unfold Net.outo at h
      rw [e1, e2, Bool.and_eq_true, Bool.not_eq_true'] at h
      apply Decidable.byContradiction
      intro q
      obtain ⟨t, hm, hi, hj⟩ := step_fwd ha hx (fun u hu => by
        have := b2 u hu
        have : f.getD k 0 ≠ u := fun e => q (by rw [hu, e])
        omega)
      have r1 := (rset_has W ht).mp h.1
      rw [← hi] at r1
      have r2 := Rch.step hm r1
      rw [hj] at r2
      rw [(rset_has W hh).mpr r2] at h
      cases h.2
  rw [gap_true, gapR_tight (in_out _) N.arcs f _ I.len tight, ← stay_eq W, osum_eq]
  congr 1
  refine sumV_eq' _ fun v hv => ⟨fun h => (rset_has W hv).mpr (.base (mem_pick.mpr ⟨by rw [rest_length]; exact hv, by simpa using h⟩)), fun h => ?_⟩
  have := F v hv
  apply Decidable.byContradiction
  intro q
  exact this (by omega) ((rset_has W hv).mp h)
/-- a set of that gap holds all that is reached -/
theorem rset_least (W : N.WF) {f : List Int} (I : Inb N f) {S : List Str} (h : N.gap true S = some (osum N f)) : ∀ v, v < N.nodes.length → Rch (N.steps f) (overs (N.rest f)) v → N.mks S v = true := by
  have h1 := gap_le_stay W I h
  have h2 := sumV_le (w := N.mks S) (g := fun v => (N.rest f).getD v 0) N.nodes.length
  have h3 := sumV_eq (w := N.mks S) (g := fun v => (N.rest f).getD v 0) N.nodes.length (by rw [← osum_eq]; exact h1)
  have hst : N.stay f S ≤ osum N f := by rw [osum_eq]; exact h2
  rw [gap_true] at h
  have tight := gapR_eq (in_out S) N.arcs f _ _ I.len I.bd h (by rw [← stay_eq W]; exact hst)
  intro v hv hR
  induction hR with
  | base hb =>
    have := mem_pick.mp hb
    exact (h3 _ hv).1 (by simpa using this.2)
  | @step s hm _ ih =>
    have hend := steps_ends W hm
    have hi := ih hend.1
    obtain ⟨a, x, hz, hs⟩ := steps_mem hm
    obtain ⟨ha, hx⟩ := zip_at hz
    have ex : f.getD s.k 0 = x := getD_of hx
    obtain ⟨t1, t2⟩ := tight s.k a ha
    apply Decidable.byContradiction
    intro q
    rcases hs with ⟨e1, e2, _, _, _, e6⟩ | ⟨e1, e2, _, _, _, e6⟩
    · have : N.outo S a = true := by
        unfold Net.outo
        rw [e1] at hi; rw [e2] at q
        have q1 : S.contains (N.name a.t) = true := hi
        have q2 : ¬ S.contains (N.name a.h) = true := q
        rw [q1, Bool.true_and, Bool.not_eq_true']
        exact Bool.eq_false_iff.mpr q2
      have := e6 _ (t2 this)
      rw [ex] at this; omega
    · have : N.into S a = true := by
        unfold Net.into
        rw [e1] at hi; rw [e2] at q
        have q1 : S.contains (N.name a.h) = true := hi
        have q2 : ¬ S.contains (N.name a.t) = true := q
        rw [q1, Bool.and_true, Bool.not_eq_true']
        exact Bool.eq_false_iff.mpr q2
      have := t1 this
      rw [ex] at this; omega
end K04
end
section
set_option linter.all false
set_option maxRecDepth 100000
set_option maxHeartbeats 1000000
namespace K04
open PySem PySem.Spec L2 Dn
variable {N : Net}
/-! ### the net turned round -/
theorem turn_len : N.turn.nodes.length = N.nodes.length := by simp [Net.turn]
theorem turn_sup (v : Nat) : N.turn.sup v = -N.sup v := by
  unfold Net.sup Net.sups Net.turn
  simp only [List.getD_eq_getElem?_getD, List.map_map, List.getElem?_map]
  cases N.nodes[v]? <;> simp
theorem turn_cf (v : Nat) (a : Arc) : cf v a.turn = -cf v a := by
  unfold cf Arc.turn
  simp only
  omega
theorem turn_flux (v : Nat) : ∀ (as : List Arc) (f : List Int), flux v ((as.map Arc.turn).zip f) = -flux v (as.zip f)
  | [], f => by simp [flux]
  | a :: as, [] => by simp [flux]
  | a :: as, x :: f => by
    have ih := turn_flux v as f
    have e1 : flux v (((a :: as).map Arc.turn).zip (x :: f)) = cf v a.turn * x + flux v ((as.map Arc.turn).zip f) := by simp [flux]
    have e2 : flux v ((a :: as).zip (x :: f)) = cf v a * x + flux v (as.zip f) := by simp [flux]
    rw [e1, e2, ih, turn_cf, Int.neg_mul]
    omega
theorem turn_rest (W : N.WF) (f : List Int) : N.turn.rest f = (N.rest f).map fun x => -x := by
  refine ext_getD (by rw [List.length_map, rest_length, rest_length, turn_len]) fun v => ?_
  rw [rest_get W.turn, turn_sup]
  have e : ((N.rest f).map fun x => -x).getD v 0 = -(N.rest f).getD v 0 := by
    simp only [List.getD_eq_getElem?_getD, List.getElem?_map]
    cases (N.rest f)[v]? <;> simp
  rw [e, rest_get W]
  show -N.sup v + flux v ((N.arcs.map Arc.turn).zip f) = _
  rw [turn_flux]
  omega
theorem overs_neg (r : List Int) : overs (r.map fun x => -x) = unders r := by
  unfold overs unders pick
  rw [List.zipIdx_map, List.filter_map, List.map_map]
  have e : ((fun q : Int × Nat => decide (0 < q.1)) ∘ Prod.map (fun x : Int => -x) id) = fun q : Int × Nat => decide (q.1 < 0) := by
    funext q
    simp only [Function.comp, Prod.map]
    congr 1
    apply propext
    constructor <;> intro h <;> omega
  rw [e]
  rfl
theorem unders_neg (r : List Int) : unders (r.map fun x => -x) = overs r := by
  have h := overs_neg (r.map fun x => -x)
  rw [List.map_map] at h
  have e : ((fun x : Int => -x) ∘ fun x : Int => -x) = id := by funext x; simp
  rw [e, List.map_id] at h
  exact h.symm
theorem getD_neg (r : List Int) (v : Nat) : (r.map fun x => -x).getD v 0 = -r.getD v 0 := by
  simp only [List.getD_eq_getElem?_getD, List.getElem?_map]
  cases r[v]? <;> simp
theorem sumAt_neg : ∀ (l : List Nat) (r : List Int), sumAt l (r.map fun x => -x) = -sumAt l r
  | [], r => rfl
  | v :: l, r => by
    have ih := sumAt_neg l r
    have e1 : ∀ q : List Int, sumAt (v :: l) q = q.getD v 0 + sumAt l q := fun q => by simp [sumAt]
    rw [e1, e1, ih, getD_neg]
    omega
theorem turn_fwd (k : Nat) (a : Arc) (x : Int) : fwd k a.turn x = (fwd k a x).map Step.rev := by
  unfold fwd Arc.turn
  simp only
  cases a.hi with
  | none => rfl
  | some u =>
    show (if 0 < u - x then _ else _) = List.map Step.rev (if 0 < u - x then _ else _)
    split <;> rfl
theorem turn_bwd (k : Nat) (a : Arc) (x : Int) : bwd k a.turn x = (bwd k a x).map Step.rev := by
  unfold bwd Arc.turn
  simp only
  split <;> rfl
theorem turn_steps (f : List Int) : N.turn.steps f = (N.steps f).map Step.rev := by
  unfold Net.steps
  have e : (N.turn.arcs.zip f).zipIdx = (N.arcs.zip f).zipIdx.map fun p => ((p.1.1.turn, p.1.2), p.2) := by
    show ((N.arcs.map Arc.turn).zip f).zipIdx = _
    rw [← List.map_id f, List.zip_map, List.map_id, List.zipIdx_map]
    rfl
  rw [e, List.flatMap_map, List.map_flatMap]
  congr 1
  funext p
  unfold stepsAt
  simp only
  rw [turn_fwd, turn_bwd, List.map_append]
theorem turn_back (W : N.WF) (f : List Int) : backB N f = reachB N.turn f := by
  funext v
  unfold backB reachB
  rw [turn_steps, turn_rest W, overs_neg]
theorem turn_gapR {ci co : Arc → Bool} {di do' : Arc → Bool} (h1 : ∀ a, ci a.turn = di a) (h2 : ∀ a, co a.turn = do' a) : ∀ (as : List Arc) (z : Int), gapR ci co (as.map Arc.turn) z = gapR di do' as z
  | [], z => rfl
  | a :: as, z => by
    have ih := turn_gapR h1 h2 as
    rw [List.map_cons]
    unfold gapR
    rw [h1, h2]
    have e1 : a.turn.hi = a.hi := rfl
    have e2 : a.turn.lo = a.lo := rfl
    rw [e1, e2]
    simp only [ih]
theorem turn_supS (S : List Str) : N.turn.supS S = -N.supS S := by
  unfold Net.supS Net.turn
  simp only
  induction N.nodes with
  | nil => rfl
  | cons p l ih =>
    rw [List.map_cons]
    by_cases h : S.contains p.1 = true
    · rw [List.filter_cons_of_pos (by simpa using h), List.filter_cons_of_pos (by simpa using h)]
      simp only [List.map_cons, List.sum_cons]
      rw [ih]; omega
    · rw [List.filter_cons_of_neg (by simpa using h), List.filter_cons_of_neg (by simpa using h)]
      exact ih
theorem turn_gap (S : List Str) : N.gap false S = N.turn.gap true S := by
  rw [gap_false, gap_true, turn_supS]
  show _ = gapR _ _ (N.arcs.map Arc.turn) _
  rw [turn_gapR (di := N.outo S) (do' := N.into S)]
  · intro a
    unfold Net.into Net.outo
    rw [turn_name, turn_name]
    show (!S.contains (N.name a.h) && S.contains (N.name a.t)) = _
    exact Bool.and_comm _ _
  · intro a
    unfold Net.into Net.outo
    rw [turn_name, turn_name]
    show (S.contains (N.name a.h) && !S.contains (N.name a.t)) = _
    exact Bool.and_comm _ _
theorem Inb.turn {f : List Int} (I : Inb N f) : Inb N.turn f := by
  refine ⟨by rw [I.len]; simp [Net.turn], fun k a ha => ?_⟩
  have h : (N.arcs.map Arc.turn)[k]? = some a := ha
  rw [List.getElem?_map] at h
  obtain ⟨b, hb, rfl⟩ := Option.map_eq_some_iff.mp h
  exact I.bd k b hb
theorem rch_meet {ss : List Step} {O U : List Nat} {v : Nat} (h : Rch (ss.map Step.rev) U v) : Rch ss O v → ∃ u ∈ U, Rch ss O u := by
  induction h with
  | base hb => exact fun r => ⟨_, hb, r⟩
  | @step s hs _ ih =>
    intro r
    obtain ⟨t, ht, rfl⟩ := List.mem_map.mp hs
    exact ih (Rch.step ht r)
theorem Full.turn (W : N.WF) {f : List Int} (F : Full N f) : Full N.turn f := by
  intro v hv hlt hR
  rw [turn_len] at hv
  rw [turn_rest W, getD_neg] at hlt
  rw [turn_rest W, overs_neg, turn_steps] at hR
  have : Rch (N.steps f) (overs (N.rest f)) v := .base (mem_pick.mpr ⟨by rw [rest_length]; exact hv, decide_eq_true (by omega)⟩)
  obtain ⟨u, hu, r⟩ := rch_meet hR this
  have hu' := mem_pick.mp hu
  rw [rest_length] at hu'
  exact F u hu'.1 (by simpa using hu'.2) r
theorem osum_turn (W : N.WF) (f : List Int) : osum N.turn f = -sumAt (unders (N.rest f)) (N.rest f) := by
  unfold osum
  rw [turn_rest W, overs_neg, sumAt_neg]
theorem lackP_eq (W : N.WF) (f : List Int) : lackP N f = if overs (N.rest f) ≠ [] then .tuple [.str "never", .int (osum N f), .str "over", encS (rset N f)]
  else if unders (N.rest f) ≠ [] then .tuple [.str "never", .int (osum N.turn f), .str "under", encS (rset N.turn f)] else .none := by
  unfold lackP
  rw [osum_turn W, turn_back W]
  unfold rset osum encS
  rw [turn_names]
end K04
end
section
set_option linter.all false
set_option maxRecDepth 100000
set_option maxHeartbeats 1000000
namespace K04
open PySem PySem.Spec L2 Dn
variable {N : Net}
/-! ### going through all sets -/
abbrev Bst := Option (Int × List Str)
def bstep (gap : List Str → Option Int) (best : Bst) (S : List Str) : Bst := match gap S with
  | none => best
  | some g => if 0 < g then (match best with
      | none => some (g, S)
      | some (g0, S0) => if g0 < g then some (g, S) else if g = g0 ∧ S.length < S0.length then some (g, S) else some (g0, S0)) else best
def scan (gap : List Str → Option Int) (rows : List (List Str)) (best : Bst) : Bst := rows.foldl (bstep gap) best
theorem scan_none {gap : List Str → Option Int} : ∀ (rows : List (List Str)), (∀ S ∈ rows, ∀ g, gap S = some g → g ≤ 0) → scan gap rows none = none
  | [], _ => rfl
  | S :: rows, h => by
    have e : bstep gap none S = none := by
      unfold bstep
      cases hg : gap S with
      | none => rfl
      | some g =>
        have := h S List.mem_cons_self g hg
        simp only
        rw [if_neg (by omega)]
    show scan gap rows (bstep gap none S) = none
    rw [e]
    exact scan_none rows fun T hT => h T (List.mem_cons_of_mem _ hT)
/-- what holds on the way -/
def BI (gap : List Str → Option Int) (rows : List (List Str)) (M : Int) (best : Bst) : Prop := ∀ g S, best = some (g, S) → S ∈ rows ∧ gap S = some g ∧ 0 < g ∧ g ≤ M
def Bdone (M : Int) (n : Nat) (best : Bst) : Prop := ∃ S, best = some (M, S) ∧ S.length ≤ n
theorem bstep_keep {gap : List Str → Option Int} {rows : List (List Str)} {M : Int} {best : Bst} {S : List Str} (hS : S ∈ rows) (hM : ∀ g, gap S = some g → g ≤ M) (I : BI gap rows M best) : BI gap rows M (bstep gap best S) := by
  unfold bstep
  cases hg : gap S with
  | none => exact I
  | some g =>
    have gM := hM g hg
    simp only
    by_cases h0 : 0 < g
    · rw [if_pos h0]
      have me : BI gap rows M (some (g, S)) := fun g' S' e => by
        cases e; exact ⟨hS, hg, h0, gM⟩
      cases best with
      | none => exact me
      | some b =>
        obtain ⟨g0, S0⟩ := b
        simp only
        split
        · exact me
        · split
          · exact me
          · exact I
    · rw [if_neg h0]; exact I
theorem bstep_done {gap : List Str → Option Int} {M : Int} {n : Nat} {best : Bst} {S : List Str} (hM : ∀ g, gap S = some g → g ≤ M) (D : Bdone M n best) : Bdone M n (bstep gap best S) := by
  obtain ⟨S0, rfl, hl⟩ := D
  unfold bstep
  cases hg : gap S with
  | none => exact ⟨S0, rfl, hl⟩
  | some g =>
    have gM := hM g hg
    simp only
    by_cases h0 : 0 < g
    · rw [if_pos h0, if_neg (by omega)]
      by_cases h1 : g = M ∧ S.length < S0.length
      · rw [if_pos h1, h1.1]; exact ⟨S, rfl, by omega⟩
      · rw [if_neg h1]; exact ⟨S0, rfl, hl⟩
    · rw [if_neg h0]; exact ⟨S0, rfl, hl⟩
theorem bstep_hit {gap : List Str → Option Int} {rows : List (List Str)} {M : Int} {best : Bst} {S : List Str} (h : gap S = some M) (h0 : 0 < M) (I : BI gap rows M best) : Bdone M S.length (bstep gap best S) := by
  unfold bstep
  rw [h]
  simp only
  rw [if_pos h0]
  cases best with
  | none => exact ⟨S, rfl, Nat.le_refl _⟩
  | some b =>
    obtain ⟨g0, S0⟩ := b
    have := I g0 S0 rfl
    simp only
    by_cases h1 : g0 < M
    · rw [if_pos h1]; exact ⟨S, rfl, Nat.le_refl _⟩
    · rw [if_neg h1]
      by_cases h2 : M = g0 ∧ S.length < S0.length
      · rw [if_pos h2]; exact ⟨S, rfl, Nat.le_refl _⟩
      · rw [if_neg h2]
        have e : g0 = M := by omega
        subst e
        exact ⟨S0, rfl, by simp at h2; omega⟩
theorem scan_keep {gap : List Str → Option Int} {all : List (List Str)} {M : Int} : ∀ (rows : List (List Str)) (best : Bst), (∀ S ∈ rows, S ∈ all) → (∀ S ∈ all, ∀ g, gap S = some g → g ≤ M) → BI gap all M best → BI gap all M (scan gap rows best)
  | [], _, _, _, I => I
  | S :: rows, best, h, hM, I => scan_keep rows _ (fun T hT => h T (List.mem_cons_of_mem _ hT)) hM (bstep_keep (h S List.mem_cons_self) (hM S (h S List.mem_cons_self)) I)
theorem scan_done {gap : List Str → Option Int} {all : List (List Str)} {M : Int} {n : Nat} : ∀ (rows : List (List Str)) (best : Bst), (∀ S ∈ rows, S ∈ all) → (∀ S ∈ all, ∀ g, gap S = some g → g ≤ M) → Bdone M n best → Bdone M n (scan gap rows best)
  | [], _, _, _, D => D
  | S :: rows, best, h, hM, D => scan_done rows _ (fun T hT => h T (List.mem_cons_of_mem _ hT)) hM (bstep_done (hM S (h S List.mem_cons_self)) D)
theorem scan_hit {gap : List Str → Option Int} {all : List (List Str)} {M : Int} {R : List Str} (h0 : 0 < M) (hR : gap R = some M) (hM : ∀ S ∈ all, ∀ g, gap S = some g → g ≤ M) : ∀ (rows : List (List Str)) (best : Bst), (∀ S ∈ rows, S ∈ all) → R ∈ rows → BI gap all M best → Bdone M R.length (scan gap rows best)
  | [], _, _, hm, _ => by cases hm
  | S :: rows, best, h, hm, I => by
    rcases List.mem_cons.mp hm with rfl | hm
    · exact scan_done rows _ (fun T hT => h T (List.mem_cons_of_mem _ hT)) hM (bstep_hit hR h0 I)
    · exact scan_hit h0 hR hM rows _ (fun T hT => h T (List.mem_cons_of_mem _ hT)) hm (bstep_keep (h S List.mem_cons_self) (hM S (h S List.mem_cons_self)) I)
theorem scan_unique {gap : List Str → Option Int} {rows : List (List Str)} {M : Int} {R : List Str} (h0 : 0 < M) (hR : gap R = some M) (hm : R ∈ rows) (hM : ∀ S ∈ rows, ∀ g, gap S = some g → g ≤ M) (hu : ∀ S ∈ rows, gap S = some M → S.length ≤ R.length → S = R) : scan gap rows none = some (M, R) := by
  have I0 : BI gap rows M none := fun g S e => by cases e
  obtain ⟨S, hS, hl⟩ := scan_hit h0 hR hM rows none (fun _ h => h) hm I0
  have I := scan_keep rows none (fun _ h => h) hM I0 M S hS
  rw [hS, hu S I.1 I.2.1 hl]
/-! sublists of one list without doubles -/
theorem subl_filter {α : Type} [BEq α] [LawfulBEq α] : ∀ {l S : List α}, l.Nodup → S.Sublist l → S = l.filter fun x => S.contains x
  | [], S, _, h => by cases h; rfl
  | x :: l, S, nd, h => by
    obtain ⟨hx, nd'⟩ := List.nodup_cons.mp nd
    cases h with
    | cons _ h =>
      have : x ∉ S := fun q => hx (h.subset q)
      rw [List.filter_cons_of_neg (by simpa using this)]
      exact subl_filter nd' h
    | cons_cons _ h =>
      rename_i S'
      rw [List.filter_cons_of_pos (by simp)]
      congr 1
      have e := subl_filter nd' h
      conv => lhs; rw [e]
      apply List.filter_congr
      intro y hy
      have : y ≠ x := fun q => hx (q ▸ hy)
      simp [this]
theorem filt_len {α : Type} {p q : α → Bool} : ∀ (l : List α), (∀ x ∈ l, p x = true → q x = true) → (l.filter p).length ≤ (l.filter q).length ∧ ((l.filter q).length ≤ (l.filter p).length → l.filter p = l.filter q)
  | [], _ => by simp
  | x :: l, h => by
    obtain ⟨i1, i2⟩ := filt_len l fun y hy => h y (List.mem_cons_of_mem _ hy)
    have hx := h x List.mem_cons_self
    cases hp : p x with
    | true =>
      rw [List.filter_cons_of_pos hp, List.filter_cons_of_pos (hx hp)]
      simp only [List.length_cons]
      exact ⟨by omega, fun q => by rw [i2 (by omega)]⟩
    | false =>
      rw [List.filter_cons_of_neg (by simp [hp])]
      cases hq : q x with
      | true =>
        rw [List.filter_cons_of_pos hq]
        simp only [List.length_cons]
        exact ⟨by omega, fun z => by omega⟩
      | false =>
        rw [List.filter_cons_of_neg (by simp [hq])]
        exact ⟨i1, i2⟩
theorem subl_same {α : Type} [BEq α] [LawfulBEq α] {l A B : List α} (nd : l.Nodup) (hA : A.Sublist l) (hB : B.Sublist l) (hs : ∀ x ∈ A, x ∈ B) (hl : B.length ≤ A.length) : B = A := by
  have eA := subl_filter nd hA
  have eB := subl_filter nd hB
  have k := filt_len (p := fun x => A.contains x) (q := fun x => B.contains x) l fun x _ h => by
    simp only [List.contains_iff_mem] at h ⊢
    exact hs x h
  rw [← eA, ← eB] at k
  exact (k.2 hl).symm
theorem sel_sub {p : Nat → Bool} {l : List Str} : (sel p l).Sublist l := by
  unfold sel
  have h : ((l.zipIdx.filter fun q => p q.2).map (·.1)).Sublist (l.zipIdx.map (·.1)) := List.Sublist.map _ List.filter_sublist
  have e : l.zipIdx.map (·.1) = l := List.zipIdx_map_fst 0 l
  rw [e] at h
  exact h
theorem row_mem {l S : List Str} : S ∈ setsFrom [[]] l ↔ S.Sublist l := by
  rw [setsFrom_mem]
  constructor
  · rintro ⟨r, hr, m, hm, rfl⟩
    have : r = [] := by simpa using hr
    subst this
    simpa using hm
  · intro h
    exact ⟨[], by simp, S, h, by simp⟩
/-- the greatest gap and its smallest set -/
theorem scan_over (W : N.WF) {f : List Int} (I : Inb N f) (F : Full N f) (h0 : 0 < osum N f) : scan (N.gap true) (setsFrom [[]] N.names) none = some (osum N f, rset N f) := by
  refine scan_unique h0 (rset_gap W I F) (row_mem.mpr sel_sub) (fun S _ g hg => gap_le W I hg) fun S hS hg hl => ?_
  refine subl_same W.nd sel_sub (row_mem.mp hS) (fun x hx => ?_) hl
  obtain ⟨v, hv, hp⟩ := sel_mem.mp hx
  have hlt : v < N.nodes.length := by
    have := (List.getElem?_eq_some_iff.mp hv).1
    simpa [Net.names] using this
  have hR : Rch (N.steps f) (overs (N.rest f)) v := by unfold reachB at hp; simpa using hp
  have := rset_least W I hg v hlt hR
  unfold Net.mks at this
  rw [List.contains_iff_mem] at this
  have e := W.at hlt
  rw [hv] at e
  rw [Option.some.inj e]
  exact this
theorem scan_even (W : N.WF) {f : List Int} (I : Inb N f) (h0 : osum N f = 0) : scan (N.gap true) (setsFrom [[]] N.names) none = none :=
  scan_none _ fun S _ g hg => by have := gap_le W I hg; omega
theorem sumAt_pos : ∀ {l : List Nat} {r : List Int}, l ≠ [] → (∀ v ∈ l, 0 < r.getD v 0) → 0 < sumAt l r
  | [], _, h, _ => absurd rfl h
  | [v], r, _, h => by have := h v (by simp); simp only [sumAt, List.map_cons, List.map_nil, List.sum_cons, List.sum_nil]; omega
  | v :: u :: l, r, _, h => by
    have h1 := h v (by simp)
    have h2 := sumAt_pos (l := u :: l) (r := r) (by simp) fun x hx => h x (by simp at hx ⊢; exact .inr hx)
    have : sumAt (v :: u :: l) r = r.getD v 0 + sumAt (u :: l) r := by simp [sumAt]
    omega
theorem osum_pos {f : List Int} (h : overs (N.rest f) ≠ []) : 0 < osum N f := sumAt_pos h fun v hv => by
  have := (mem_pick.mp hv).2
  simpa using this
theorem osum_zero {f : List Int} (h : overs (N.rest f) = []) : osum N f = 0 := by unfold osum; rw [h]; rfl
/-- the paper told by the sets, in one word -/
def neverP (N : Net) : PV := match scan (N.gap true) (setsFrom [[]] N.names) none with
  | some (g, S) => .tuple [.str "never", .int g, .str "over", encS S]
  | none => match scan (N.gap false) (setsFrom [[]] N.names) none with
    | some (g, S) => .tuple [.str "never", .int g, .str "under", encS S]
    | none => .none
theorem gapf_eq : N.gap false = N.turn.gap true := by funext S; exact turn_gap S
theorem never_lack (W : N.WF) {f : List Int} (I : Inb N f) (F : Full N f) : neverP N = lackP N f := by
  rw [lackP_eq W]
  unfold neverP
  by_cases h1 : overs (N.rest f) = []
  · rw [scan_even W I (osum_zero h1), if_neg (by simpa using h1)]
    simp only
    rw [gapf_eq, ← turn_names (N := N)]
    have e : overs (N.turn.rest f) = unders (N.rest f) := by rw [turn_rest W, overs_neg]
    by_cases h2 : unders (N.rest f) = []
    · rw [scan_even W.turn I.turn (osum_zero (by rw [e, h2])), if_neg (by simpa using h2)]
    · rw [scan_over W.turn I.turn (F.turn W) (osum_pos (by rw [e]; exact h2)), if_pos h2]
  · rw [scan_over W I F (osum_pos h1), if_pos h1]
end K04
end
section
set_option linter.all false
set_option maxRecDepth 100000
set_option maxHeartbeats 1000000
namespace K04
open PySem PySem.Spec L2 Dn
variable {N : Net}
def encBest : Bst → PV
  | none => .none
  | some (g, S) => .tuple [.int g, encS S]
def Srt (N : Net) : Prop := N.names.Pairwise fun a b => leS a b = true
theorem sort_sub {l S : List Str} (h : l.Pairwise fun a b => leS a b = true) (hs : S.Sublist l) : gSortS (S.map .str) = some (S.map .str) := by
  unfold gSortS
  rw [strsP_map]
  show some ((sortS S).map PyData.str) = _
  have : sortS S = S := List.mergeSort_of_pairwise (h.sublist hs)
  rw [this]
theorem pGt_int (a b : Int) : pGt (.int a) (.int b) = some (.bool (decide (b < a))) := rfl
theorem pLt_int (a b : Int) : pLt (.int a) (.int b) = some (.bool (decide (a < b))) := rfl
theorem v_law_never (W : N.WF) (hs : Srt N) (h6 : N.nodes.length ≤ 6) : den_law_never [N.enc] = some (.va (neverP N)) := by
  let st : Bool → Bst → En := fun b best => [.fz N.enc, .fz (.int (sgn b)), .fz (encBest best), .un, .un]
  have inner : ∀ (b : Bool) (best : Bst) (ρ : En), fgE ρ [3, 4] = st b best → forD [3, 4] (.nm 3) (dSeq (dAsg 4 (dCall den_law_gap (dCons (dVar 0) (dCons (dVar 3) (dCons (dVar 1) dNil)))))
    (dIfS (dAnd (dTst (dB pNotN (dVar 4) (dC .none))) (dAnd (dTst (dB pGt (dVar 4) (dC (.int 0)))) (dOr (dTst (dB pIsN (dVar 2) (dC .none))) (dOr (dTst (dB pGt (dVar 4) (dIx (dS (dVar 2)) (dC (.int 0))))) (dAnd (dTst (dB pEq (dVar 4) (dIx (dS (dVar 2)) (dC (.int 0))))) (dTst (dB pLt (dG gLen (dS (dVar 3))) (dG gLen (dS (dIx (dS (dVar 2)) (dC (.int 1)))))))))))) (dAsg 2 (dTup (dCons (dVar 4) (dCons (dVar 3) dNil)))) dSkip)) ((setsFrom [[]] N.names).map encS) ρ = some (st b (scan (N.gap b) (setsFrom [[]] N.names) best), .nx) := fun b best ρ h => by
    refine (forD_fold (vs := [3, 4]) (t := .nm 3) encS (st b) (bstep (N.gap b)) (fun _ => True) (setsFrom [[]] N.names) best ρ h trivial (fun best S hS _ => ?_)).1
    have hg := v_law_gap W S b
    refine ⟨trivial, [.fz N.enc, .fz (.int (sgn b)), .fz (encBest best), .fz (encS S), .un], [.fz N.enc, .fz (.int (sgn b)), .fz (encBest (bstep (N.gap b) best S)), .fz (encS S), .fz (oI (N.gap b S))], .nx, rfl, ?_, .inl rfl, by simp [st]⟩
    rw [seq_nx (ρ' := [.fz N.enc, .fz (.int (sgn b)), .fz (encBest best), .fz (encS S), .fz (oI (N.gap b S))]) (by simp [hg])]
    unfold bstep
    cases N.gap b S with
    | none => rfl
    | some g =>
      by_cases h0 : 0 < g
      · cases best with
        | none => simp [oI, encBest, h0, pGt_int, Dn.lim]
        | some p =>
          obtain ⟨g0, S0⟩ := p
          by_cases h1 : g0 < g
          · simp [oI, encBest, h0, h1, pGt_int, pLt_int, pEq_int, Dn.lim]
          · by_cases h2 : g = g0
            · subst h2
              by_cases h3 : S.length < S0.length
              · simp [oI, encBest, h0, h1, h3, pGt_int, pLt_int, pEq_int, Dn.lim, encS]
              · simp [oI, encBest, h0, h1, h3, pGt_int, pLt_int, pEq_int, Dn.lim, encS]
            · simp [oI, encBest, h0, h1, h2, pGt_int, pLt_int, pEq_int, Dn.lim]
      · simp [oI, encBest, h0, pGt_int]
  have hS := v_law_sets W h6
  have q : ∀ b, (dS (dFz (dCallL den_law_sets (dCons (dVar 0) dNil)))) (st b none) = some ((setsFrom [[]] N.names).map encS) := fun b => by simp [st, hS]
  have sub : ∀ b g S, scan (N.gap b) (setsFrom [[]] N.names) none = some (g, S) → S.Sublist N.names := fun b g S e => by
    have hM : ∃ M : Int, ∀ S ∈ setsFrom [[]] N.names, ∀ g, N.gap b S = some g → g ≤ M := by
      generalize setsFrom [[]] N.names = rows
      induction rows with
      | nil => exact ⟨0, fun S h => by cases h⟩
      | cons T rows ih =>
        obtain ⟨M, hM⟩ := ih
        cases hT : N.gap b T with
        | none => exact ⟨M, fun S hS g hg => by
            rcases List.mem_cons.mp hS with rfl | hS
            · rw [hT] at hg; cases hg
            · exact hM S hS g hg⟩
        | some y => exact ⟨max M y, fun S hS g hg => by
            rcases List.mem_cons.mp hS with rfl | hS
            · rw [hT] at hg; cases hg; omega
            · have := hM S hS g hg; omega⟩
    obtain ⟨M, hM⟩ := hM
    have := scan_keep (M := M) (setsFrom [[]] N.names) none (fun _ h => h) hM (fun g S e => by cases e)
    exact row_mem.mp (this g S e).1
  have tail : ∀ (b : Bool) (w0 : Str), w0 = word b → ∀ g S, S.Sublist N.names → (dIfS (dTst (dB pNotN (dVar 2) (dC .none))) (dRet (dTup (dCons (dC (.str "never")) (dCons (dIx (dS (dVar 2)) (dC (.int 0))) (dCons (dIx (dLst (dCons (dC (.str "under")) (dCons (dC (.str "over")) dNil))) (dG gInt (dCons (dB pEq (dVar 1) (dC (.int 1))) dNil))) (dCons (dG gTuple (dGl gSortS (dS (dIx (dS (dVar 2)) (dC (.int 1)))))) dNil)))))) dSkip) (st b (some (g, S))) = some (st b (some (g, S)), .rt (.va (.tuple [.str "never", .int g, .str w0, encS S]))) := fun b w0 hw g S hsub => by
    have e := sort_sub hs hsub
    subst hw
    have e1 : pEq (.int (sgn b)) (.int 1) = some (.bool b) := by rw [pEq_int]; cases b <;> rfl
    cases b <;> simp [st, encBest, encS, e, e1, word, Dn.lim]
  have outer : ∃ ρ', bod_law_never [.fz N.enc, .un, .un, .un, .un] = some (ρ', .rt (.va (neverP N))) := by
    unfold bod_law_never
    have qs : (dS (dFz (dLst (dCons (dC (.int 1)) (dCons (dU pNeg (dC (.int 1))) dNil))))) [.fz N.enc, .un, .un, .un, .un] = some [.int 1, .int (-1)] := rfl
    unfold neverP
    cases h1 : scan (N.gap true) (setsFrom [[]] N.names) none with
    | some p =>
      obtain ⟨g, S⟩ := p
      refine ⟨st true (some (g, S)), ?_⟩
      rw [seq_rt]
      rw [dFor_ap, qs, Option.bind_some]
      refine forD_ret (ρ1 := [.fz N.enc, .fz (.int (sgn true)), .un, .un, .un]) rfl ?_
      rw [seq_nx (ρ' := st true none) rfl, seq_nx (ρ' := st true (some (g, S))) (by rw [dFor_ap, q, Option.bind_some, inner true none _ (by simp [st]), h1])]
      exact tail true "over" rfl g S (sub true g S h1)
    | none =>
      have n1 : ∀ ρ xs, fgE ρ [1, 2, 3, 4] = [.fz N.enc, .un, .un, .un, .un] → forD [1, 2, 3, 4] (.nm 1) (dSeq (dAsg 2 (dC .none)) (dSeq (dFor (dS (dFz (dCallL den_law_sets (dCons (dVar 0) dNil)))) [3, 4] (.nm 3) (dSeq (dAsg 4 (dCall den_law_gap (dCons (dVar 0) (dCons (dVar 3) (dCons (dVar 1) dNil)))))
    (dIfS (dAnd (dTst (dB pNotN (dVar 4) (dC .none))) (dAnd (dTst (dB pGt (dVar 4) (dC (.int 0)))) (dOr (dTst (dB pIsN (dVar 2) (dC .none))) (dOr (dTst (dB pGt (dVar 4) (dIx (dS (dVar 2)) (dC (.int 0))))) (dAnd (dTst (dB pEq (dVar 4) (dIx (dS (dVar 2)) (dC (.int 0))))) (dTst (dB pLt (dG gLen (dS (dVar 3))) (dG gLen (dS (dIx (dS (dVar 2)) (dC (.int 1)))))))))))) (dAsg 2 (dTup (dCons (dVar 4) (dCons (dVar 3) dNil)))) dSkip)))
    (dIfS (dTst (dB pNotN (dVar 2) (dC .none))) (dRet (dTup (dCons (dC (.str "never")) (dCons (dIx (dS (dVar 2)) (dC (.int 0))) (dCons (dIx (dLst (dCons (dC (.str "under")) (dCons (dC (.str "over")) dNil))) (dG gInt (dCons (dB pEq (dVar 1) (dC (.int 1))) dNil))) (dCons (dG gTuple (dGl gSortS (dS (dIx (dS (dVar 2)) (dC (.int 1)))))) dNil)))))) dSkip))) (.int 1 :: xs) ρ = forD [1, 2, 3, 4] (.nm 1) (dSeq (dAsg 2 (dC .none)) (dSeq (dFor (dS (dFz (dCallL den_law_sets (dCons (dVar 0) dNil)))) [3, 4] (.nm 3) (dSeq (dAsg 4 (dCall den_law_gap (dCons (dVar 0) (dCons (dVar 3) (dCons (dVar 1) dNil)))))
    (dIfS (dAnd (dTst (dB pNotN (dVar 4) (dC .none))) (dAnd (dTst (dB pGt (dVar 4) (dC (.int 0)))) (dOr (dTst (dB pIsN (dVar 2) (dC .none))) (dOr (dTst (dB pGt (dVar 4) (dIx (dS (dVar 2)) (dC (.int 0))))) (dAnd (dTst (dB pEq (dVar 4) (dIx (dS (dVar 2)) (dC (.int 0))))) (dTst (dB pLt (dG gLen (dS (dVar 3))) (dG gLen (dS (dIx (dS (dVar 2)) (dC (.int 1)))))))))))) (dAsg 2 (dTup (dCons (dVar 4) (dCons (dVar 3) dNil)))) dSkip)))
    (dIfS (dTst (dB pNotN (dVar 2) (dC .none))) (dRet (dTup (dCons (dC (.str "never")) (dCons (dIx (dS (dVar 2)) (dC (.int 0))) (dCons (dIx (dLst (dCons (dC (.str "under")) (dCons (dC (.str "over")) dNil))) (dG gInt (dCons (dB pEq (dVar 1) (dC (.int 1))) dNil))) (dCons (dG gTuple (dGl gSortS (dS (dIx (dS (dVar 2)) (dC (.int 1)))))) dNil)))))) dSkip))) xs (st true none) := fun ρ xs hf => by
        refine forD_next (ρ1 := [.fz N.enc, .fz (.int (sgn true)), .un, .un, .un]) (fl := .nx) (by rw [hf]; rfl) ?_ (.inl rfl)
        rw [seq_nx (ρ' := st true none) rfl, seq_nx (ρ' := st true none) (by rw [dFor_ap, q, Option.bind_some, inner true none _ (by simp [st]), h1])]
        rfl
      simp only
      cases h2 : scan (N.gap false) (setsFrom [[]] N.names) none with
      | some p =>
        obtain ⟨g, S⟩ := p
        refine ⟨st false (some (g, S)), ?_⟩
        rw [seq_rt]
        rw [dFor_ap, qs, Option.bind_some, n1 _ _ (by simp)]
        refine forD_ret (ρ1 := [.fz N.enc, .fz (.int (sgn false)), .un, .un, .un]) (by simp [st]; rfl) ?_
        rw [seq_nx (ρ' := st false none) rfl, seq_nx (ρ' := st false (some (g, S))) (by rw [dFor_ap, q, Option.bind_some, inner false none _ (by simp [st]), h2])]
        exact tail false "under" rfl g S (sub false g S h2)
      | none =>
        refine ⟨[.fz N.enc, .un, .un, .un, .un], ?_⟩
        rw [seq_nx (ρ' := [.fz N.enc, .un, .un, .un, .un])]
        · rfl
        · rw [dFor_ap, qs, Option.bind_some, n1 _ _ (by simp)]
          rw [forD_next (ρ1 := [.fz N.enc, .fz (.int (sgn false)), .un, .un, .un]) (ρ2 := st false none) (fl := .nx) (by simp [st]; rfl) (by
            rw [seq_nx (ρ' := st false none) rfl, seq_nx (ρ' := st false none) (by rw [dFor_ap, q, Option.bind_some, inner false none _ (by simp [st]), h2])]
            rfl) (.inl rfl), forD_nil]
          simp [st]
  obtain ⟨ρ', h⟩ := outer
  exact runD_rt (ρ' := ρ') rfl rfl h
end K04
end
section
set_option linter.all false
set_option maxRecDepth 100000
set_option maxHeartbeats 1000000
namespace K04
open PySem PySem.Spec L2 Dn
variable {N : Net}
def abcd : List Str := ["a", "b", "c", "d"]
/-- the nets that are drawn -/
structure Net.Nice (N : Net) : Prop where
  wf : N.WF
  srt : Srt N
  two : 2 ≤ N.nodes.length
  four : N.nodes.length ≤ 4
  seven : N.arcs.length ≤ 7
  small : ∀ a ∈ N.arcs, ∀ u, a.hi = some u → u ≤ a.lo + 3
  nms : N.names = abcd.take N.nodes.length
def topOf (a : Arc) : Int := match a.hi with
  | none => 4
  | some u => u - a.lo + 1
theorem v_law_inside (G : N.Nice) (s : Dst) (hs : s.Ok) : ∃ f s', den_law_inside s.enc [N.enc] = some (encF f, Dst.enc s') ∧ Inb N f ∧ s'.Ok := by
  let st : Dst → List Int → En := fun s row => [.ox s.enc, .fz N.enc, .ol (row.map .int), .un, .un, .un, .un, .un, .un, .un]
  have loop : ∀ (as : List Arc) (row : List Int) (s : Dst) (ρ : En), s.Ok → (∀ a ∈ as, ∀ u, a.hi = some u → a.lo ≤ u ∧ u ≤ a.lo + 3) → row.length + as.length ≤ 1000 → fgE ρ [3, 4, 5, 6, 7, 8, 9] = st s row → ∃ r s', forD [3, 4, 5, 6, 7, 8, 9] (.tp [(.nm 3), (.nm 4), (.nm 5), (.nm 6), (.nm 7), (.nm 8)]) (dSeq (dAsg 9 (dC (.int 4)))
    (dSeq (dIfS (dTst (dB pNotN (dVar 7) (dC .none))) (dAsg 9 (dB pAdd (dB pSub (dVar 7) (dVar 6)) (dC (.int 1)))) dSkip)
    (eApp 2 (eB pAdd (ePure (dVar 6)) (eCall 0 den_law_draw (dCons (dVar 9) dNil)))))) (as.map N.encArc) ρ = some (st s' (row ++ r), .nx) ∧ s'.Ok ∧ r.length = as.length ∧ ∀ k a, as[k]? = some a → a.lo ≤ r.getD k 0 ∧ ∀ u, a.hi = some u → r.getD k 0 ≤ u := by
    intro as
    induction as with
    | nil => intro row s ρ hs _ _ h; exact ⟨[], s, by rw [List.append_nil, ← h]; rfl, hs, rfl, fun k a h => by simp at h⟩
    | cons a as ih =>
      intro row s ρ hs hb hl h
      have hl' : row.length + as.length + 1 ≤ 1000 := by rw [List.length_cons] at hl; omega
      have htop : 1 ≤ topOf a ∧ topOf a < 1073741824 := by
        unfold topOf
        cases hh : a.hi with
        | none => simp
        | some u =>
          have := hb a List.mem_cons_self u hh
          simp only
          omega
      obtain ⟨d, s1, hd, d1, d2, ho⟩ := v_law_draw s hs (topOf a) htop.1 htop.2
      obtain ⟨r, s2, hf, ho2, hr, hb2⟩ := ih (row ++ [a.lo + d]) s1 [.ox s1.enc, .fz N.enc, .ol ((row ++ [a.lo + d]).map .int), .fz (.str a.nm), .fz (.str (N.name a.t)), .fz (.str (N.name a.h)), .fz (.int a.lo), .fz (oI a.hi), .fz (.int a.pr), .fz (.int (topOf a))] ho (fun b hb' => hb b (List.mem_cons_of_mem _ hb')) (by simp; omega) (by simp [st])
      refine ⟨(a.lo + d) :: r, s2, ?_, ho2, by simp [hr], fun k b hk => ?_⟩
      · rw [List.map_cons, forD_next (ρ1 := [.ox s.enc, .fz N.enc, .ol (row.map .int), .fz (.str a.nm), .fz (.str (N.name a.t)), .fz (.str (N.name a.h)), .fz (.int a.lo), .fz (oI a.hi), .fz (.int a.pr), .un])
          (ρ2 := [.ox s1.enc, .fz N.enc, .ol ((row ++ [a.lo + d]).map .int), .fz (.str a.nm), .fz (.str (N.name a.t)), .fz (.str (N.name a.h)), .fz (.int a.lo), .fz (oI a.hi), .fz (.int a.pr), .fz (.int (topOf a))]) (fl := .nx) (by rw [h]; rfl) ?_ (.inl rfl), hf, List.append_assoc]
        · rfl
        · have b1 : (dSeq (dAsg 9 (dC (.int 4))) (dIfS (dTst (dB pNotN (dVar 7) (dC .none))) (dAsg 9 (dB pAdd (dB pSub (dVar 7) (dVar 6)) (dC (.int 1)))) dSkip)) [.ox s.enc, .fz N.enc, .ol (row.map .int), .fz (.str a.nm), .fz (.str (N.name a.t)), .fz (.str (N.name a.h)), .fz (.int a.lo), .fz (oI a.hi), .fz (.int a.pr), .un] = some ([.ox s.enc, .fz N.enc, .ol (row.map .int), .fz (.str a.nm), .fz (.str (N.name a.t)), .fz (.str (N.name a.h)), .fz (.int a.lo), .fz (oI a.hi), .fz (.int a.pr), .fz (.int (topOf a))], .nx) := by
            unfold topOf
            cases a.hi <;> rfl
          have b2 : (dSeq (dAsg 9 (dC (.int 4))) (dSeq (dIfS (dTst (dB pNotN (dVar 7) (dC .none))) (dAsg 9 (dB pAdd (dB pSub (dVar 7) (dVar 6)) (dC (.int 1)))) dSkip) (eApp 2 (eB pAdd (ePure (dVar 6)) (eCall 0 den_law_draw (dCons (dVar 9) dNil)))))) [.ox s.enc, .fz N.enc, .ol (row.map .int), .fz (.str a.nm), .fz (.str (N.name a.t)), .fz (.str (N.name a.h)), .fz (.int a.lo), .fz (oI a.hi), .fz (.int a.pr), .un] = (eApp 2 (eB pAdd (ePure (dVar 6)) (eCall 0 den_law_draw (dCons (dVar 9) dNil)))) [.ox s.enc, .fz N.enc, .ol (row.map .int), .fz (.str a.nm), .fz (.str (N.name a.t)), .fz (.str (N.name a.h)), .fz (.int a.lo), .fz (oI a.hi), .fz (.int a.pr), .fz (.int (topOf a))] := by
            rw [seq_nx (ρ' := [.ox s.enc, .fz N.enc, .ol (row.map .int), .fz (.str a.nm), .fz (.str (N.name a.t)), .fz (.str (N.name a.h)), .fz (.int a.lo), .fz (oI a.hi), .fz (.int a.pr), .fz (.int 4)]) rfl] at b1 ⊢
            rw [seq_nx b1]
          rw [b2]
          have ql : row.length < 16777216 := by omega
          simp [hd, ql]
      · cases k with
        | zero =>
          have e : a = b := by simpa using hk
          subst e
          refine ⟨by show a.lo ≤ a.lo + d; omega, fun u hu => ?_⟩
          have : topOf a = u - a.lo + 1 := by unfold topOf; rw [hu]
          show a.lo + d ≤ u
          omega
        | succ k => exact hb2 k b (by simpa using hk)
  obtain ⟨r, s', hf, ho, hr, hb⟩ := loop N.arcs [] s (st s []) hs (fun a ha u hu => ⟨G.wf.lohi a ha u hu, G.small a ha u hu⟩) (by have := G.seven; simp; omega) (by simp [st])
  refine ⟨r, s', ?_, ⟨hr, hb⟩, ho⟩
  rw [List.nil_append] at hf
  refine runX_rt (ρ' := st s' r) rfl rfl ?_ rfl
  show bod_law_inside [.ox s.enc, .fz N.enc, .un, .un, .un, .un, .un, .un, .un, .un] = _
  unfold bod_law_inside
  have q : (dS (dIx (dS (dVar 1)) (dC (.int 2)))) (st s []) = some (N.arcs.map N.encArc) := rfl
  rw [seq_nx (ρ' := st s []) rfl, seq_nx (ρ' := st s' r) (by rw [dFor_ap, q, Option.bind_some, hf])]
  rfl
end K04
end
section
set_option linter.all false
set_option maxRecDepth 100000
set_option maxHeartbeats 1000000
namespace K04
open PySem PySem.Spec L2 Dn
variable {N : Net}
/-! ### going on eight times -/
def cstep (found : List Nat) (t : Step) : List Nat := if t.i ∈ found ∧ t.j ∉ found then found ++ [t.j] else found
def round (ss : List Step) (found : List Nat) : List Nat := ss.foldl cstep found
def rounds (ss : List Step) : Nat → List Nat → List Nat
  | 0, l => l
  | k + 1, l => rounds ss k (round ss l)
structure CI (ss : List Step) (starts : List Nat) (n : Nat) (l : List Nat) : Prop where
  nd : l.Nodup
  lt : ∀ v ∈ l, v < n
  rch : ∀ v ∈ l, Rch ss starts v
  sub : ∀ v ∈ starts, v ∈ l
def Cl (ss : List Step) (l : List Nat) : Prop := ∀ t ∈ ss, t.i ∈ l → t.j ∈ l
theorem CI.step {ss : List Step} {starts : List Nat} {n : Nat} {l : List Nat} (I : CI ss starts n l) {t : Step} (ht : t ∈ ss) (hj : t.j < n) : CI ss starts n (cstep l t) ∧ l.length ≤ (cstep l t).length ∧ ((cstep l t).length ≤ l.length → cstep l t = l ∧ (t.i ∈ l → t.j ∈ l)) := by
  unfold cstep
  by_cases h : t.i ∈ l ∧ t.j ∉ l
  · rw [if_pos h]
    refine ⟨⟨?_, fun v hv => ?_, fun v hv => ?_, fun v hv => List.mem_append_left _ (I.sub v hv)⟩, by simp, fun q => by simp at q; omega⟩
    · rw [List.nodup_append]
      refine ⟨I.nd, by simp, fun a ha b hb => ?_⟩
      have : b = t.j := by simpa using hb
      subst this
      exact fun e => h.2 (e ▸ ha)
    · rcases List.mem_append.mp hv with hv | hv
      · exact I.lt v hv
      · have : v = t.j := by simpa using hv
        subst this; exact hj
    · rcases List.mem_append.mp hv with hv | hv
      · exact I.rch v hv
      · have : v = t.j := by simpa using hv
        subst this; exact .step ht (I.rch _ h.1)
  · rw [if_neg h]
    exact ⟨I, Nat.le_refl _, fun _ => ⟨rfl, fun hi => Decidable.byContradiction fun q => h ⟨hi, q⟩⟩⟩
theorem CI.fold {ss : List Step} {starts : List Nat} {n : Nat} : ∀ (ts : List Step) {l : List Nat}, CI ss starts n l → (∀ t ∈ ts, t ∈ ss ∧ t.j < n) → CI ss starts n (ts.foldl cstep l) ∧ l.length ≤ (ts.foldl cstep l).length ∧ ((ts.foldl cstep l).length ≤ l.length → ts.foldl cstep l = l ∧ ∀ t ∈ ts, t.i ∈ l → t.j ∈ l)
  | [], l, I, _ => ⟨I, Nat.le_refl _, fun _ => ⟨rfl, fun t h => by cases h⟩⟩
  | t :: ts, l, I, h => by
    obtain ⟨I1, g1, k1⟩ := I.step (h t List.mem_cons_self).1 (h t List.mem_cons_self).2
    obtain ⟨I2, g2, k2⟩ := CI.fold ts I1 fun u hu => h u (List.mem_cons_of_mem _ hu)
    refine ⟨I2, Nat.le_trans g1 g2, fun q => ?_⟩
    rw [List.foldl_cons] at q ⊢
    obtain ⟨e1, c1⟩ := k1 (by omega)
    obtain ⟨e2, c2⟩ := k2 (by omega)
    rw [e1] at e2 c2 ⊢
    refine ⟨e2, fun u hu => ?_⟩
    rcases List.mem_cons.mp hu with rfl | hu
    · exact c1
    · exact c2 u hu
theorem CI.round {ss : List Step} {starts : List Nat} {n : Nat} (hn : ∀ t ∈ ss, t.j < n) {l : List Nat} (I : CI ss starts n l) : CI ss starts n (round ss l) ∧ l.length ≤ (K04.round ss l).length ∧ ((K04.round ss l).length ≤ l.length → K04.round ss l = l ∧ Cl ss l) :=
  CI.fold ss I fun t ht => ⟨ht, hn t ht⟩
theorem cl_round {ss : List Step} {l : List Nat} (h : Cl ss l) : round ss l = l := by
  unfold round
  have key : ∀ ts : List Step, (∀ t ∈ ts, t ∈ ss) → ts.foldl cstep l = l := by
    intro ts
    induction ts with
    | nil => intro _; rfl
    | cons t ts ih =>
      intro hm
      have : cstep l t = l := by
        unfold cstep
        exact if_neg fun q => q.2 (h t (hm t List.mem_cons_self) q.1)
      rw [List.foldl_cons, this]
      exact ih fun u hu => hm u (List.mem_cons_of_mem _ hu)
  exact key ss fun _ h => h
theorem cl_rounds {ss : List Step} {l : List Nat} (h : Cl ss l) : ∀ k, rounds ss k l = l
  | 0 => rfl
  | k + 1 => by
    show rounds ss k (round ss l) = l
    rw [cl_round h]; exact cl_rounds h k
theorem CI.rounds {ss : List Step} {starts : List Nat} {n : Nat} (hn : ∀ t ∈ ss, t.j < n) : ∀ (k : Nat) {l : List Nat}, CI ss starts n l → n < k + l.length → CI ss starts n (rounds ss k l) ∧ Cl ss (K04.rounds ss k l)
  | 0, l, I, h => by
    have := nd_le I.nd I.lt
    omega
  | k + 1, l, I, h => by
    obtain ⟨I1, g, c⟩ := I.round hn
    show CI ss starts n (K04.rounds ss k (K04.round ss l)) ∧ Cl ss (K04.rounds ss k (K04.round ss l))
    by_cases e : (K04.round ss l).length ≤ l.length
    · obtain ⟨e1, e2⟩ := c e
      rw [e1, cl_rounds e2]
      exact ⟨I, e2⟩
    · exact CI.rounds hn k I1 (by omega)
theorem CI.all {ss : List Step} {starts : List Nat} {n : Nat} {l : List Nat} (I : CI ss starts n l) (C : Cl ss l) (v : Nat) : v ∈ l ↔ Rch ss starts v :=
  ⟨I.rch v, fun h => by
    induction h with
    | base hb => exact I.sub _ hb
    | step ht _ ih => exact C _ ht ih⟩
/-! sorting -/
theorem eqv_int {a b : Int} : PyData.eqv (.int a) (.int b) = (a == b) := by simp [PyData.eqv]
theorem all_flat_nat (l : List Nat) : (encN l).all flatP = true := by
  unfold encN
  induction l with
  | nil => rfl
  | cons x l ih => rw [List.map_cons, List.all_cons, ih]; rfl
theorem any_nat (l : List Nat) (v : Nat) : ((encN l).any fun y => PyData.eqv y (.int (v : Nat))) = decide (v ∈ l) := by
  unfold encN
  rw [List.any_map]
  rw [Bool.eq_iff_iff, List.any_eq_true, decide_eq_true_iff]
  simp only [Function.comp, eqv_int, beq_iff_eq]
  constructor
  · rintro ⟨x, hx, e⟩
    have : x = v := by omega
    exact this ▸ hx
  · exact fun h => ⟨v, h, rfl⟩
theorem gIn_nat (l : List Nat) (v : Nat) : gIn (.int (v : Nat)) (encN l) = some (.bool (decide (v ∈ l))) := by
  unfold gIn
  rw [if_pos ⟨rfl, all_flat_nat l⟩, any_nat]
theorem gNotIn_nat (l : List Nat) (v : Nat) : gNotIn (.int (v : Nat)) (encN l) = some (.bool (!decide (v ∈ l))) := by
  unfold gNotIn
  rw [if_pos ⟨rfl, all_flat_nat l⟩, any_nat]
theorem intsP_nat (l : List Nat) : intsP (encN l) = some (l.map fun v : Nat => (v : Int)) := by
  have : encN l = (l.map fun v : Nat => (v : Int)).map .int := by unfold encN; rw [List.map_map]; rfl
  rw [this, intsP_map]
theorem pw_int_uniq : ∀ {l m : List Int}, l.Perm m → l.Pairwise (fun a b => a ≤ b) → m.Pairwise (fun a b => a ≤ b) → l = m
  | [], m, p, _, _ => (List.nil_perm.mp p).symm ▸ rfl
  | x :: l, m, p, h1, h2 => by
    cases m with
    | nil => exact absurd p.symm (by simp)
    | cons y m =>
      have e : x = y := by
        have hx : x ∈ y :: m := p.mem_iff.mp List.mem_cons_self
        have hy : y ∈ x :: l := p.mem_iff.mpr List.mem_cons_self
        rcases List.mem_cons.mp hx with w | w
        · exact w
        rcases List.mem_cons.mp hy with v | v
        · exact v.symm
        have := List.rel_of_pairwise_cons h1 v
        have := List.rel_of_pairwise_cons h2 w
        omega
      subst e
      rw [pw_int_uniq (List.Perm.cons_inv p) (List.pairwise_cons.mp h1).2 (List.pairwise_cons.mp h2).2]
theorem perm_of_mem : ∀ {l m : List Nat}, l.Nodup → m.Nodup → (∀ v, v ∈ l ↔ v ∈ m) → l.Perm m := fun h1 h2 h => (List.perm_ext_iff_of_nodup h1 h2).mpr h
def upto (n : Nat) (p : Nat → Bool) : List Nat := (List.range n).filter p
theorem mem_upto {n : Nat} {p : Nat → Bool} {v : Nat} : v ∈ upto n p ↔ v < n ∧ p v = true := by
  unfold upto; rw [List.mem_filter, List.mem_range]
theorem upto_nd {n : Nat} {p : Nat → Bool} : (upto n p).Nodup := List.Pairwise.filter _ List.nodup_range
theorem gSort_nat {l : List Nat} {n : Nat} {p : Nat → Bool} (nd : l.Nodup) (h : ∀ v, v ∈ l ↔ v < n ∧ p v = true) : gSort (encN l) = some (encN (upto n p)) := by
  unfold gSort
  rw [intsP_nat]
  have e : (l.map fun v : Nat => (v : Int)).mergeSort (fun a b => decide (a ≤ b)) = (upto n p).map fun v : Nat => (v : Int) := by
    refine pw_int_uniq ((List.mergeSort_perm _ _).trans ((perm_of_mem nd upto_nd fun v => by rw [h, mem_upto]).map _)) ?_ ?_
    · have := List.pairwise_mergeSort (le := fun a b : Int => decide (a ≤ b)) (fun a b c h1 h2 => by simp at h1 h2 ⊢; omega) (fun a b => by simp; omega) (l.map fun v : Nat => (v : Int))
      exact this.imp fun h => by simpa using h
    · rw [List.pairwise_map]
      unfold upto
      exact (List.pairwise_lt_range.imp fun h => by omega).filter _
  show some (((l.map fun v : Nat => (v : Int)).mergeSort (fun a b => decide (a ≤ b))).map PyData.int) = _
  rw [e]
  unfold encN
  rw [List.map_map]; rfl
end K04
end
section
set_option linter.all false
set_option maxRecDepth 100000
set_option maxHeartbeats 1000000
namespace K04
open PySem PySem.Spec L2 Dn
variable {N : Net}
def dir (b : Bool) (t : Step) : Step := if b then t.rev else t
def dirs (b : Bool) (ss : List Step) : List Step := ss.map (dir b)
theorem dirs_f (ss : List Step) : dirs false ss = ss := by
  unfold dirs
  have : dir false = id := by funext t; rfl
  rw [this, List.map_id]
theorem dirs_t (ss : List Step) : dirs true ss = ss.map Step.rev := by
  unfold dirs
  have : dir true = Step.rev := by funext t; rfl
  rw [this]
theorem v_law_close (ss : List Step) (starts : List Nat) (b : Bool) (n : Nat) (hn : n ≤ 7) (nd : starts.Nodup) (lt : ∀ v ∈ starts, v < n) (hs : ∀ t ∈ ss, t.i < n ∧ t.j < n) (p : Nat → Bool) (hp : ∀ v, v < n → (p v = true ↔ Rch (dirs b ss) starts v)) :
    den_law_close [.list (ss.map encStep), .list (encN starts), .bool b] = some (.li (encN (upto n p))) := by
  have hj : ∀ t ∈ dirs b ss, t.j < n := fun t ht => by
    obtain ⟨u, hu, rfl⟩ := List.mem_map.mp ht
    have := hs u hu
    cases b
    · exact this.2
    · exact this.1
  let sP := PyData.list (ss.map encStep)
  let tP := PyData.list (encN starts)
  let l0 := upto n fun v => decide (v ∈ starts)
  have m0 : ∀ v, v ∈ l0 ↔ v ∈ starts := fun v => by
    rw [mem_upto, decide_eq_true_iff]
    exact ⟨fun h => h.2, fun h => ⟨lt v h, h⟩⟩
  have I0 : CI (dirs b ss) starts n l0 := ⟨upto_nd, fun v hv => lt v ((m0 v).mp hv), fun v hv => .base ((m0 v).mp hv), fun v hv => (m0 v).mpr hv⟩
  have g0 : gSort (encN starts) = some (encN l0) := gSort_nat nd fun v => by
    rw [decide_eq_true_iff]
    exact ⟨fun h => ⟨lt v h, h⟩, fun h => h.2⟩
  let st : List Nat → En := fun l => [.fz sP, .fz tP, .fz (.bool b), .ol (encN l), .un, .un]
  let si : Sl → List Nat → En := fun k l => [.fz sP, .fz tP, .fz (.bool b), .ol (encN l), k, .un]
  have inner : ∀ (k : Sl) (l : List Nat) (ρ : En), (∀ q, k ≠ .ox q) → fgE ρ [5] = si k l → CI (dirs b ss) starts n l → forD [5] (.nm 5) (dIfS (dAnd (dTst (dInQ gIn (dIx (dS (dVar 5)) (dG gInt (dCons (dVar 2) dNil))) (dOwn 3))) (dTst (dInQ gNotIn (dIx (dS (dVar 5)) (dB pSub (dC (.int 1)) (dG gInt (dCons (dVar 2) dNil)))) (dOwn 3)))) (dApp 3 (dIx (dS (dVar 5)) (dB pSub (dC (.int 1)) (dG gInt (dCons (dVar 2) dNil))))) dSkip) (ss.map encStep) ρ = some (si k (round (dirs b ss) l), .nx) := fun k l ρ hk h I => by
    have hf := forD_fold (vs := [5]) (t := .nm 5) (db := (dIfS (dAnd (dTst (dInQ gIn (dIx (dS (dVar 5)) (dG gInt (dCons (dVar 2) dNil))) (dOwn 3))) (dTst (dInQ gNotIn (dIx (dS (dVar 5)) (dB pSub (dC (.int 1)) (dG gInt (dCons (dVar 2) dNil)))) (dOwn 3)))) (dApp 3 (dIx (dS (dVar 5)) (dB pSub (dC (.int 1)) (dG gInt (dCons (dVar 2) dNil))))) dSkip)) encStep (si k) (fun l t => cstep l (dir b t)) (CI (dirs b ss) starts n) ss l ρ h I (fun l t ht I => by
      have hm : dir b t ∈ dirs b ss := List.mem_map_of_mem ht
      have I1 := (I.step hm (hj _ hm)).1
      refine ⟨I1, [.fz sP, .fz tP, .fz (.bool b), .ol (encN l), k, .fz (encStep t)], [.fz sP, .fz tP, .fz (.bool b), .ol (encN (cstep l (dir b t))), k, .fz (encStep t)], .nx, rfl, ?_, .inl rfl, by simp [si]⟩
      have e1 : (dIx (dS (dVar 5)) (dG gInt (dCons (dVar 2) dNil))) [.fz sP, .fz tP, .fz (.bool b), .ol (encN l), k, .fz (encStep t)] = some (.int ((dir b t).i : Nat)) := by
        cases b <;> rfl
      have e2 : (dIx (dS (dVar 5)) (dB pSub (dC (.int 1)) (dG gInt (dCons (dVar 2) dNil)))) [.fz sP, .fz tP, .fz (.bool b), .ol (encN l), k, .fz (encStep t)] = some (.int ((dir b t).j : Nat)) := by
        cases b <;> rfl
      have e3 : (dOwn 3) [.fz sP, .fz tP, .fz (.bool b), .ol (encN l), k, .fz (encStep t)] = some (encN l) := rfl
      have ll : l.length < 16777216 := by
        have := nd_le I.nd I.lt; omega
      have T1 : (dTst (dInQ gIn (dIx (dS (dVar 5)) (dG gInt (dCons (dVar 2) dNil))) (dOwn 3))) [.fz sP, .fz tP, .fz (.bool b), .ol (encN l), k, .fz (encStep t)] = some (decide ((dir b t).i ∈ l)) := by
        rw [dTst_ap, dInQ_ap, e1, Option.bind_some, e3, Option.bind_some, gIn_nat]; rfl
      have T2 : (dTst (dInQ gNotIn (dIx (dS (dVar 5)) (dB pSub (dC (.int 1)) (dG gInt (dCons (dVar 2) dNil)))) (dOwn 3))) [.fz sP, .fz tP, .fz (.bool b), .ol (encN l), k, .fz (encStep t)] = some (!decide ((dir b t).j ∈ l)) := by
        rw [dTst_ap, dInQ_ap, e2, Option.bind_some, e3, Option.bind_some, gNotIn_nat]; rfl
      rw [dIfS_ap, dAnd_ap, T1, T2, Option.bind_some]
      by_cases h1 : (dir b t).i ∈ l
      · by_cases h2 : (dir b t).j ∈ l
        · have ec : cstep l (dir b t) = l := if_neg (fun q => q.2 h2)
          rw [ec]; simp [h1, h2]
        · have a := app_own (i := 3) (l := encN l) (ρ := [.fz sP, .fz tP, .fz (.bool b), .ol (encN l), k, .fz (encStep t)]) rfl e2 (by unfold encN; rw [List.length_map]; exact ll)
          have ec : cstep l (dir b t) = l ++ [(dir b t).j] := if_pos ⟨h1, h2⟩
          rw [ec]
          simp only [h1, h2, decide_true, decide_false, Bool.not_false, Option.bind_some, if_true]
          rw [a]
          unfold encN
          rw [List.map_append]; rfl
      · have ec : cstep l (dir b t) = l := if_neg (fun q => h1 q.1)
        rw [ec]; simp [h1])
    rw [hf.1]
    unfold round dirs
    rw [List.foldl_map]
  have outer : forD [4, 5] (.nm 4) (dFor (dS (dVar 0)) [5] (.nm 5) (dIfS (dAnd (dTst (dInQ gIn (dIx (dS (dVar 5)) (dG gInt (dCons (dVar 2) dNil))) (dOwn 3))) (dTst (dInQ gNotIn (dIx (dS (dVar 5)) (dB pSub (dC (.int 1)) (dG gInt (dCons (dVar 2) dNil)))) (dOwn 3)))) (dApp 3 (dIx (dS (dVar 5)) (dB pSub (dC (.int 1)) (dG gInt (dCons (dVar 2) dNil))))) dSkip)) ((List.range 8).map fun (i : Nat) => PyData.int (i : Nat)) (st l0) = some (st (rounds (dirs b ss) 8 l0), .nx) := by
    have hf := forD_fold (vs := [4, 5]) (t := .nm 4) (db := (dFor (dS (dVar 0)) [5] (.nm 5) (dIfS (dAnd (dTst (dInQ gIn (dIx (dS (dVar 5)) (dG gInt (dCons (dVar 2) dNil))) (dOwn 3))) (dTst (dInQ gNotIn (dIx (dS (dVar 5)) (dB pSub (dC (.int 1)) (dG gInt (dCons (dVar 2) dNil)))) (dOwn 3)))) (dApp 3 (dIx (dS (dVar 5)) (dB pSub (dC (.int 1)) (dG gInt (dCons (dVar 2) dNil))))) dSkip))) (fun (i : Nat) => PyData.int (i : Nat)) st (fun l _ => round (dirs b ss) l) (CI (dirs b ss) starts n) (List.range 8) l0 (st l0) rfl I0 (fun l k _ I => by
      refine ⟨(I.round hj).1, si (.fz (.int (k : Nat))) l, si (.fz (.int (k : Nat))) (round (dirs b ss) l), .nx, rfl, ?_, .inl rfl, by simp [si, st]⟩
      have q : (dS (dVar 0)) (si (.fz (.int (k : Nat))) l) = some (ss.map encStep) := rfl
      rw [dFor_ap, q, Option.bind_some]
      exact inner _ l _ (fun q e => by cases e) (by simp [si]) I)
    rw [hf.1]
    rfl
  obtain ⟨IF, CF⟩ := I0.rounds hj 8 (by omega)
  have gF : gSort (encN (rounds (dirs b ss) 8 l0)) = some (encN (upto n p)) := gSort_nat IF.nd fun v => by
    rw [IF.all CF v]
    constructor
    · intro h
      have hv := IF.lt v ((IF.all CF v).mpr h)
      exact ⟨hv, (hp v hv).mpr h⟩
    · exact fun h => (hp v h.1).mp h.2
  refine runD_rt (ρ' := st (rounds (dirs b ss) 8 l0)) rfl rfl ?_
  show bod_law_close [.fz sP, .fz tP, .fz (.bool b), .un, .un, .un] = _
  unfold bod_law_close
  have s1 : (dAsgO 3 (dGl gSort (dLs (dVar 1)))) [.fz sP, .fz tP, .fz (.bool b), .un, .un, .un] = some (st l0, .nx) := by
    have q : (dLs (dVar 1)) [.fz sP, .fz tP, .fz (.bool b), .un, .un, .un] = some (encN starts) := rfl
    rw [dAsgO_ap, dGl_ap, q, Option.bind_some, g0]; rfl
  have q2 : (dRng1 (dC (.int 8))) (st l0) = some ((List.range 8).map fun (i : Nat) => PyData.int (i : Nat)) := by
    rw [dRng1_ap]
    show rng1 (.int ((8 : Nat) : Int)) = _
    rw [rng1_nat (by decide)]
  have q3 : (dOwn 3) (st (rounds (dirs b ss) 8 l0)) = some (encN (rounds (dirs b ss) 8 l0)) := rfl
  rw [seq_nx s1, dSeq_ap, dFor_ap, q2, Option.bind_some, outer]
  show (dRetL (dGl gSort (dOwn 3))) (st (rounds (dirs b ss) 8 l0)) = _
  rw [dRetL_ap, dGl_ap, q3, Option.bind_some, gF]
  rfl
end K04
end
section
set_option linter.all false
set_option maxRecDepth 100000
set_option maxHeartbeats 1000000
namespace K04
open PySem PySem.Spec L2 Dn
variable {N : Net}
/-! ### what can be compared -/
def Lay (d : Nat) (x : PV) : Prop := x.canLay0 = true ∧ x.depth ≤ d
theorem Lay.mono {d e : Nat} {x : PV} (h : Lay d x) (q : d ≤ e) : Lay e x := ⟨h.1, Nat.le_trans h.2 q⟩
theorem lay_int (d : Nat) (i : Int) : Lay d (.int i) := ⟨by simp [PyData.canLay0], by simp [PyData.depth]⟩
theorem lay_bool (d : Nat) (b : Bool) : Lay d (.bool b) := ⟨by simp [PyData.canLay0], by simp [PyData.depth]⟩
theorem lay_none (d : Nat) : Lay d .none := ⟨by simp [PyData.canLay0], by simp [PyData.depth]⟩
theorem lay_str (d : Nat) {x : Str} (h : PyData.strOk x = true) : Lay d (.str x) := ⟨by simp [PyData.canLay0, h], by simp [PyData.depth]⟩
theorem lay_all {d : Nat} : ∀ {l : List PV}, (∀ x ∈ l, Lay d x) → PyData.canLayAll0 l = true ∧ PyData.depthAll l ≤ d
  | [], _ => ⟨by simp [PyData.canLayAll0], by simp [PyData.depthAll]⟩
  | x :: l, h => by
    have h1 := h x List.mem_cons_self
    have ih := lay_all fun y hy => h y (List.mem_cons_of_mem _ hy)
    exact ⟨by simp [PyData.canLayAll0, h1.1, ih.1], by have := h1.2; have := ih.2; simp [PyData.depthAll]; omega⟩
theorem lay_list {d : Nat} {l : List PV} (h : ∀ x ∈ l, Lay d x) : Lay (d + 1) (.list l) := by
  have := lay_all h
  exact ⟨by simp [PyData.canLay0, this.1], by have := this.2; simp [PyData.depth]; omega⟩
theorem lay_tup {d : Nat} {l : List PV} (h : ∀ x ∈ l, Lay d x) : Lay (d + 1) (.tuple l) := by
  have := lay_all h
  exact ⟨by simp [PyData.canLay0, this.1], by have := this.2; simp [PyData.depth]; omega⟩
theorem lay_oI (d : Nat) (x : Option Int) : Lay d (oI x) := by
  cases x with
  | none => exact lay_none d
  | some i => exact lay_int d i
theorem Lay.shaped {x : PV} (h : Lay 60 x) : SeqAt.shaped x = true := by
  unfold SeqAt.shaped
  have := h.2
  simp [h.1]; omega
theorem pNe_self {x : PV} (h : Lay 60 x) : pNe x x = some (.bool false) := by
  unfold pNe shp
  rw [h.shaped, eqv_rfl h.1]; rfl
theorem pEq_self {x : PV} (h : Lay 60 x) : pEq x x = some (.bool true) := by
  unfold pEq shp
  rw [h.shaped, eqv_rfl h.1]; rfl
theorem lay_step (s : Step) : Lay 1 (encStep s) := lay_tup fun x hx => by
  simp only [List.mem_cons, List.not_mem_nil, or_false] at hx
  rcases hx with rfl | rfl | rfl | rfl | rfl | rfl
  · exact lay_int _ _
  · exact lay_int _ _
  · exact lay_int _ _
  · exact lay_int _ _
  · exact lay_oI _ _
  · exact lay_int _ _
theorem lay_steps (l : List Step) : Lay 2 (.list (l.map encStep)) := lay_list fun x hx => by
  obtain ⟨s, _, rfl⟩ := List.mem_map.mp hx
  exact lay_step s
theorem lay_nats (l : List Nat) : Lay 1 (.list (encN l)) := lay_list fun x hx => by
  obtain ⟨s, _, rfl⟩ := List.mem_map.mp hx
  exact lay_int _ _
theorem lay_ints (l : List Int) : Lay 1 (.list (l.map .int)) := lay_list fun x hx => by
  obtain ⟨s, _, rfl⟩ := List.mem_map.mp hx
  exact lay_int _ _
theorem lay_names {l : List Str} (h : ∀ x ∈ l, PyData.strOk x = true) : Lay 1 (encS l) := lay_tup fun x hx => by
  obtain ⟨s, hs, rfl⟩ := List.mem_map.mp hx
  exact lay_str _ (h s hs)
/-! the least room, by min -/
theorem room_fold : ∀ (l : List Step) (a : Option Int), l.foldl (fun a t => leastOf a t.room) a = match a with
    | none => (l.filterMap Step.room).min?
    | some x => some ((l.filterMap Step.room).foldl min x)
  | [], none => rfl
  | [], some x => rfl
  | t :: l, none => by
    have ih := room_fold l (leastOf none t.room)
    rw [List.foldl_cons, ih]
    cases hr : t.room with
    | none => rw [List.filterMap_cons_none hr]; rfl
    | some y => rw [List.filterMap_cons_some hr]; rfl
  | t :: l, some x => by
    have ih := room_fold l (leastOf (some x) t.room)
    rw [List.foldl_cons, ih]
    cases hr : t.room with
    | none => rw [List.filterMap_cons_none hr]; rfl
    | some y =>
      rw [List.filterMap_cons_some hr]
      have : (if y < x then y else x) = min x y := by
        by_cases h : y < x
        · rw [if_pos h]; omega
        · rw [if_neg h]; omega
      show some (List.foldl min (if y < x then y else x) _) = some (List.foldl min (min x y) _)
      rw [this]
theorem room_min (l : List Step) : roomOf l = (l.filterMap Step.room).min? := room_fold l none
/-! a way's places -/
theorem chain_at : ∀ {l : List Step} {u v : Nat}, Chain u l v → (∀ t, l[0]? = some t → t.i = u) ∧ (∀ t, l[l.length - 1]? = some t → t.j = v) ∧ ∀ k s t, l[k]? = some s → l[k + 1]? = some t → t.i = s.j
  | [], u, v, h => ⟨fun t h => by simp at h, fun t h => by simp at h, fun k s t h => by simp at h⟩
  | [s], u, v, h => ⟨fun t e => by simp at e; subst e; exact h.1, fun t e => by simp at e; subst e; exact h.2, fun k s t _ h => by simp at h⟩
  | s :: r :: l, u, v, h => by
    obtain ⟨i1, i2, i3⟩ := chain_at (l := r :: l) h.2
    refine ⟨fun t e => by simp at e; subst e; exact h.1, fun t e => i2 t (by simpa using e), fun k a b ha hb => ?_⟩
    cases k with
    | zero =>
      have e1 : s = a := by simpa using ha
      have e2 : r = b := by simpa using hb
      subst e1 e2
      exact i1 r rfl
    | succ k => exact i3 k a b (by simpa using ha) (by simpa using hb)
theorem rng2_one {n : Nat} (h : n < 4611686018427387904) : rng2 (.int 1) (.int (n : Nat)) = some ((List.range' 1 (n - 1)).map fun (i : Nat) => PyData.int (i : Nat)) := by
  show (if big62 1 ∧ big62 (n : Int) then some (rngP 1 ((n : Int) - 1).toNat) else none) = _
  rw [if_pos ⟨by unfold big62; omega, by unfold big62; omega⟩, show (((n : Int) - 1).toNat) = n - 1 by omega]
  have := rngP_map (n - 1) 1
  rw [show ((1 : Nat) : Int) = 1 by rfl] at this
  rw [this]
/-- comprehensions over places -/
theorem comp_upto {n : Nat} {t : Tg} {tt : DTv} {te : DPv} {ρ : En} (p : Nat → Bool) (h : ∀ v, v < n → ∃ ρ1, tgB t (.int (v : Nat)) ρ = some ρ1 ∧ tt ρ1 = some (p v) ∧ te ρ1 = some (.int (v : Nat))) :
    compD t tt te ρ ((List.range n).map fun (i : Nat) => PyData.int (i : Nat)) = some (encN (upto n p)) := by
  rw [compD_map (fun (i : Nat) => PyData.int (i : Nat)) p (fun (i : Nat) => PyData.int (i : Nat)) (List.range n) fun v hv => by
    obtain ⟨ρ1, h1, h2, h3⟩ := h v (List.mem_range.mp hv)
    exact ⟨ρ1, h1, h2, fun _ => h3⟩]
  rfl
theorem upto_sub {n : Nat} {l : List Nat} (h : l.Sublist (List.range n)) : upto n (fun v => decide (v ∈ l)) = l := by
  have := subl_filter List.nodup_range h
  unfold upto
  conv => rhs; rw [this]
  apply List.filter_congr
  intro x _
  rw [Bool.eq_iff_iff, List.contains_iff_mem, decide_eq_true_iff]
end K04
end
section
set_option linter.all false
set_option maxRecDepth 100000
set_option maxHeartbeats 1000000
namespace K04
open PySem PySem.Spec L2 Dn
variable {N : Net}
noncomputable def goalBody : DSv := (dSeq (dAsg 9 (dFz (dCallL den_way_to (dCons (dVar 5) (dCons (dVar 8) dNil)))))
    (dIfS (dTst (dB pGt (dG gLen (dS (dVar 9))) (dC (.int 0)))) (dSeq (dIfS (dOr (dTst (dInQ gNotIn (dIx (dS (dIx (dS (dVar 9)) (dC (.int 0)))) (dC (.int 0))) (dS (dVar 4)))) (dOr (dTst (dB pNe (dIx (dS (dIx (dS (dVar 9)) (dB pSub (dG gLen (dS (dVar 9))) (dC (.int 1))))) (dC (.int 1))) (dVar 8))) (dTst (dB pGt (dG gLen (dComp (dRng2 (dC (.int 1)) (dG gLen (dS (dVar 9)))) (.nm 14) [14] (dTst (dB pNe (dIx (dS (dIx (dS (dVar 9)) (dVar 14))) (dC (.int 0))) (dIx (dS (dIx (dS (dVar 9)) (dB pSub (dVar 14) (dC (.int 1))))) (dC (.int 1))))) (dVar 14))) (dC (.int 0)))))) (dRet (dC (.bool false))) dSkip)
    (dSeq (dAsg 10 (dFz (dComp (dS (dVar 9)) (.nm 15) [15] (dTst (dB pNotN (dIx (dS (dVar 15)) (dC (.int 4))) (dC .none))) (dIx (dS (dVar 15)) (dC (.int 4))))))
    (dSeq (dAsg 11 (dC .none))
    (dSeq (dIfS (dTst (dB pGt (dG gLen (dS (dVar 10))) (dC (.int 0)))) (dAsg 11 (dG gMin (dLs (dVar 10)))) dSkip)
    (dSeq (dIfS (dOr (dTst (dB pNe (dCall den_room_along (dCons (dVar 9) dNil)) (dVar 11))) (dTst (dB pNe (dCall den_price_along (dCons (dVar 9) dNil)) (dG gSum (dComp (dS (dVar 9)) (.nm 15) [15] dYes (dIx (dS (dVar 15)) (dC (.int 5)))))))) (dRet (dC (.bool false))) dSkip)
    (dSeq (dAsg 12 (dCall den_pushed (dCons (dVar 2) (dCons (dVar 9) (dCons (dC (.int 1)) dNil)))))
    (dSeq (dAsg 13 (dFz (dComp (dZip (dS (dFz (dCallL den_law_rest (dCons (dVar 1) (dCons (dVar 12) dNil))))) (dS (dFz (dCallL den_law_rest (dCons (dVar 1) (dCons (dVar 2) dNil)))))) (.tp [(.nm 16), (.nm 17)]) [16, 17] dYes (dB pSub (dVar 16) (dVar 17)))))
    (dIfS (dTst (dB pNe (dVar 13) (dFz (dComp (dRng1 (dG gLen (dS (dVar 13)))) (.nm 14) [14] dYes (dB pSub (dG gInt (dCons (dB pEq (dVar 14) (dVar 8)) dNil)) (dG gInt (dCons (dB pEq (dVar 14) (dIx (dS (dIx (dS (dVar 9)) (dC (.int 0)))) (dC (.int 0)))) dNil))))))) (dRet (dC (.bool false))) dSkip)))))))) dSkip))
section
variable {ρ : En} {l : List Step} {k : Nat} {s : Step} {dj : DPv}
theorem ix_i (h9 : ρ[9]? = some (Sl.fz (.list (l.map encStep)))) (hj : dj ρ = some (.int (k : Nat))) (hk : l[k]? = some s) : (dIx (dS (dIx (dS (dVar 9)) dj)) (dC (.int 0))) ρ = some (.int (s.i : Nat)) := by
  have e : (dIx (dS (dVar 9)) dj) ρ = some (encStep s) := by
    rw [dIx_ap, dS_ap, dVar_ap, h9]
    show (dj ρ).bind _ = _
    rw [hj, Option.bind_some, asInt_i, Option.bind_some]
    exact atI_map hk
  rw [dIx_ap, dS_ap, e]; rfl
theorem ix_j (h9 : ρ[9]? = some (Sl.fz (.list (l.map encStep)))) (hj : dj ρ = some (.int (k : Nat))) (hk : l[k]? = some s) : (dIx (dS (dIx (dS (dVar 9)) dj)) (dC (.int 1))) ρ = some (.int (s.j : Nat)) := by
  have e : (dIx (dS (dVar 9)) dj) ρ = some (encStep s) := by
    rw [dIx_ap, dS_ap, dVar_ap, h9]
    show (dj ρ).bind _ = _
    rw [hj, Option.bind_some, asInt_i, Option.bind_some]
    exact atI_map hk
  rw [dIx_ap, dS_ap, e]; rfl
end
theorem tst_of {d : DPv} {ρ : En} {b : Bool} (h : d ρ = some (.bool b)) : dTst d ρ = some b := by rw [dTst_ap, h]; rfl
theorem rooms_eq : ∀ l : List Step, (l.filter fun t => t.room.isSome).map (fun t => oI t.room) = (l.filterMap Step.room).map .int
  | [] => rfl
  | t :: l => by
    have ih := rooms_eq l
    cases hr : t.room with
    | none => rw [List.filter_cons_of_neg (by simp [hr]), List.filterMap_cons_none hr, ih]
    | some y => rw [List.filter_cons_of_pos (by simp [hr]), List.filterMap_cons_some hr, List.map_cons, List.map_cons, ih, hr]; rfl
theorem pushed_rest (W : N.WF) {f : List Int} (hf : f.length = N.arcs.length) {l : List Step} {u goal : Nat} (hst : ∀ t ∈ l, IsStep N t) (hc : Chain u l goal) : ((N.rest (push f l 1)).zip (N.rest f)).map (fun p => p.1 - p.2) = (List.range N.nodes.length).map fun v => one (v = goal) - one (v = u) := by
  have h1 := rest_length (N := N) (push f l 1)
  have h2 := rest_length (N := N) f
  apply List.ext_getElem
  · simp [h1, h2]
  · intro v hv hv2
    have hv3 : v < N.nodes.length := by simpa using hv2
    have := rest_push W (x := 1) v hf hst hc
    simp only [List.getElem_map, List.getElem_zip, List.getElem_range]
    have e1 : (N.rest (push f l 1)).getD v 0 = (N.rest (push f l 1))[v]'(by omega) := by rw [List.getD_eq_getElem?_getD, List.getElem?_eq_getElem (by omega)]; rfl
    have e2 : (N.rest f).getD v 0 = (N.rest f)[v]'(by omega) := by rw [List.getD_eq_getElem?_getD, List.getElem?_eq_getElem (by omega)]; rfl
    rw [e1, e2] at this
    omega
theorem goal_ok (W : N.WF) (hn : N.nodes.length ≤ 7) {f : List Int} (hf : f.length = N.arcs.length) {e0 : List PV} {mP clP mkP : PV} {starts : List Nat} {goal u : Nat} {r : Nat → Nat} {l : List Step}
    (hw : den_way_to [mP, .int (goal : Nat)] = some (.li (l.map encStep))) (H : Way (N.steps f) starts r goal u l) (hl : l.length ≤ 1000) :
    ∃ ρ', goalBody [.ox e0, .fz N.enc, .fz (encF f), .fz (.list ((N.steps f).map encStep)), .fz (.list (encN starts)), .fz mP, .fz clP, .fz mkP, .fz (.int (goal : Nat)), .un, .un, .un, .un, .un, .un, .un, .un, .un] = some (ρ', .nx) ∧
      fgE ρ' [8, 9, 10, 11, 12, 13] = [.ox e0, .fz N.enc, .fz (encF f), .fz (.list ((N.steps f).map encStep)), .fz (.list (encN starts)), .fz mP, .fz clP, .fz mkP, .un, .un, .un, .un, .un, .un, .un, .un, .un, .un] := by
  generalize hssP : PyData.list ((N.steps f).map encStep) = ssP
  let wP := PyData.list (l.map encStep)
  let E : Sl → Sl → Sl → Sl → Sl → En := fun a b c d k => [.ox e0, .fz N.enc, .fz (encF f), .fz ssP, .fz (.list (encN starts)), .fz mP, .fz clP, .fz mkP, .fz (.int (goal : Nat)), .fz wP, a, b, c, d, k, .un, .un, .un]
  have hst : ∀ t ∈ l, IsStep N t := fun t ht => isStep_of (H.mem t ht)
  unfold goalBody
  have s0 : (dAsg 9 (dFz (dCallL den_way_to (dCons (dVar 5) (dCons (dVar 8) dNil))))) [.ox e0, .fz N.enc, .fz (encF f), .fz ssP, .fz (.list (encN starts)), .fz mP, .fz clP, .fz mkP, .fz (.int (goal : Nat)), .un, .un, .un, .un, .un, .un, .un, .un, .un] = some (E .un .un .un .un .un, .nx) := by
    simp [hw, E, wP]
  rw [seq_nx s0]
  by_cases hnil : l = []
  · subst hnil
    exact ⟨_, rfl, by simp [E]⟩
  have hpos : 0 < l.length := List.length_pos_iff.mpr hnil
  have lenE : ∀ a b c d k, (dG gLen (dS (dVar 9))) (E a b c d k) = some (.int (l.length : Nat)) := fun a b c d k => by
    show some (PyData.int ((l.map encStep).length : Nat)) = _
    rw [List.length_map]
  have t0 : (dTst (dB pGt (dG gLen (dS (dVar 9))) (dC (.int 0)))) (E .un .un .un .un .un) = some true := by
    rw [dTst_ap, dB_of (lenE ..) rfl (pGt_int _ _)]
    show some (decide ((0 : Int) < (l.length : Nat))) = _
    rw [decide_eq_true (by omega)]
  obtain ⟨c1, c2, c3⟩ := chain_at H.ch
  obtain ⟨t0', ht0⟩ : ∃ t, l[0]? = some t := ⟨l[0], List.getElem?_eq_getElem hpos⟩
  obtain ⟨tl, htl⟩ : ∃ t, l[l.length - 1]? = some t := ⟨l[l.length - 1]'(by omega), List.getElem?_eq_getElem (by omega)⟩
  have first : ∀ a b c d k, (dIx (dS (dIx (dS (dVar 9)) (dC (.int 0)))) (dC (.int 0))) (E a b c d k) = some (.int (u : Nat)) := fun a b c d k => by
    rw [ix_i (l := l) (k := 0) rfl rfl ht0, c1 _ ht0]
  have A1 : (dTst (dInQ gNotIn (dIx (dS (dIx (dS (dVar 9)) (dC (.int 0)))) (dC (.int 0))) (dS (dVar 4)))) (E .un .un .un .un .un) = some false := by
    refine tst_of ?_
    rw [dInQ_ap, first]
    show gNotIn (.int (u : Nat)) (encN starts) = _
    rw [gNotIn_nat, decide_eq_true H.st]; rfl
  have A2 : (dTst (dB pNe (dIx (dS (dIx (dS (dVar 9)) (dB pSub (dG gLen (dS (dVar 9))) (dC (.int 1))))) (dC (.int 1))) (dVar 8))) (E .un .un .un .un .un) = some false := by
    refine tst_of ?_
    have hj : (dB pSub (dG gLen (dS (dVar 9))) (dC (.int 1))) (E .un .un .un .un .un) = some (.int ((l.length - 1 : Nat) : Int)) := by
      rw [dB_of (y := .int 1) (lenE ..) rfl (pII_int _ _ _)]
      show some (PyData.int ((l.length : Int) - 1)) = _
      rw [show ((l.length : Int) - 1) = ((l.length - 1 : Nat) : Int) by omega]
    have e1 := ix_j (ρ := E .un .un .un .un .un) (l := l) rfl hj htl
    rw [c2 _ htl] at e1
    exact dB_of e1 rfl (pNe_self (lay_int _ _))
  have A3 : (dTst (dB pGt (dG gLen (dComp (dRng2 (dC (.int 1)) (dG gLen (dS (dVar 9)))) (.nm 14) [14] (dTst (dB pNe (dIx (dS (dIx (dS (dVar 9)) (dVar 14))) (dC (.int 0))) (dIx (dS (dIx (dS (dVar 9)) (dB pSub (dVar 14) (dC (.int 1))))) (dC (.int 1))))) (dVar 14))) (dC (.int 0)))) (E .un .un .un .un .un) = some false := by
    refine tst_of ?_
    have q : (dRng2 (dC (.int 1)) (dG gLen (dS (dVar 9)))) (E .un .un .un .un .un) = some ((List.range' 1 (l.length - 1)).map fun (i : Nat) => PyData.int (i : Nat)) := by
      have hr := rng2_one (n := l.length) (Nat.lt_of_le_of_lt hl (by decide))
      generalize (l.length : Nat) = m at hr lenE ⊢
      rw [dRng2_ap, lenE, dC_ap, Option.bind_some, Option.bind_some]
      exact hr
    have w : wipeE (E .un .un .un .un .un) [14] = some (E .un .un .un .un .un) := rfl
    have hlim : Dn.lim ((List.range' 1 (l.length - 1)).map fun (i : Nat) => PyData.int (i : Nat)) = some ((List.range' 1 (l.length - 1)).map fun (i : Nat) => PyData.int (i : Nat)) := lim_ok (by simp; omega)
    have c := compD_map (t := .nm 14) (tt := dTst (dB pNe (dIx (dS (dIx (dS (dVar 9)) (dVar 14))) (dC (.int 0))) (dIx (dS (dIx (dS (dVar 9)) (dB pSub (dVar 14) (dC (.int 1))))) (dC (.int 1))))) (te := dVar 14) (ρ := E .un .un .un .un .un) (fun (i : Nat) => PyData.int (i : Nat)) (fun _ => false) (fun (i : Nat) => PyData.int (i : Nat)) (List.range' 1 (l.length - 1)) fun k hk => ⟨E .un .un .un .un (.fz (.int (k : Nat))), rfl, by
      have hk2 := List.mem_range'_1.mp hk
      obtain ⟨s1, h1⟩ : ∃ t, l[k - 1]? = some t := ⟨l[k - 1]'(by omega), List.getElem?_eq_getElem (by omega)⟩
      obtain ⟨s2, h2⟩ : ∃ t, l[k]? = some t := ⟨l[k]'(by omega), List.getElem?_eq_getElem (by omega)⟩
      have e1 := ix_i (ρ := E .un .un .un .un (.fz (.int (k : Nat)))) (l := l) (dj := dVar 14) rfl rfl h2
      have hj : (dB pSub (dVar 14) (dC (.int 1))) (E .un .un .un .un (.fz (.int (k : Nat)))) = some (.int ((k - 1 : Nat) : Int)) := by
        show some (PyData.int ((k : Int) - 1)) = _
        rw [show ((k : Int) - 1) = ((k - 1 : Nat) : Int) by omega]
      have e2 := ix_j (ρ := E .un .un .un .un (.fz (.int (k : Nat)))) (l := l) rfl hj h1
      rw [← c3 (k - 1) s1 s2 h1 (by rw [show k - 1 + 1 = k by omega]; exact h2)] at e2
      exact tst_of (dB_of e1 e2 (pNe_self (lay_int _ _))), fun h => by cases h⟩
    have c' : (dComp (dRng2 (dC (.int 1)) (dG gLen (dS (dVar 9)))) (.nm 14) [14] (dTst (dB pNe (dIx (dS (dIx (dS (dVar 9)) (dVar 14))) (dC (.int 0))) (dIx (dS (dIx (dS (dVar 9)) (dB pSub (dVar 14) (dC (.int 1))))) (dC (.int 1))))) (dVar 14)) (E .un .un .un .un .un) = some [] := by
      rw [dComp_ap, q, Option.bind_some, hlim, Option.bind_some, w, Option.bind_some, c]
      have hz : (List.range' 1 (l.length - 1)).filter (fun _ => false) = [] := List.filter_eq_nil_iff.mpr (by simp)
      rw [hz]; rfl
    refine dB_of (x := .int 0) (y := .int 0) ?_ rfl (pGt_int _ _)
    rw [dG_ap, c']; rfl
  have b1 : (dIfS (dOr (dTst (dInQ gNotIn (dIx (dS (dIx (dS (dVar 9)) (dC (.int 0)))) (dC (.int 0))) (dS (dVar 4)))) (dOr (dTst (dB pNe (dIx (dS (dIx (dS (dVar 9)) (dB pSub (dG gLen (dS (dVar 9))) (dC (.int 1))))) (dC (.int 1))) (dVar 8))) (dTst (dB pGt (dG gLen (dComp (dRng2 (dC (.int 1)) (dG gLen (dS (dVar 9)))) (.nm 14) [14] (dTst (dB pNe (dIx (dS (dIx (dS (dVar 9)) (dVar 14))) (dC (.int 0))) (dIx (dS (dIx (dS (dVar 9)) (dB pSub (dVar 14) (dC (.int 1))))) (dC (.int 1))))) (dVar 14))) (dC (.int 0)))))) (dRet (dC (.bool false))) dSkip) (E .un .un .un .un .un) = some (E .un .un .un .un .un, .nx) := by
    rw [dIfS_ap, dOr_ap, A1, Option.bind_some, if_neg (by simp), dOr_ap, A2, Option.bind_some, if_neg (by simp), A3]; rfl
  have hlimS : Dn.lim (l.map encStep) = some (l.map encStep) := lim_ok (by simp; omega)
  let rP := PyData.list ((l.filterMap Step.room).map .int)
  have b2 : (dAsg 10 (dFz (dComp (dS (dVar 9)) (.nm 15) [15] (dTst (dB pNotN (dIx (dS (dVar 15)) (dC (.int 4))) (dC .none))) (dIx (dS (dVar 15)) (dC (.int 4)))))) (E .un .un .un .un .un) = some (E (.fz rP) .un .un .un .un, .nx) := by
    have c := compD_map (t := .nm 15) (tt := dTst (dB pNotN (dIx (dS (dVar 15)) (dC (.int 4))) (dC .none))) (te := dIx (dS (dVar 15)) (dC (.int 4))) (ρ := E .un .un .un .un .un) encStep (fun t => t.room.isSome) (fun t => oI t.room) l fun t _ => ⟨[.ox e0, .fz N.enc, .fz (encF f), .fz ssP, .fz (.list (encN starts)), .fz mP, .fz clP, .fz mkP, .fz (.int (goal : Nat)), .fz wP, .un, .un, .un, .un, .un, .fz (encStep t), .un, .un], rfl, by
      cases hr : t.room <;> simp [encStep, hr, oI], fun _ => by simp [encStep]⟩
    rw [rooms_eq] at c
    have q : (dS (dVar 9)) (E .un .un .un .un .un) = some (l.map encStep) := rfl
    have w : wipeE (E .un .un .un .un .un) [15] = some (E .un .un .un .un .un) := rfl
    rw [dAsg_ap, dFz_ap, dComp_ap, q, Option.bind_some, hlimS, Option.bind_some, w, Option.bind_some, c]
    rfl
  have b3 : (dAsg 11 (dC .none)) (E (.fz rP) .un .un .un .un) = some (E (.fz rP) (.fz .none) .un .un .un, .nx) := rfl
  have b4 : (dIfS (dTst (dB pGt (dG gLen (dS (dVar 10))) (dC (.int 0)))) (dAsg 11 (dG gMin (dLs (dVar 10)))) dSkip) (E (.fz rP) (.fz .none) .un .un .un) = some (E (.fz rP) (.fz (oI (roomOf l))) .un .un .un, .nx) := by
    rw [room_min]
    simp only [rP]
    generalize l.filterMap Step.room = rs
    cases rs with
    | nil => rfl
    | cons x xs =>
      have t : (dTst (dB pGt (dG gLen (dS (dVar 10))) (dC (.int 0)))) (E (.fz (.list ((x :: xs).map .int))) (.fz .none) .un .un .un) = some true := by
        have : (dG gLen (dS (dVar 10))) (E (.fz (.list ((x :: xs).map .int))) (.fz .none) .un .un .un) = some (.int ((xs.length + 1 : Nat) : Int)) := by
          show some (PyData.int (((x :: xs).map PyData.int).length : Nat)) = _
          rw [List.length_map, List.length_cons]
        rw [dTst_ap, dB_of this rfl (pGt_int _ _)]
        show some (decide ((0 : Int) < (xs.length + 1 : Nat))) = _
        rw [decide_eq_true (by omega)]
      have g : (dG gMin (dLs (dVar 10))) (E (.fz (.list ((x :: xs).map .int))) (.fz .none) .un .un .un) = some (oI (x :: xs).min?) := by
        show gMin ((x :: xs).map .int) = _
        unfold gMin
        rw [intsP_map]
        rfl
      rw [dIfS_ap, t, Option.bind_some, if_pos rfl, dAsg_ap, g]
      rfl
  generalize hrm : Sl.fz (oI (roomOf l)) = rmS at b4
  have b5 : (dIfS (dOr (dTst (dB pNe (dCall den_room_along (dCons (dVar 9) dNil)) (dVar 11))) (dTst (dB pNe (dCall den_price_along (dCons (dVar 9) dNil)) (dG gSum (dComp (dS (dVar 9)) (.nm 15) [15] dYes (dIx (dS (dVar 15)) (dC (.int 5)))))))) (dRet (dC (.bool false))) dSkip) (E (.fz rP) rmS .un .un .un) = some (E (.fz rP) rmS .un .un .un, .nx) := by
    have p1 : (dCall den_room_along (dCons (dVar 9) dNil)) (E (.fz rP) rmS .un .un .un) = some (oI (roomOf l)) := by
      have := v_room_along l
      simp [E, wP, this]
    have p2 : (dCall den_price_along (dCons (dVar 9) dNil)) (E (.fz rP) rmS .un .un .un) = some (.int (l.map Step.pr).sum) := by
      have := v_price_along l hl
      simp [E, wP, this]
    have p3 : (dG gSum (dComp (dS (dVar 9)) (.nm 15) [15] dYes (dIx (dS (dVar 15)) (dC (.int 5))))) (E (.fz rP) rmS .un .un .un) = some (.int (l.map Step.pr).sum) := by
      have c := compD_all (t := .nm 15) (te := dIx (dS (dVar 15)) (dC (.int 5))) (ρ := E (.fz rP) rmS .un .un .un) encStep (fun t => PyData.int t.pr) l fun t _ => ⟨[.ox e0, .fz N.enc, .fz (encF f), .fz ssP, .fz (.list (encN starts)), .fz mP, .fz clP, .fz mkP, .fz (.int (goal : Nat)), .fz wP, .fz rP, rmS, .un, .un, .un, .fz (encStep t), .un, .un], rfl, rfl⟩
      have e : l.map (fun t => PyData.int t.pr) = (l.map Step.pr).map .int := by rw [List.map_map]; rfl
      rw [e] at c
      have q : (dS (dVar 9)) (E (.fz rP) rmS .un .un .un) = some (l.map encStep) := rfl
      have w : wipeE (E (.fz rP) rmS .un .un .un) [15] = some (E (.fz rP) rmS .un .un .un) := rfl
      rw [dG_ap, dComp_ap, q, Option.bind_some, hlimS, Option.bind_some, w, Option.bind_some, c, Option.bind_some, gSum_ints]
    have p4 : (dVar 11) (E (.fz rP) rmS .un .un .un) = some (oI (roomOf l)) := by subst hrm; rfl
    have q1 := tst_of (dB_of p1 p4 (pNe_self (lay_oI _ _)))
    have q2 := tst_of (dB_of p2 p3 (pNe_self (lay_int _ _)))
    rw [dIfS_ap, dOr_ap, q1, Option.bind_some, if_neg (by simp), q2]; rfl
  have b6 : (dAsg 12 (dCall den_pushed (dCons (dVar 2) (dCons (dVar 9) (dCons (dC (.int 1)) dNil))))) (E (.fz rP) rmS .un .un .un) = some (E (.fz rP) rmS (.fz (encF (push f l 1))) .un .un, .nx) := by
    have := v_pushed f l 1 fun t ht => by
      have h := hst t ht
      refine ⟨by rw [hf]; exact h.lt, ?_⟩
      obtain ⟨a, _, h⟩ := h
      rcases h with h | h
      · exact .inl h.2.2
      · exact .inr h.2.2
    simp [E, wP, this]
  generalize hgv : (List.range N.nodes.length).map (fun v => one (v = goal) - one (v = u)) = gv
  have hgl : gv.length = N.nodes.length := by rw [← hgv]; simp
  have b7 : (dAsg 13 (dFz (dComp (dZip (dS (dFz (dCallL den_law_rest (dCons (dVar 1) (dCons (dVar 12) dNil))))) (dS (dFz (dCallL den_law_rest (dCons (dVar 1) (dCons (dVar 2) dNil)))))) (.tp [(.nm 16), (.nm 17)]) [16, 17] dYes (dB pSub (dVar 16) (dVar 17))))) (E (.fz rP) rmS (.fz (encF (push f l 1))) .un .un) = some (E (.fz rP) rmS (.fz (encF (push f l 1))) (.fz (.list (gv.map .int))) .un, .nx) := by
    have r1 := v_law_rest W (push f l 1) (by rw [push_length]; exact hf)
    have r2 := v_law_rest W f hf
    have q1 : (dS (dFz (dCallL den_law_rest (dCons (dVar 1) (dCons (dVar 12) dNil))))) (E (.fz rP) rmS (.fz (encF (push f l 1))) .un .un) = some ((N.rest (push f l 1)).map .int) := by simp [E, r1]
    have q2 : (dS (dFz (dCallL den_law_rest (dCons (dVar 1) (dCons (dVar 2) dNil))))) (E (.fz rP) rmS (.fz (encF (push f l 1))) .un .un) = some ((N.rest f).map .int) := by simp [E, r2]
    have c := compD_all (t := .tp [.nm 16, .nm 17]) (te := dB pSub (dVar 16) (dVar 17)) (ρ := E (.fz rP) rmS (.fz (encF (push f l 1))) .un .un) (fun p : Int × Int => PyData.tuple [.int p.1, .int p.2]) (fun p => PyData.int (p.1 - p.2)) ((N.rest (push f l 1)).zip (N.rest f)) fun p _ => ⟨[.ox e0, .fz N.enc, .fz (encF f), .fz ssP, .fz (.list (encN starts)), .fz mP, .fz clP, .fz mkP, .fz (.int (goal : Nat)), .fz wP, .fz rP, rmS, .fz (encF (push f l 1)), .un, .un, .un, .fz (.int p.1), .fz (.int p.2)], rfl, rfl⟩
    have e : ((N.rest (push f l 1)).zip (N.rest f)).map (fun p => PyData.int (p.1 - p.2)) = gv.map .int := by
      rw [← hgv, ← pushed_rest W hf hst H.ch, List.map_map]; rfl
    rw [e] at c
    have hz := zipP_map PyData.int PyData.int (N.rest (push f l 1)) (N.rest f)
    have hlz : Dn.lim (((N.rest (push f l 1)).zip (N.rest f)).map fun p : Int × Int => PyData.tuple [.int p.1, .int p.2]) = some (((N.rest (push f l 1)).zip (N.rest f)).map fun p : Int × Int => PyData.tuple [.int p.1, .int p.2]) := lim_ok (by
      rw [List.length_map, List.length_zip, rest_length, rest_length]; omega)
    have w : wipeE (E (.fz rP) rmS (.fz (encF (push f l 1))) .un .un) [16, 17] = some (E (.fz rP) rmS (.fz (encF (push f l 1))) .un .un) := rfl
    rw [dAsg_ap, dFz_ap, dComp_ap, dZip_ap, q1, Option.bind_some, q2, Option.map_some, hz, Option.bind_some, hlz, Option.bind_some, w, Option.bind_some, c]
    rfl
  have b8 : (dIfS (dTst (dB pNe (dVar 13) (dFz (dComp (dRng1 (dG gLen (dS (dVar 13)))) (.nm 14) [14] dYes (dB pSub (dG gInt (dCons (dB pEq (dVar 14) (dVar 8)) dNil)) (dG gInt (dCons (dB pEq (dVar 14) (dIx (dS (dIx (dS (dVar 9)) (dC (.int 0)))) (dC (.int 0)))) dNil))))))) (dRet (dC (.bool false))) dSkip) (E (.fz rP) rmS (.fz (encF (push f l 1))) (.fz (.list (gv.map .int))) .un) = some (E (.fz rP) rmS (.fz (encF (push f l 1))) (.fz (.list (gv.map .int))) .un, .nx) := by
    have lenG : (dG gLen (dS (dVar 13))) (E (.fz rP) rmS (.fz (encF (push f l 1))) (.fz (.list (gv.map .int))) .un) = some (.int (N.nodes.length : Nat)) := by
      show some (PyData.int ((gv.map PyData.int).length : Nat)) = _
      rw [List.length_map, hgl]
    have q : (dRng1 (dG gLen (dS (dVar 13)))) (E (.fz rP) rmS (.fz (encF (push f l 1))) (.fz (.list (gv.map .int))) .un) = some ((List.range N.nodes.length).map fun (i : Nat) => PyData.int (i : Nat)) := by
      rw [dRng1_ap, lenG, Option.bind_some, rng1_nat (Nat.lt_of_le_of_lt hn (by decide))]
    have hlr : Dn.lim ((List.range N.nodes.length).map fun (i : Nat) => PyData.int (i : Nat)) = some ((List.range N.nodes.length).map fun (i : Nat) => PyData.int (i : Nat)) := lim_ok (by rw [List.length_map, List.length_range]; omega)
    have w : wipeE (E (.fz rP) rmS (.fz (encF (push f l 1))) (.fz (.list (gv.map .int))) .un) [14] = some (E (.fz rP) rmS (.fz (encF (push f l 1))) (.fz (.list (gv.map .int))) .un) := rfl
    have gi : ∀ a b : Nat, (PyData.int (if ((a : Int) == (b : Int)) = true then 1 else 0)) = PyData.int (one (a = b)) := fun a b => by
      unfold one
      by_cases h : a = b
      · subst h; simp
      · have : ((a : Int) == (b : Int)) = false := by simp; omega
        rw [this, if_neg h]; rfl
    have c := compD_all (t := .nm 14) (te := dB pSub (dG gInt (dCons (dB pEq (dVar 14) (dVar 8)) dNil)) (dG gInt (dCons (dB pEq (dVar 14) (dIx (dS (dIx (dS (dVar 9)) (dC (.int 0)))) (dC (.int 0)))) dNil))) (ρ := E (.fz rP) rmS (.fz (encF (push f l 1))) (.fz (.list (gv.map .int))) .un) (fun (i : Nat) => PyData.int (i : Nat)) (fun v => PyData.int (one (v = goal) - one (v = u))) (List.range N.nodes.length) fun v _ => ⟨E (.fz rP) rmS (.fz (encF (push f l 1))) (.fz (.list (gv.map .int))) (.fz (.int (v : Nat))), rfl, by
      have x1 : (dB pEq (dVar 14) (dVar 8)) (E (.fz rP) rmS (.fz (encF (push f l 1))) (.fz (.list (gv.map .int))) (.fz (.int (v : Nat)))) = some (.bool ((v : Int) == (goal : Int))) := dB_of rfl rfl (pEq_int _ _)
      have x2 : (dB pEq (dVar 14) (dIx (dS (dIx (dS (dVar 9)) (dC (.int 0)))) (dC (.int 0)))) (E (.fz rP) rmS (.fz (encF (push f l 1))) (.fz (.list (gv.map .int))) (.fz (.int (v : Nat)))) = some (.bool ((v : Int) == (u : Int))) := dB_of rfl (first ..) (pEq_int _ _)
      have y1 : (dG gInt (dCons (dB pEq (dVar 14) (dVar 8)) dNil)) (E (.fz rP) rmS (.fz (encF (push f l 1))) (.fz (.list (gv.map .int))) (.fz (.int (v : Nat)))) = some (.int (one (v = goal))) := by
        rw [dG_ap, dCons_ap, x1, ← gi]; rfl
      have y2 : (dG gInt (dCons (dB pEq (dVar 14) (dIx (dS (dIx (dS (dVar 9)) (dC (.int 0)))) (dC (.int 0)))) dNil)) (E (.fz rP) rmS (.fz (encF (push f l 1))) (.fz (.list (gv.map .int))) (.fz (.int (v : Nat)))) = some (.int (one (v = u))) := by
        rw [dG_ap, dCons_ap, x2, ← gi]; rfl
      exact dB_of y1 y2 (pII_int _ _ _)⟩
    have e : (List.range N.nodes.length).map (fun v => PyData.int (one (v = goal) - one (v = u))) = gv.map .int := by rw [← hgv, List.map_map]; rfl
    rw [e] at c
    have z : (dFz (dComp (dRng1 (dG gLen (dS (dVar 13)))) (.nm 14) [14] dYes (dB pSub (dG gInt (dCons (dB pEq (dVar 14) (dVar 8)) dNil)) (dG gInt (dCons (dB pEq (dVar 14) (dIx (dS (dIx (dS (dVar 9)) (dC (.int 0)))) (dC (.int 0)))) dNil))))) (E (.fz rP) rmS (.fz (encF (push f l 1))) (.fz (.list (gv.map .int))) .un) = some (.list (gv.map .int)) := by
      rw [dFz_ap, dComp_ap, q, Option.bind_some, hlr, Option.bind_some, w, Option.bind_some, c]; rfl
    have := tst_of (dB_of (da := dVar 13) (x := .list (gv.map .int)) (ρ := E (.fz rP) rmS (.fz (encF (push f l 1))) (.fz (.list (gv.map .int))) .un) rfl z (pNe_self ((lay_ints gv).mono (by omega))))
    rw [dIfS_ap, this]; rfl
  refine ⟨E (.fz rP) rmS (.fz (encF (push f l 1))) (.fz (.list (gv.map .int))) .un, ?_, ?_⟩
  · rw [dIfS_ap, t0, Option.bind_some, if_pos rfl, seq_nx b1, seq_nx b2, seq_nx b3, seq_nx b4, seq_nx b5, seq_nx b6, seq_nx b7, b8]
  · subst hrm
    simp [E]
end K04
end
section
set_option linter.all false
set_option maxRecDepth 100000
set_option maxHeartbeats 1000000
namespace K04
open PySem PySem.Spec L2 Dn
variable {N : Net}
/-- a draw state that is good -/
def OkD := { s : Dst // s.Ok }
theorem v_law_walks_hold (G : N.Nice) (s : Dst) (hs : s.Ok) : ∃ s', den_law_walks_hold s.enc [N.enc] = some (.bool true, Dst.enc s') := by
  have W := G.wf
  have hn := G.four
  have l1 : N.enc = .tuple [.str "net", .tuple (N.nodes.map encNode), .tuple (N.arcs.map N.encArc)] := rfl
  obtain ⟨f, s1, h1, I, ho1⟩ := v_law_inside G s hs
  let ss := N.steps f
  have hend : ∀ t ∈ ss, t.i < N.nodes.length ∧ t.j < N.nodes.length := fun t ht => steps_ends W ht
  let ssP := PyData.list (ss.map encStep)
  let B : List PV → Sl → Sl → Sl → Sl → Sl → Sl → Sl → En := fun e0 a b c d e x y => [.ox e0, .fz N.enc, .fz (encF f), a, b, c, d, e, .un, .un, .un, .un, .un, .un, x, y, .un, .un]
  have b1 : (eAsg 2 (eCall 0 den_law_inside (dCons (dVar 1) dNil))) [.ox s.enc, .fz N.enc, .un, .un, .un, .un, .un, .un, .un, .un, .un, .un, .un, .un, .un, .un, .un, .un] = some (B s1.enc .un .un .un .un .un .un .un, .nx) := by
    simp [h1, B]
  have b2 : (dAsg 3 (dFz (dCallL den_law_steps (dCons (dVar 1) (dCons (dVar 2) dNil))))) (B s1.enc .un .un .un .un .un .un .un) = some (B s1.enc (.fz ssP) .un .un .un .un .un .un, .nx) := by
    have := v_law_steps W f I.len
    simp [B, this, ssP, ss]
  have few2 := steps_few W f
  have lenN : ∀ e0 a b c d e x y, (dG gLen (dS (dIx (dS (dVar 1)) (dC (.int 1))))) (B e0 a b c d e x y) = some (.int (N.nodes.length : Nat)) := fun e0 a b c d e x y => by
    show some (PyData.int ((N.nodes.map encNode).length : Nat)) = _
    rw [List.length_map]
  have rngN : ∀ e0 a b c d e x y, (dRng1 (dG gLen (dS (dIx (dS (dVar 1)) (dC (.int 1)))))) (B e0 a b c d e x y) = some ((List.range N.nodes.length).map fun (i : Nat) => PyData.int (i : Nat)) := fun e0 a b c d e x y => by
    rw [dRng1_ap, lenN, Option.bind_some, rng1_nat (Nat.lt_of_le_of_lt hn (by decide))]
  have limN : Dn.lim ((List.range N.nodes.length).map fun (i : Nat) => PyData.int (i : Nat)) = some ((List.range N.nodes.length).map fun (i : Nat) => PyData.int (i : Nat)) := lim_ok (by rw [List.length_map, List.length_range]; omega)
  have limS : Dn.lim (ss.map encStep) = some (ss.map encStep) := lim_ok (by rw [List.length_map]; exact Nat.le_trans few2 (by decide))
  have b3 : (dIfS (dOr (dTst (dB pNe (dFz (dCallL den_steps_of (dCons (dVar 1) (dCons (dVar 2) dNil)))) (dVar 3))) (dTst (dB pNe (dFz (dCallL den_steps_by_start (dCons (dVar 1) (dCons (dVar 2) dNil)))) (dFz (dComp (dRng1 (dG gLen (dS (dIx (dS (dVar 1)) (dC (.int 1)))))) (.nm 14) [14] dYes (dFz (dComp (dS (dVar 3)) (.nm 15) [15] (dTst (dB pEq (dIx (dS (dVar 15)) (dC (.int 0))) (dVar 14))) (dVar 15)))))))) (dRet (dC (.bool false))) dSkip) (B s1.enc (.fz ssP) .un .un .un .un .un .un) = some (B s1.enc (.fz ssP) .un .un .un .un .un .un, .nx) := by
    have a1 : (dFz (dCallL den_steps_of (dCons (dVar 1) (dCons (dVar 2) dNil)))) (B s1.enc (.fz ssP) .un .un .un .un .un .un) = some ssP := by
      have := v_steps_of W f I.len
      simp [B, this, ssP, ss]
    have t1 := tst_of (dB_of (db := dVar 3) (ρ := B s1.enc (.fz ssP) .un .un .un .un .un .un) a1 rfl (pNe_self ((lay_steps ss).mono (by omega))))
    let gP := PyData.list ((grp Step.i encStep N.nodes.length ss).map .list)
    have a2 : (dFz (dCallL den_steps_by_start (dCons (dVar 1) (dCons (dVar 2) dNil)))) (B s1.enc (.fz ssP) .un .un .un .un .un .un) = some gP := by
      have := v_steps_by_start W f I.len
      simp [B, this, gP, ss]
    have c2 : ∀ v : Nat, (dFz (dComp (dS (dVar 3)) (.nm 15) [15] (dTst (dB pEq (dIx (dS (dVar 15)) (dC (.int 0))) (dVar 14))) (dVar 15))) (B s1.enc (.fz ssP) .un .un .un .un (.fz (.int (v : Nat))) .un) = some (.list ((ss.filter fun t => t.i == v).map encStep)) := fun v => by
      have c := compD_map (t := .nm 15) (tt := dTst (dB pEq (dIx (dS (dVar 15)) (dC (.int 0))) (dVar 14))) (te := dVar 15) (ρ := B s1.enc (.fz ssP) .un .un .un .un (.fz (.int (v : Nat))) .un) encStep (fun t => t.i == v) encStep ss fun t _ => ⟨B s1.enc (.fz ssP) .un .un .un .un (.fz (.int (v : Nat))) (.fz (encStep t)), rfl, by
        refine tst_of (dB_of (x := .int (t.i : Nat)) (y := .int (v : Nat)) rfl rfl ?_)
        rw [pEq_int]
        congr 2
        rw [Bool.eq_iff_iff, beq_iff_eq, beq_iff_eq]
        omega, fun _ => rfl⟩
      have q : (dS (dVar 3)) (B s1.enc (.fz ssP) .un .un .un .un (.fz (.int (v : Nat))) .un) = some (ss.map encStep) := rfl
      have w : wipeE (B s1.enc (.fz ssP) .un .un .un .un (.fz (.int (v : Nat))) .un) [15] = some (B s1.enc (.fz ssP) .un .un .un .un (.fz (.int (v : Nat))) .un) := rfl
      rw [dFz_ap, dComp_ap, q, Option.bind_some, limS, Option.bind_some, w, Option.bind_some, c]; rfl
    have c3 := compD_all (t := .nm 14) (te := (dFz (dComp (dS (dVar 3)) (.nm 15) [15] (dTst (dB pEq (dIx (dS (dVar 15)) (dC (.int 0))) (dVar 14))) (dVar 15)))) (ρ := B s1.enc (.fz ssP) .un .un .un .un .un .un) (fun (i : Nat) => PyData.int (i : Nat)) (fun (v : Nat) => PyData.list ((ss.filter fun t : Step => t.i == v).map encStep)) (List.range N.nodes.length) fun v _ => ⟨B s1.enc (.fz ssP) .un .un .un .un (.fz (.int (v : Nat))) .un, rfl, c2 v⟩
    have e3 : (List.range N.nodes.length).map (fun v => PyData.list ((ss.filter fun t => t.i == v).map encStep)) = (grp Step.i encStep N.nodes.length ss).map .list := by
      unfold grp; rw [List.map_map]; rfl
    rw [e3] at c3
    have a3 : (dFz (dComp (dRng1 (dG gLen (dS (dIx (dS (dVar 1)) (dC (.int 1)))))) (.nm 14) [14] dYes (dFz (dComp (dS (dVar 3)) (.nm 15) [15] (dTst (dB pEq (dIx (dS (dVar 15)) (dC (.int 0))) (dVar 14))) (dVar 15))))) (B s1.enc (.fz ssP) .un .un .un .un .un .un) = some gP := by
      have w : wipeE (B s1.enc (.fz ssP) .un .un .un .un .un .un) [14] = some (B s1.enc (.fz ssP) .un .un .un .un .un .un) := rfl
      rw [dFz_ap, dComp_ap, rngN, Option.bind_some, limN, Option.bind_some, w, Option.bind_some, c3]; rfl
    have lg : Lay 60 gP := (lay_list (d := 2) fun x hx => by
      obtain ⟨y, hy, rfl⟩ := List.mem_map.mp hx
      obtain ⟨v, _, rfl⟩ := List.mem_map.mp hy
      exact lay_steps _).mono (by omega)
    have t2 := tst_of (dB_of a2 a3 (pNe_self lg))
    rw [dIfS_ap, dOr_ap, t1, Option.bind_some, if_neg (by simp), t2]; rfl
  -- the starts
  obtain ⟨starts, s2, hsub, ho2, b4⟩ : ∃ (starts : List Nat) (s2 : Dst), starts.Sublist (List.range N.nodes.length) ∧ s2.Ok ∧ (eAsg 4 (eFz (eComp (dRng1 (dG gLen (dS (dIx (dS (dVar 1)) (dC (.int 1)))))) (.nm 14) [14] (eTst (eB pEq (eCall 0 den_law_draw (dCons (dC (.int 3)) dNil)) (ePure (dC (.int 0))))) (ePure (dVar 14))))) (B s1.enc (.fz ssP) .un .un .un .un .un .un) = some (B s2.enc (.fz ssP) (.fz (.list (encN starts))) .un .un .un .un .un, .nx) := by
    obtain ⟨r, s2, e, hR⟩ := compE_run (t := .nm 14) (vs := [14]) (tt := (eTst (eB pEq (eCall 0 den_law_draw (dCons (dC (.int 3)) dNil)) (ePure (dC (.int 0)))))) (te := ePure (dVar 14)) (fun (i : Nat) => PyData.int (i : Nat)) (fun s : OkD => B s.1.enc (.fz ssP) .un .un .un .un .un .un) (fun _ l r _ => ∃ m : List Nat, m.Sublist l ∧ r = encN m) (fun s => ⟨[], List.Sublist.refl _, rfl⟩) (fun s a l => by
      obtain ⟨d, s', hd, _, _, ho⟩ := v_law_draw s.1 s.2 3 (by omega) (by omega)
      refine ⟨B s.1.enc (.fz ssP) .un .un .un .un (.fz (.int (a : Nat))) .un, d == 0, B s'.enc (.fz ssP) .un .un .un .un (.fz (.int (a : Nat))) .un, rfl, ?_, fun _ => ⟨⟨s', ho⟩, by simp [B], fun r s2 ⟨m, h1, h2⟩ => ⟨m, h1.cons a, h2⟩⟩, fun _ => ⟨.int (a : Nat), B s'.enc (.fz ssP) .un .un .un .un (.fz (.int (a : Nat))) .un, ⟨s', ho⟩, rfl, by simp [B], fun r s2 ⟨m, h1, h2⟩ => ⟨a :: m, h1.cons_cons a, by rw [h2]; rfl⟩⟩⟩
      simp [B, hd, pEq_int]) (List.range N.nodes.length) ⟨s1, ho1⟩
    obtain ⟨m, hm, rfl⟩ := hR
    refine ⟨m, s2.1, hm, s2.2, ?_⟩
    have un : ([14].all (isUn (B s1.enc (.fz ssP) .un .un .un .un .un .un))) = true := rfl
    rw [eAsg_ap, eFz_ap, eComp_ap, rngN, Option.bind_some, limN, Option.bind_some, if_pos un, e]
    rfl
  have nd : starts.Nodup := List.Nodup.sublist hsub List.nodup_range
  have lt : ∀ v ∈ starts, v < N.nodes.length := fun v hv => List.mem_range.mp (hsub.subset hv)
  let stP := PyData.list (encN starts)
  obtain ⟨M, hM, HM⟩ := v_reached_from W f I.len starts nd lt
  obtain ⟨K, hK, HK⟩ := v_reaching W f I.len starts nd lt
  let mP := PyData.list (M.map encM)
  let kP := PyData.list (K.map encB)
  let pM : Nat → Bool := fun v => (M.getD v none).isSome
  let pK : Nat → Bool := fun v => (K.getD v none).isSome
  let cP := PyData.list (encN (upto N.nodes.length pM))
  have b5 : (dAsg 5 (dFz (dCallL den_reached_from (dCons (dVar 1) (dCons (dVar 2) (dCons (dFz (dGl some (dS (dVar 4)))) dNil)))))) (B s2.enc (.fz ssP) (.fz stP) .un .un .un .un .un) = some (B s2.enc (.fz ssP) (.fz stP) (.fz mP) .un .un .un .un, .nx) := by
    have hM' : den_reached_from [N.enc, encF f, stP] = some (.li (M.map encM)) := hM
    have hq : (dFz (dGl some (dS (dVar 4)))) (B s2.enc (.fz ssP) (.fz stP) .un .un .un .un .un) = some stP := rfl
    rw [dAsg_ap, dFz_ap, dCallL_ap, dCons_ap, dCons_ap, dCons_ap, hq]
    show (((den_reached_from [N.enc, encF f, stP]).bind Res.ls).map PyData.list).bind _ = _
    rw [hM']; rfl
  have cl := v_law_close ss starts false N.nodes.length (by omega) nd lt hend pM (fun v hv => by
    rw [dirs_f, ← HM.rch v hv]
    simp only [pM, Option.isSome_iff_ne_none])
  have ck := v_law_close ss starts true N.nodes.length (by omega) nd lt hend pK (fun v hv => by
    rw [dirs_t, ← HK.rch v hv]
    simp only [pK, Option.isSome_iff_ne_none])
  have b6 : (dAsg 6 (dFz (dCallL den_law_close (dCons (dVar 3) (dCons (dVar 4) (dCons (dC (.bool false)) dNil)))))) (B s2.enc (.fz ssP) (.fz stP) (.fz mP) .un .un .un .un) = some (B s2.enc (.fz ssP) (.fz stP) (.fz mP) (.fz cP) .un .un .un, .nx) := by
    show (((den_law_close [ssP, stP, .bool false]).bind Res.ls).map PyData.list).bind _ = _
    rw [cl]; rfl
  have b7 : (dIfS (dOr (dTst (dB pNe (dFz (dComp (dRng1 (dG gLen (dS (dVar 5)))) (.nm 14) [14] (dTst (dB pNotN (dIx (dS (dVar 5)) (dVar 14)) (dC .none))) (dVar 14))) (dVar 6))) (dTst (dB pNe (dFz (dComp (dRng1 (dG gLen (dS (dVar 5)))) (.nm 14) [14] (dTst (dB pIsB (dIx (dS (dVar 5)) (dVar 14)) (dC (.bool true)))) (dVar 14))) (dVar 4)))) (dRet (dC (.bool false))) dSkip) (B s2.enc (.fz ssP) (.fz stP) (.fz mP) (.fz cP) .un .un .un) = some (B s2.enc (.fz ssP) (.fz stP) (.fz mP) (.fz cP) .un .un .un, .nx) := by
    have rg : (dRng1 (dG gLen (dS (dVar 5)))) (B s2.enc (.fz ssP) (.fz stP) (.fz mP) (.fz cP) .un .un .un) = some ((List.range N.nodes.length).map fun (i : Nat) => PyData.int (i : Nat)) := by
      have e : (dG gLen (dS (dVar 5))) (B s2.enc (.fz ssP) (.fz stP) (.fz mP) (.fz cP) .un .un .un) = some (.int (N.nodes.length : Nat)) := by
        show some (PyData.int ((M.map encM).length : Nat)) = _
        rw [List.length_map, HM.len]
      rw [dRng1_ap, e, Option.bind_some, rng1_nat (Nat.lt_of_le_of_lt hn (by decide))]
    have ix : ∀ v, v < N.nodes.length → (dIx (dS (dVar 5)) (dVar 14)) (B s2.enc (.fz ssP) (.fz stP) (.fz mP) (.fz cP) .un (.fz (.int (v : Nat))) .un) = some (encM (M.getD v none)) := fun v hv => atM (by rw [HM.len]; exact hv)
    have w : wipeE (B s2.enc (.fz ssP) (.fz stP) (.fz mP) (.fz cP) .un .un .un) [14] = some (B s2.enc (.fz ssP) (.fz stP) (.fz mP) (.fz cP) .un .un .un) := rfl
    have c1 := comp_upto (n := N.nodes.length) (t := .nm 14) (tt := dTst (dB pNotN (dIx (dS (dVar 5)) (dVar 14)) (dC .none))) (te := dVar 14) (ρ := B s2.enc (.fz ssP) (.fz stP) (.fz mP) (.fz cP) .un .un .un) pM fun v hv => ⟨B s2.enc (.fz ssP) (.fz stP) (.fz mP) (.fz cP) .un (.fz (.int (v : Nat))) .un, rfl, tst_of (dB_of (ix v hv) rfl (by
      rw [pNotN_ap, isN_encM]
      simp only [pM]
      cases M.getD v none <;> rfl)), rfl⟩
    have c2 := comp_upto (n := N.nodes.length) (t := .nm 14) (tt := dTst (dB pIsB (dIx (dS (dVar 5)) (dVar 14)) (dC (.bool true)))) (te := dVar 14) (ρ := B s2.enc (.fz ssP) (.fz stP) (.fz mP) (.fz cP) .un .un .un) (fun v => decide (v ∈ starts)) fun v hv => ⟨B s2.enc (.fz ssP) (.fz stP) (.fz mP) (.fz cP) .un (.fz (.int (v : Nat))) .un, rfl, tst_of (dB_of (ix v hv) rfl (by
      have e : isBp true (encM (M.getD v none)) = decide (v ∈ starts) := by
        have := HM.st v hv
        rw [Bool.eq_iff_iff, decide_eq_true_iff, ← this]
        cases hx : M.getD v none with
        | none => simp [encM]
        | some y => cases y <;> simp [encM, encStep]
      rw [pIsB_ap, e])), rfl⟩
    rw [upto_sub hsub] at c2
    have a1 : (dFz (dComp (dRng1 (dG gLen (dS (dVar 5)))) (.nm 14) [14] (dTst (dB pNotN (dIx (dS (dVar 5)) (dVar 14)) (dC .none))) (dVar 14))) (B s2.enc (.fz ssP) (.fz stP) (.fz mP) (.fz cP) .un .un .un) = some cP := by
      rw [dFz_ap, dComp_ap, rg, Option.bind_some, limN, Option.bind_some, w, Option.bind_some, c1]; rfl
    have a2 : (dFz (dComp (dRng1 (dG gLen (dS (dVar 5)))) (.nm 14) [14] (dTst (dB pIsB (dIx (dS (dVar 5)) (dVar 14)) (dC (.bool true)))) (dVar 14))) (B s2.enc (.fz ssP) (.fz stP) (.fz mP) (.fz cP) .un .un .un) = some stP := by
      rw [dFz_ap, dComp_ap, rg, Option.bind_some, limN, Option.bind_some, w, Option.bind_some, c2]; rfl
    have t1 := tst_of (dB_of (db := dVar 6) a1 rfl (pNe_self ((lay_nats (upto N.nodes.length pM)).mono (by omega))))
    have t2 := tst_of (dB_of (db := dVar 4) a2 rfl (pNe_self ((lay_nats starts).mono (by omega))))
    rw [dIfS_ap, dOr_ap, t1, Option.bind_some, if_neg (by simp), t2]; rfl
  have b8 : (dAsg 7 (dFz (dCallL den_reaching (dCons (dVar 1) (dCons (dVar 2) (dCons (dFz (dGl some (dS (dVar 4)))) dNil)))))) (B s2.enc (.fz ssP) (.fz stP) (.fz mP) (.fz cP) .un .un .un) = some (B s2.enc (.fz ssP) (.fz stP) (.fz mP) (.fz cP) (.fz kP) .un .un, .nx) := by
    have hK' : den_reaching [N.enc, encF f, stP] = some (.li (K.map encB)) := hK
    have hq : (dFz (dGl some (dS (dVar 4)))) (B s2.enc (.fz ssP) (.fz stP) (.fz mP) (.fz cP) .un .un .un) = some stP := rfl
    rw [dAsg_ap, dFz_ap, dCallL_ap, dCons_ap, dCons_ap, dCons_ap, hq]
    show (((den_reaching [N.enc, encF f, stP]).bind Res.ls).map PyData.list).bind _ = _
    rw [hK']; rfl
  have b9 : (dIfS (dTst (dB pNe (dFz (dComp (dRng1 (dG gLen (dS (dVar 7)))) (.nm 14) [14] (dTru (dIx (dS (dVar 7)) (dVar 14))) (dVar 14))) (dFz (dCallL den_law_close (dCons (dVar 3) (dCons (dVar 4) (dCons (dC (.bool true)) dNil))))))) (dRet (dC (.bool false))) dSkip) (B s2.enc (.fz ssP) (.fz stP) (.fz mP) (.fz cP) (.fz kP) .un .un) = some (B s2.enc (.fz ssP) (.fz stP) (.fz mP) (.fz cP) (.fz kP) .un .un, .nx) := by
    have rg : (dRng1 (dG gLen (dS (dVar 7)))) (B s2.enc (.fz ssP) (.fz stP) (.fz mP) (.fz cP) (.fz kP) .un .un) = some ((List.range N.nodes.length).map fun (i : Nat) => PyData.int (i : Nat)) := by
      have e : (dG gLen (dS (dVar 7))) (B s2.enc (.fz ssP) (.fz stP) (.fz mP) (.fz cP) (.fz kP) .un .un) = some (.int (N.nodes.length : Nat)) := by
        show some (PyData.int ((K.map encB).length : Nat)) = _
        rw [List.length_map, HK.len]
      rw [dRng1_ap, e, Option.bind_some, rng1_nat (Nat.lt_of_le_of_lt hn (by decide))]
    have ix : ∀ v, v < N.nodes.length → (dIx (dS (dVar 7)) (dVar 14)) (B s2.enc (.fz ssP) (.fz stP) (.fz mP) (.fz cP) (.fz kP) (.fz (.int (v : Nat))) .un) = some (encB (K.getD v none)) := fun v hv => atB (by rw [HK.len]; exact hv)
    have w : wipeE (B s2.enc (.fz ssP) (.fz stP) (.fz mP) (.fz cP) (.fz kP) .un .un) [14] = some (B s2.enc (.fz ssP) (.fz stP) (.fz mP) (.fz cP) (.fz kP) .un .un) := rfl
    have c1 := comp_upto (n := N.nodes.length) (t := .nm 14) (tt := dTru (dIx (dS (dVar 7)) (dVar 14))) (te := dVar 14) (ρ := B s2.enc (.fz ssP) (.fz stP) (.fz mP) (.fz cP) (.fz kP) .un .un) pK fun v hv => ⟨B s2.enc (.fz ssP) (.fz stP) (.fz mP) (.fz cP) (.fz kP) (.fz (.int (v : Nat))) .un, rfl, by
      rw [dTru_ap, ix v hv]; rfl, rfl⟩
    have a1 : (dFz (dComp (dRng1 (dG gLen (dS (dVar 7)))) (.nm 14) [14] (dTru (dIx (dS (dVar 7)) (dVar 14))) (dVar 14))) (B s2.enc (.fz ssP) (.fz stP) (.fz mP) (.fz cP) (.fz kP) .un .un) = some (.list (encN (upto N.nodes.length pK))) := by
      rw [dFz_ap, dComp_ap, rg, Option.bind_some, limN, Option.bind_some, w, Option.bind_some, c1]; rfl
    have a2 : (dFz (dCallL den_law_close (dCons (dVar 3) (dCons (dVar 4) (dCons (dC (.bool true)) dNil))))) (B s2.enc (.fz ssP) (.fz stP) (.fz mP) (.fz cP) (.fz kP) .un .un) = some (.list (encN (upto N.nodes.length pK))) := by
      show (((den_law_close [ssP, stP, .bool true]).bind Res.ls).map PyData.list) = _
      rw [ck]; rfl
    have t1 := tst_of (dB_of a1 a2 (pNe_self ((lay_nats (upto N.nodes.length pK)).mono (by omega))))
    rw [dIfS_ap, t1]; rfl
  obtain ⟨r, hway⟩ := v_way_to HM hend
  have b10 : (dFor (dS (dVar 6)) [8, 9, 10, 11, 12, 13] (.nm 8) goalBody) (B s2.enc (.fz ssP) (.fz stP) (.fz mP) (.fz cP) (.fz kP) .un .un) = some (B s2.enc (.fz ssP) (.fz stP) (.fz mP) (.fz cP) (.fz kP) .un .un, .nx) := by
    have q : (dS (dVar 6)) (B s2.enc (.fz ssP) (.fz stP) (.fz mP) (.fz cP) (.fz kP) .un .un) = some (encN (upto N.nodes.length pM)) := rfl
    rw [dFor_ap, q, Option.bind_some]
    have hf := forD_fold (vs := [8, 9, 10, 11, 12, 13]) (t := .nm 8) (db := goalBody) (fun (v : Nat) => PyData.int (v : Nat)) (fun _ : Unit => B s2.enc (.fz ssP) (.fz stP) (.fz mP) (.fz cP) (.fz kP) .un .un) (fun _ _ => ()) (fun _ => True) (upto N.nodes.length pM) () (B s2.enc (.fz ssP) (.fz stP) (.fz mP) (.fz cP) (.fz kP) .un .un) (by simp [B]) trivial (fun _ v hv _ => by
      obtain ⟨hv1, hv2⟩ := mem_upto.mp hv
      obtain ⟨l, u, e1, e2, e3⟩ := hway v hv1 (by omega) (by simpa [pM, Option.isSome_iff_ne_none] using hv2)
      obtain ⟨ρ', g1, g2⟩ := goal_ok W (by omega) I.len (e0 := s2.enc) (clP := cP) (mkP := kP) e1 e2 (by omega)
      exact ⟨trivial, _, ρ', .nx, rfl, g1, .inl rfl, g2⟩)
    exact hf.1
  refine ⟨s2, runX_rt (ρ' := B s2.enc (.fz ssP) (.fz stP) (.fz mP) (.fz cP) (.fz kP) .un .un) rfl rfl ?_ rfl⟩
  show bod_law_walks_hold [.ox s.enc, .fz N.enc, .un, .un, .un, .un, .un, .un, .un, .un, .un, .un, .un, .un, .un, .un, .un, .un] = _
  unfold bod_law_walks_hold
  rw [seq_nx b1, seq_nx b2, seq_nx b3, seq_nx b4, seq_nx b5, seq_nx b6, seq_nx b7, seq_nx b8, seq_nx b9]
  have b10' := seq_nx (d2 := dRet (dC (.bool true))) b10
  unfold goalBody at b10'
  rw [b10']
  rfl
end K04
end
section
set_option linter.all false
set_option maxRecDepth 100000
set_option maxHeartbeats 1000000
namespace K04
open PySem PySem.Spec L2 Dn
theorem abcd_srt : abcd.Pairwise fun a b => leS a b = true := by
  have : ∀ a b : Str, leS a b = !ltCps b.cps.toList a.cps.toList := fun _ _ => rfl
  unfold abcd
  simp only [List.pairwise_cons, List.mem_cons, List.not_mem_nil, or_false, forall_eq_or_imp, forall_eq, this, List.Pairwise.nil, false_implies, implies_true, and_true]
  decide +kernel
theorem abcd_nd : abcd.Nodup := by unfold abcd; decide +kernel
theorem abcd_ok : ∀ x ∈ abcd, PyData.strOk x = true := by unfold abcd; decide +kernel
def encNm (n : Nat) : PV := .list ((abcd.take n).map .str)
/-- a drawn arc -/
def AOk (n : Nat) (a : Arc) : Prop := a.t < n ∧ a.h < n ∧ ∀ u, a.hi = some u → a.lo ≤ u ∧ u ≤ a.lo + 3
def encA (n : Nat) (a : Arc) : PV := .tuple [.str a.nm, .str ((abcd.take n).getD a.t default), .str ((abcd.take n).getD a.h default), .int a.lo, oI a.hi, .int a.pr]
theorem name_some (k : Nat) (hk : k < 7) : ∃ nm, ∀ ρ : En, ρ[6]? = some (Sl.fz (.int (k : Nat))) → (dB pAdd (dC (.str "e")) (dG gStr (dCons (dVar 6) dNil))) ρ = some (.str nm) := by
  have h : ∃ nm, (gStr [.int (k : Nat)]).bind (fun y => pAdd (.str "e") y) = some (.str nm) := by
    have : k = 0 ∨ k = 1 ∨ k = 2 ∨ k = 3 ∨ k = 4 ∨ k = 5 ∨ k = 6 := by omega
    rcases this with rfl | rfl | rfl | rfl | rfl | rfl | rfl <;> exact ⟨_, rfl⟩
  obtain ⟨nm, h⟩ := h
  refine ⟨nm, fun ρ hρ => ?_⟩
  rw [dB_ap, dC_ap, Option.bind_some, dG_ap, dCons_ap, dVar_ap, hρ]
  exact h
theorem cut_first (d : Int) (h0 : 0 ≤ d) (h3 : d < 3) : cutV' none (some (2 + d)) (.list ((["a", "b", "c", "d", "e", "f"] : List Str).map .str)) = some (encNm (2 + d.toNat)) := by
  have : d = 0 ∨ d = 1 ∨ d = 2 := by omega
  rcases this with rfl | rfl | rfl <;> rfl
theorem sum_cut (zs : List Int) (lo hi : Option Int) : ∃ z, gSum (cutP (zs.map .int) lo hi) = some (.int z) := by
  unfold cutP
  rw [← List.map_drop, ← List.map_take]
  exact ⟨_, gSum_ints _⟩
theorem v_law_net (s : Dst) (hs : s.Ok) : ∃ N s', den_law_net s.enc [.int 4, .bool true] = some (Net.enc N, Dst.enc s') ∧ N.Nice ∧ s'.Ok := by
  let B : Dst → Sl → Sl → Sl → Sl → Sl → Sl → Sl → Sl → Sl → Sl → En := fun s a b c k t h lo hi nd x => [.ox s.enc, .fz (.int 4), .fz (.bool true), a, b, c, k, t, h, lo, hi, nd, x]
  -- names
  obtain ⟨d, s1, hd, d0, d3, ho1⟩ := v_law_draw s hs 3 (by omega) (by omega)
  obtain ⟨n, hn⟩ : ∃ n : Nat, n = 2 + d.toNat := ⟨_, rfl⟩
  have n2 : 2 ≤ n := by omega
  have n4 : n ≤ 4 := by omega
  have b1 : (eAsg 3 (eCut (dFz (dLst (dCons (dC (.str "a")) (dCons (dC (.str "b")) (dCons (dC (.str "c")) (dCons (dC (.str "d")) (dCons (dC (.str "e")) (dCons (dC (.str "f")) dNil)))))))) eNoPart (ePart (eB pAdd (ePure (dC (.int 2))) (eCall 0 den_law_draw (dCons (dB pSub (dVar 1) (dC (.int 1))) dNil)))))) (B s .un .un .un .un .un .un .un .un .un .un) = some (B s1 (.fz (encNm n)) .un .un .un .un .un .un .un .un .un, .nx) := by
    have c := cut_first d d0 d3
    rw [← hn] at c
    have e1 : (ePart (eB pAdd (ePure (dC (.int 2))) (eCall 0 den_law_draw (dCons (dB pSub (dVar 1) (dC (.int 1))) dNil)))) (B s .un .un .un .un .un .un .un .un .un .un) = some (some (2 + d), B s1 .un .un .un .un .un .un .un .un .un .un) := by
      have e0 : (eCall 0 den_law_draw (dCons (dB pSub (dVar 1) (dC (.int 1))) dNil)) (B s .un .un .un .un .un .un .un .un .un .un) = some (.int d, B s1 .un .un .un .un .un .un .un .un .un .un) := by
        show (den_law_draw s.enc [.int 3]).map _ = _
        rw [hd]; rfl
      rw [ePart_ap, eB_ap, ePure_ap, dC_ap, Option.map_some, Option.bind_some, e0]; rfl
    rw [eAsg_ap, eCut_ap]
    show Option.bind (Option.bind (some (PyData.list ((["a", "b", "c", "d", "e", "f"] : List Str).map .str))) _) _ = _
    rw [Option.bind_some, eNoPart_ap, Option.bind_some, e1, Option.bind_some, c]
    rfl
  have lenL : (abcd.take n).length = n := by rw [List.length_take]; simp [abcd]; omega
  have lenN : ∀ s b c k t h lo hi nd x, (dG gLen (dS (dVar 3))) (B s (.fz (encNm n)) b c k t h lo hi nd x) = some (.int (n : Nat)) := fun s b c k t h lo hi nd x => by
    show some (PyData.int (((abcd.take n).map PyData.str).length : Nat)) = _
    rw [List.length_map, lenL]
  have drawE : ∀ (s : Dst), s.Ok → ∀ (k : Int), 1 ≤ k → k < 1073741824 → ∃ d s', 0 ≤ d ∧ d < k ∧ Dst.Ok s' ∧ ∀ (q : DQv) a b c e t h lo hi nd x, q (B s a b c e t h lo hi nd x) = some [.int k] → (eCall 0 den_law_draw q) (B s a b c e t h lo hi nd x) = some (.int d, B s' a b c e t h lo hi nd x) := fun s hs k h1 h2 => by
    obtain ⟨d, s', hd, e1, e2, e3⟩ := v_law_draw s hs k h1 h2
    refine ⟨d, s', e1, e2, e3, fun q a b c e t h lo hi nd x hq => ?_⟩
    rw [eCall_ap, hq]
    show (den_law_draw s.enc [.int k]).map _ = _
    rw [hd]; rfl
  -- supplies
  obtain ⟨zs, s2, hz, ho2, b2⟩ : ∃ (zs : List Int) (s2 : Dst), zs.length = n ∧ s2.Ok ∧ (eAsgO 4 (eComp (dS (dVar 3)) (.nm 12) [12] eYes (eB pSub (eCall 0 den_law_draw (dCons (dC (.int 5)) dNil)) (ePure (dC (.int 2)))))) (B s1 (.fz (encNm n)) .un .un .un .un .un .un .un .un .un) = some (B s2 (.fz (encNm n)) (.ol (zs.map .int)) .un .un .un .un .un .un .un .un, .nx) := by
    obtain ⟨r, s2, e, hR⟩ := compE_run (t := .nm 12) (vs := [12]) (tt := eYes) (te := (eB pSub (eCall 0 den_law_draw (dCons (dC (.int 5)) dNil)) (ePure (dC (.int 2))))) (fun x : Str => PyData.str x) (fun s : OkD => B s.1 (.fz (encNm n)) .un .un .un .un .un .un .un .un .un) (fun _ l r _ => ∃ m : List Int, m.length = l.length ∧ r = m.map .int) (fun s => ⟨[], rfl, rfl⟩) (fun s a l => by
      obtain ⟨d, s', _, _, ho, hd⟩ := drawE s.1 s.2 5 (by omega) (by omega)
      refine ⟨B s.1 (.fz (encNm n)) .un .un .un .un .un .un .un .un (.fz (.str a)), true, B s.1 (.fz (encNm n)) .un .un .un .un .un .un .un .un (.fz (.str a)), rfl, rfl, (fun h => by cases h), fun _ => ⟨.int (d - 2), B s' (.fz (encNm n)) .un .un .un .un .un .un .un .un (.fz (.str a)), ⟨s', ho⟩, ?_, by simp [B], fun r s2 ⟨m, h1, h2⟩ => ⟨(d - 2) :: m, by simp [h1], by rw [h2]; rfl⟩⟩⟩
      rw [eB_ap, hd _ _ _ _ _ _ _ _ _ _ _ rfl]; rfl) (abcd.take n) ⟨s1, ho1⟩
    obtain ⟨m, hm, rfl⟩ := hR
    refine ⟨m, s2.1, by rw [hm, lenL], s2.2, ?_⟩
    have un : ([12].all (isUn (B s1 (.fz (encNm n)) .un .un .un .un .un .un .un .un .un))) = true := rfl
    have q : (dS (dVar 3)) (B s1 (.fz (encNm n)) .un .un .un .un .un .un .un .un .un) = some ((abcd.take n).map .str) := rfl
    have hl : Dn.lim ((abcd.take n).map PyData.str) = some ((abcd.take n).map .str) := lim_ok (by rw [List.length_map, lenL]; omega)
    rw [eAsgO_ap, eComp_ap, q, Option.bind_some, hl, Option.bind_some, if_pos un, e]
    rfl
  -- the last supply
  obtain ⟨ws, s3, hw, ho3, b3⟩ : ∃ (ws : List Int) (s3 : Dst), ws.length = n ∧ s3.Ok ∧ (eIfS (eTst (eB pGt (eCall 0 den_law_draw (dCons (dC (.int 8)) dNil)) (ePure (dC (.int 0))))) (dSetIx 4 (dB pSub (dG gLen (dOwn 4)) (dC (.int 1))) (dB pSub (dC (.int 0)) (dG gSum (dSlice (dOwn 4) dNoPart (dPart (dB pSub (dG gLen (dOwn 4)) (dC (.int 1)))))))) dSkip) (B s2 (.fz (encNm n)) (.ol (zs.map .int)) .un .un .un .un .un .un .un .un) = some (B s3 (.fz (encNm n)) (.ol (ws.map .int)) .un .un .un .un .un .un .un .un, .nx) := by
    obtain ⟨d, s', _, _, ho, hd⟩ := drawE s2 ho2 8 (by omega) (by omega)
    have e1 : (eTst (eB pGt (eCall 0 den_law_draw (dCons (dC (.int 8)) dNil)) (ePure (dC (.int 0))))) (B s2 (.fz (encNm n)) (.ol (zs.map .int)) .un .un .un .un .un .un .un .un) = some (decide (0 < d), B s' (.fz (encNm n)) (.ol (zs.map .int)) .un .un .un .un .un .un .un .un) := by
      rw [eTst_ap, eB_ap, hd _ _ _ _ _ _ _ _ _ _ _ rfl]; rfl
    by_cases h : 0 < d
    · have e2 : (dB pSub (dG gLen (dOwn 4)) (dC (.int 1))) (B s' (.fz (encNm n)) (.ol (zs.map .int)) .un .un .un .un .un .un .un .un) = some (.int ((n - 1 : Nat) : Int)) := by
        have : (dG gLen (dOwn 4)) (B s' (.fz (encNm n)) (.ol (zs.map .int)) .un .un .un .un .un .un .un .un) = some (.int (n : Nat)) := by
          show some (PyData.int ((zs.map PyData.int).length : Nat)) = _
          rw [List.length_map, hz]
        rw [dB_of (y := .int 1) this rfl (pII_int _ _ _)]
        show some (PyData.int ((n : Int) - 1)) = _
        rw [show ((n : Int) - 1) = ((n - 1 : Nat) : Int) by omega]
      obtain ⟨z, hzs⟩ := sum_cut zs none (some ((n - 1 : Nat) : Int))
      have e3 : (dB pSub (dC (.int 0)) (dG gSum (dSlice (dOwn 4) dNoPart (dPart (dB pSub (dG gLen (dOwn 4)) (dC (.int 1))))))) (B s' (.fz (encNm n)) (.ol (zs.map .int)) .un .un .un .un .un .un .un .un) = some (.int (0 - z)) := by
        have q : (dSlice (dOwn 4) dNoPart (dPart (dB pSub (dG gLen (dOwn 4)) (dC (.int 1))))) (B s' (.fz (encNm n)) (.ol (zs.map .int)) .un .un .un .un .un .un .un .un) = some (cutP (zs.map .int) none (some ((n - 1 : Nat) : Int))) := by
          rw [dSlice_ap, dPart_ap, e2]; rfl
        refine dB_of (x := .int 0) (y := .int z) rfl ?_ (pII_int _ _ _)
        rw [dG_ap, q, Option.bind_some, hzs]
      refine ⟨zs.set (n - 1) (0 - z), s', by simp [hz], ho, ?_⟩
      rw [eIfS_ap, e1, Option.bind_some, if_pos (by simpa using h), set_own (i := 4) (l := zs.map .int) (t := n - 1) (p := .int (0 - z)) rfl e2 e3 (by rw [List.length_map, hz]; omega), ← List.map_set]
      rfl
    · refine ⟨zs, s', hz, ho, ?_⟩
      rw [eIfS_ap, e1, Option.bind_some, if_neg (by simpa using h)]
      rfl
  -- arcs
  let st : Dst → List Arc → En := fun s as => B s (.fz (encNm n)) (.ol (ws.map .int)) (.ol (as.map (encA n))) .un .un .un .un .un .un .un
  have loop : ∀ (ks : List Nat) (as : List Arc) (s : Dst) (ρ : En), s.Ok → (∀ k ∈ ks, k < 7) → as.length + ks.length ≤ 7 → (∀ a ∈ as, AOk n a) → fgE ρ [6, 7, 8, 9, 10] = st s as → ∃ as' s', forD [6, 7, 8, 9, 10] (.nm 6) (dSeq (eAsg 7 (eCall 0 den_law_draw (dCons (dG gLen (dS (dVar 3))) dNil)))
    (dSeq (eAsg 8 (eB pMod (eG gInt (eCons (eB pAdd (ePure (dB pAdd (dVar 7) (dC (.int 1)))) (eCall 0 den_law_draw (dCons (dB pSub (dG gLen (dS (dVar 3))) (dC (.int 1))) dNil))) eNil)) (ePure (dG gLen (dS (dVar 3))))))
    (dSeq (eAsg 9 (eG gInt (eCons (eB pEq (eCall 0 den_law_draw (dCons (dC (.int 4)) dNil)) (ePure (dC (.int 3)))) eNil)))
    (dSeq (eAsg 10 (eB pAdd (ePure (dVar 9)) (eCall 0 den_law_draw (dCons (dC (.int 4)) dNil))))
    (dSeq (eIfS (eAnd (eTPure (dTru (dVar 2))) (eTst (eB pEq (eCall 0 den_law_draw (dCons (dC (.int 3)) dNil)) (ePure (dC (.int 0)))))) (dAsg 10 (dC .none)) dSkip)
    (eApp 5 (eTup (eCons (ePure (dB pAdd (dC (.str "e")) (dG gStr (dCons (dVar 6) dNil)))) (eCons (ePure (dIx (dS (dVar 3)) (dVar 7))) (eCons (ePure (dIx (dS (dVar 3)) (dVar 8))) (eCons (ePure (dVar 9)) (eCons (ePure (dVar 10)) (eCons (eB pSub (eCall 0 den_law_draw (dCons (dC (.int 8)) dNil)) (ePure (dC (.int 2)))) eNil))))))))))))) (ks.map fun (i : Nat) => PyData.int (i : Nat)) ρ = some (st s' as', .nx) ∧ s'.Ok ∧ as'.length ≤ 7 ∧ ∀ a ∈ as', AOk n a := by
    intro ks
    induction ks with
    | nil => intro as s ρ hs _ hl ha h; exact ⟨as, s, by rw [← h]; rfl, hs, by simpa using hl, ha⟩
    | cons k ks ih =>
      intro as s ρ hs hk hl ha h
      rw [List.length_cons] at hl
      let C : Dst → Sl → Sl → Sl → Sl → En := fun s t h lo hi => B s (.fz (encNm n)) (.ol (ws.map .int)) (.ol (as.map (encA n))) (.fz (.int (k : Nat))) t h lo hi .un .un
      have lenC : ∀ s t h lo hi, (dG gLen (dS (dVar 3))) (C s t h lo hi) = some (.int (n : Nat)) := fun s t h lo hi => lenN ..
      obtain ⟨t, s4, t0, t1, ho4, hd4⟩ := drawE s hs (n : Nat) (by omega) (by omega)
      have a1 : (eAsg 7 (eCall 0 den_law_draw (dCons (dG gLen (dS (dVar 3))) dNil))) (C s .un .un .un .un) = some (C s4 (.fz (.int t)) .un .un .un, .nx) := by
        rw [eAsg_ap, hd4 _ _ _ _ _ _ _ _ _ _ _ (by rw [dCons_ap, lenN]; rfl)]; rfl
      obtain ⟨e, s5, e0, e1, ho5, hd5⟩ := drawE s4 ho4 ((n : Int) - 1) (by omega) (by omega)
      have a2 : (eAsg 8 (eB pMod (eG gInt (eCons (eB pAdd (ePure (dB pAdd (dVar 7) (dC (.int 1)))) (eCall 0 den_law_draw (dCons (dB pSub (dG gLen (dS (dVar 3))) (dC (.int 1))) dNil))) eNil)) (ePure (dG gLen (dS (dVar 3)))))) (C s4 (.fz (.int t)) .un .un .un) = some (C s5 (.fz (.int t)) (.fz (.int ((t + 1 + e) % (n : Int)))) .un .un, .nx) := by
        have x1 : (eCall 0 den_law_draw (dCons (dB pSub (dG gLen (dS (dVar 3))) (dC (.int 1))) dNil)) (C s4 (.fz (.int t)) .un .un .un) = some (.int e, C s5 (.fz (.int t)) .un .un .un) := hd5 _ _ _ _ _ _ _ _ _ _ _ (by rw [dCons_ap, dB_of (lenN ..) rfl (pII_int _ _ _)]; rfl)
        have x2 : (eB pAdd (ePure (dB pAdd (dVar 7) (dC (.int 1)))) (eCall 0 den_law_draw (dCons (dB pSub (dG gLen (dS (dVar 3))) (dC (.int 1))) dNil))) (C s4 (.fz (.int t)) .un .un .un) = some (.int (t + 1 + e), C s5 (.fz (.int t)) .un .un .un) := by
          rw [eB_ap]
          show (((eCall 0 den_law_draw (dCons (dB pSub (dG gLen (dS (dVar 3))) (dC (.int 1))) dNil)) (C s4 (.fz (.int t)) .un .un .un)).bind fun s => (pAdd (.int (t + 1)) s.1).map fun z => (z, s.2)) = _
          rw [x1]; rfl
        have x3 : (ePure (dG gLen (dS (dVar 3)))) (C s5 (.fz (.int t)) .un .un .un) = some (.int (n : Nat), C s5 (.fz (.int t)) .un .un .un) := by rw [ePure_ap, lenC]; rfl
        rw [eAsg_ap, eB_ap, eG_ap, eCons_ap, x2]
        show ((((ePure (dG gLen (dS (dVar 3)))) (C s5 (.fz (.int t)) .un .un .un)).bind fun s => (pMod (.int (t + 1 + e)) s.1).map fun z => (z, s.2))).bind _ = _
        rw [x3, Option.bind_some, pMod_int (by omega)]
        rfl
      have h0 := Int.emod_nonneg (t + 1 + e) (b := (n : Int)) (by omega)
      have h1 := Int.emod_lt_of_pos (t + 1 + e) (b := (n : Int)) (by omega)
      generalize (t + 1 + e) % (n : Int) = hd at a2 h0 h1
      obtain ⟨g, s6, _, _, ho6, hd6⟩ := drawE s5 ho5 4 (by omega) (by omega)
      obtain ⟨lo, a3⟩ : ∃ lo : Int, (eAsg 9 (eG gInt (eCons (eB pEq (eCall 0 den_law_draw (dCons (dC (.int 4)) dNil)) (ePure (dC (.int 3)))) eNil))) (C s5 (.fz (.int t)) (.fz (.int hd)) .un .un) = some (C s6 (.fz (.int t)) (.fz (.int hd)) (.fz (.int lo)) .un, .nx) := by
        refine ⟨if (g == 3) = true then 1 else 0, ?_⟩
        have x1 : (eB pEq (eCall 0 den_law_draw (dCons (dC (.int 4)) dNil)) (ePure (dC (.int 3)))) (C s5 (.fz (.int t)) (.fz (.int hd)) .un .un) = some (.bool (g == 3), C s6 (.fz (.int t)) (.fz (.int hd)) .un .un) := by
          rw [eB_ap, hd6 _ _ _ _ _ _ _ _ _ _ _ rfl, Option.bind_some]
          show ((pEq (.int g) (.int 3)).map fun z => (z, C s6 (.fz (.int t)) (.fz (.int hd)) .un .un)) = _
          rw [pEq_int]; rfl
        rw [eAsg_ap, eG_ap, eCons_ap, x1]; rfl
      obtain ⟨w, s7, w0, w1, ho7, hd7⟩ := drawE s6 ho6 4 (by omega) (by omega)
      have a4 : (eAsg 10 (eB pAdd (ePure (dVar 9)) (eCall 0 den_law_draw (dCons (dC (.int 4)) dNil)))) (C s6 (.fz (.int t)) (.fz (.int hd)) (.fz (.int lo)) .un) = some (C s7 (.fz (.int t)) (.fz (.int hd)) (.fz (.int lo)) (.fz (.int (lo + w))), .nx) := by
        have x1 : (eCall 0 den_law_draw (dCons (dC (.int 4)) dNil)) (C s6 (.fz (.int t)) (.fz (.int hd)) (.fz (.int lo)) .un) = some (.int w, C s7 (.fz (.int t)) (.fz (.int hd)) (.fz (.int lo)) .un) := hd7 _ _ _ _ _ _ _ _ _ _ _ rfl
        rw [eAsg_ap, eB_ap]
        show ((((eCall 0 den_law_draw (dCons (dC (.int 4)) dNil)) (C s6 (.fz (.int t)) (.fz (.int hd)) (.fz (.int lo)) .un)).bind fun s => (pAdd (.int lo) s.1).map fun z => (z, s.2))).bind _ = _
        rw [x1]; rfl
      obtain ⟨v, s8, _, _, ho8, hd8⟩ := drawE s7 ho7 3 (by omega) (by omega)
      obtain ⟨hi, hhi, a5⟩ : ∃ hi : Option Int, (∀ u, hi = some u → lo ≤ u ∧ u ≤ lo + 3) ∧ (eIfS (eAnd (eTPure (dTru (dVar 2))) (eTst (eB pEq (eCall 0 den_law_draw (dCons (dC (.int 3)) dNil)) (ePure (dC (.int 0)))))) (dAsg 10 (dC .none)) dSkip) (C s7 (.fz (.int t)) (.fz (.int hd)) (.fz (.int lo)) (.fz (.int (lo + w)))) = some (C s8 (.fz (.int t)) (.fz (.int hd)) (.fz (.int lo)) (.fz (oI hi)), .nx) := by
        have x1 : (eTst (eB pEq (eCall 0 den_law_draw (dCons (dC (.int 3)) dNil)) (ePure (dC (.int 0))))) (C s7 (.fz (.int t)) (.fz (.int hd)) (.fz (.int lo)) (.fz (.int (lo + w)))) = some (v == 0, C s8 (.fz (.int t)) (.fz (.int hd)) (.fz (.int lo)) (.fz (.int (lo + w)))) := by
          rw [eTst_ap, eB_ap, hd8 _ _ _ _ _ _ _ _ _ _ _ rfl, Option.bind_some]
          show ((pEq (.int v) (.int 0)).map fun z => (z, C s8 (.fz (.int t)) (.fz (.int hd)) (.fz (.int lo)) (.fz (.int (lo + w))))).bind (fun r => (asBool r.1).map fun k => (k, r.2)) = _
          rw [pEq_int]; rfl
        have x2 : (eAnd (eTPure (dTru (dVar 2))) (eTst (eB pEq (eCall 0 den_law_draw (dCons (dC (.int 3)) dNil)) (ePure (dC (.int 0)))))) (C s7 (.fz (.int t)) (.fz (.int hd)) (.fz (.int lo)) (.fz (.int (lo + w)))) = some (v == 0, C s8 (.fz (.int t)) (.fz (.int hd)) (.fz (.int lo)) (.fz (.int (lo + w)))) := by
          have t2 : (eTPure (dTru (dVar 2))) (C s7 (.fz (.int t)) (.fz (.int hd)) (.fz (.int lo)) (.fz (.int (lo + w)))) = some (true, C s7 (.fz (.int t)) (.fz (.int hd)) (.fz (.int lo)) (.fz (.int (lo + w)))) := rfl
          rw [eAnd_ap, t2, Option.bind_some, if_pos rfl]
          exact x1
        cases hv : (v == 0) with
        | true =>
          refine ⟨none, (fun u h => by cases h), ?_⟩
          rw [eIfS_ap, x2, hv]; rfl
        | false =>
          refine ⟨some (lo + w), (fun u h => by cases h; omega), ?_⟩
          rw [eIfS_ap, x2, hv]; rfl
      obtain ⟨p, s9, _, _, ho9, hd9⟩ := drawE s8 ho8 8 (by omega) (by omega)
      obtain ⟨nm, hnm⟩ := name_some k (hk k List.mem_cons_self)
      let a : Arc := ⟨nm, t.toNat, hd.toNat, lo, hi, p - 2⟩
      have hA : AOk n a := ⟨by show t.toNat < n; omega, by show hd.toNat < n; omega, hhi⟩
      have nmAt : ∀ i : Int, 0 ≤ i → i < n → atI ((abcd.take n).map PyData.str) i = some (.str ((abcd.take n).getD i.toNat default)) := fun i i0 i1 => by
        have e : i = ((i.toNat : Nat) : Int) := by omega
        rw [e]
        refine atI_map ?_
        rw [Int.toNat_natCast, List.getD_eq_getElem?_getD, List.getElem?_eq_getElem (by rw [lenL]; omega)]; rfl
      have a6 : (eApp 5 (eTup (eCons (ePure (dB pAdd (dC (.str "e")) (dG gStr (dCons (dVar 6) dNil)))) (eCons (ePure (dIx (dS (dVar 3)) (dVar 7))) (eCons (ePure (dIx (dS (dVar 3)) (dVar 8))) (eCons (ePure (dVar 9)) (eCons (ePure (dVar 10)) (eCons (eB pSub (eCall 0 den_law_draw (dCons (dC (.int 8)) dNil)) (ePure (dC (.int 2)))) eNil)))))))) (C s8 (.fz (.int t)) (.fz (.int hd)) (.fz (.int lo)) (.fz (oI hi))) = some (B s9 (.fz (encNm n)) (.ol (ws.map .int)) (.ol ((as ++ [a]).map (encA n))) (.fz (.int (k : Nat))) (.fz (.int t)) (.fz (.int hd)) (.fz (.int lo)) (.fz (oI hi)) .un .un, .nx) := by
        have y1 : (ePure (dB pAdd (dC (.str "e")) (dG gStr (dCons (dVar 6) dNil)))) (C s8 (.fz (.int t)) (.fz (.int hd)) (.fz (.int lo)) (.fz (oI hi))) = some (.str nm, C s8 (.fz (.int t)) (.fz (.int hd)) (.fz (.int lo)) (.fz (oI hi))) := by
          rw [ePure_ap, hnm _ rfl]; rfl
        have y2 : (ePure (dIx (dS (dVar 3)) (dVar 7))) (C s8 (.fz (.int t)) (.fz (.int hd)) (.fz (.int lo)) (.fz (oI hi))) = some (.str ((abcd.take n).getD a.t default), C s8 (.fz (.int t)) (.fz (.int hd)) (.fz (.int lo)) (.fz (oI hi))) := by
          rw [ePure_ap]
          show (atI ((abcd.take n).map PyData.str) t).map _ = _
          rw [nmAt t t0 t1]; rfl
        have y3 : (ePure (dIx (dS (dVar 3)) (dVar 8))) (C s8 (.fz (.int t)) (.fz (.int hd)) (.fz (.int lo)) (.fz (oI hi))) = some (.str ((abcd.take n).getD a.h default), C s8 (.fz (.int t)) (.fz (.int hd)) (.fz (.int lo)) (.fz (oI hi))) := by
          rw [ePure_ap]
          show (atI ((abcd.take n).map PyData.str) hd).map _ = _
          rw [nmAt hd h0 h1]; rfl
        have y4 : (ePure (dVar 9)) (C s8 (.fz (.int t)) (.fz (.int hd)) (.fz (.int lo)) (.fz (oI hi))) = some (.int lo, C s8 (.fz (.int t)) (.fz (.int hd)) (.fz (.int lo)) (.fz (oI hi))) := rfl
        have y5 : (ePure (dVar 10)) (C s8 (.fz (.int t)) (.fz (.int hd)) (.fz (.int lo)) (.fz (oI hi))) = some (oI hi, C s8 (.fz (.int t)) (.fz (.int hd)) (.fz (.int lo)) (.fz (oI hi))) := rfl
        have y6 : (eB pSub (eCall 0 den_law_draw (dCons (dC (.int 8)) dNil)) (ePure (dC (.int 2)))) (C s8 (.fz (.int t)) (.fz (.int hd)) (.fz (.int lo)) (.fz (oI hi))) = some (.int (p - 2), C s9 (.fz (.int t)) (.fz (.int hd)) (.fz (.int lo)) (.fz (oI hi))) := by
          rw [eB_ap, hd9 _ _ _ _ _ _ _ _ _ _ _ rfl]; rfl
        have y7 : (eTup (eCons (ePure (dB pAdd (dC (.str "e")) (dG gStr (dCons (dVar 6) dNil)))) (eCons (ePure (dIx (dS (dVar 3)) (dVar 7))) (eCons (ePure (dIx (dS (dVar 3)) (dVar 8))) (eCons (ePure (dVar 9)) (eCons (ePure (dVar 10)) (eCons (eB pSub (eCall 0 den_law_draw (dCons (dC (.int 8)) dNil)) (ePure (dC (.int 2)))) eNil))))))) (C s8 (.fz (.int t)) (.fz (.int hd)) (.fz (.int lo)) (.fz (oI hi))) = some (encA n a, C s9 (.fz (.int t)) (.fz (.int hd)) (.fz (.int lo)) (.fz (oI hi))) := by
          rw [eTup_ap, eCons_ap, y1, Option.bind_some, eCons_ap, y2, Option.bind_some, eCons_ap, y3, Option.bind_some, eCons_ap, y4, Option.bind_some, eCons_ap, y5, Option.bind_some, eCons_ap, y6, Option.bind_some]
          rfl
        have ql : (as.map (encA n)).length < 16777216 := by rw [List.length_map]; omega
        rw [eApp_ap, y7, Option.bind_some]
        show (if (as.map (encA n)).length < 16777216 then some (putL (C s9 (.fz (.int t)) (.fz (.int hd)) (.fz (.int lo)) (.fz (oI hi))) 5 (as.map (encA n) ++ [encA n a]), Fl.nx) else none) = _
        rw [if_pos ql, List.map_append]
        rfl
      obtain ⟨as', s', hf, r1, r2, r3⟩ := ih (as ++ [a]) s9 (B s9 (.fz (encNm n)) (.ol (ws.map .int)) (.ol ((as ++ [a]).map (encA n))) (.fz (.int (k : Nat))) (.fz (.int t)) (.fz (.int hd)) (.fz (.int lo)) (.fz (oI hi)) .un .un) ho9 (fun q hq => hk q (List.mem_cons_of_mem _ hq)) (by rw [List.length_append, List.length_singleton]; omega) (fun b hb => by
        rcases List.mem_append.mp hb with hb | hb
        · exact ha b hb
        · have : b = a := by simpa using hb
          rw [this]; exact hA) (by simp [B, st])
      refine ⟨as', s', ?_, r1, r2, r3⟩
      rw [List.map_cons, forD_next (ρ1 := C s .un .un .un .un) (fl := .nx) (by rw [h]; rfl) (by rw [seq_nx a1, seq_nx a2, seq_nx a3, seq_nx a4, seq_nx a5, a6]) (.inl rfl), hf]
  obtain ⟨m, s4, m0, m8, ho4, hd4⟩ := drawE s3 ho3 8 (by omega) (by omega)
  obtain ⟨as, s5, hf, ho5, ha7, haO⟩ := loop (List.range m.toNat) [] s4 (st s4 []) ho4 (fun k hk => by have := List.mem_range.mp hk; omega) (by rw [List.length_range, List.length_nil]; omega) (fun a h => by cases h) (by simp [st, B])
  have b4 : (dAsgO 5 (dLst dNil)) (B s3 (.fz (encNm n)) (.ol (ws.map .int)) .un .un .un .un .un .un .un .un) = some (st s3 [], .nx) := rfl
  have q5 : (eRng1 (eCall 0 den_law_draw (dCons (dB pMul (dC (.int 2)) (dVar 1)) dNil))) (st s3 []) = some ((List.range m.toNat).map fun (i : Nat) => PyData.int (i : Nat), st s4 []) := by
    have x1 : (eCall 0 den_law_draw (dCons (dB pMul (dC (.int 2)) (dVar 1)) dNil)) (st s3 []) = some (.int m, st s4 []) := hd4 _ _ _ _ _ _ _ _ _ _ _ (by
      have : (dB pMul (dC (.int 2)) (dVar 1)) (B s3 (.fz (encNm n)) (.ol (ws.map .int)) (.ol (([] : List Arc).map (encA n))) .un .un .un .un .un .un .un) = some (.int 8) := dB_of (x := .int 2) (y := .int 4) rfl rfl (pMul_int (.inl (by decide)))
      rw [dCons_ap, this]; rfl)
    have x2 := rng1_nat (n := m.toNat) (Nat.lt_of_lt_of_le (m := 8) (by omega) (by decide))
    rw [show ((m.toNat : Nat) : Int) = m by omega] at x2
    rw [eRng1_ap, x1, Option.bind_some, x2]; rfl
  let N : Net := ⟨(abcd.take n).zip ws, as⟩
  have eN : N.nodes.length = n := by show ((abcd.take n).zip ws).length = n; rw [List.length_zip, lenL, hw, Nat.min_self]
  have eNm : N.names = abcd.take n := by show ((abcd.take n).zip ws).map (·.1) = _; exact List.map_fst_zip (by rw [lenL, hw]; omega)
  have b6 : (dAsg 11 (dG gTuple (dComp (dRng1 (dG gLen (dS (dVar 3)))) (.nm 6) [6] dYes (dTup (dCons (dIx (dS (dVar 3)) (dVar 6)) (dCons (dIx (dOwn 4) (dVar 6)) dNil)))))) (st s5 as) = some (B s5 (.fz (encNm n)) (.ol (ws.map .int)) (.ol (as.map (encA n))) .un .un .un .un .un (.fz (.tuple (N.nodes.map encNode))) .un, .nx) := by
    have q : (dRng1 (dG gLen (dS (dVar 3)))) (st s5 as) = some ((List.range n).map fun (i : Nat) => PyData.int (i : Nat)) := by
      rw [dRng1_ap, lenN, Option.bind_some, rng1_nat (Nat.lt_of_le_of_lt n4 (by decide))]
    have hl : Dn.lim ((List.range n).map fun (i : Nat) => PyData.int (i : Nat)) = some ((List.range n).map fun (i : Nat) => PyData.int (i : Nat)) := lim_ok (by rw [List.length_map, List.length_range]; omega)
    have w : wipeE (st s5 as) [6] = some (st s5 as) := rfl
    have er : (List.range n).map (fun (i : Nat) => PyData.int (i : Nat)) = N.nodes.zipIdx.map fun p => PyData.int (p.2 : Nat) := by
      rw [← eN, range_zipIdx (fun (i : Nat) => PyData.int (i : Nat)) N.nodes]
    have c := compD_all (t := .nm 6) (te := dTup (dCons (dIx (dS (dVar 3)) (dVar 6)) (dCons (dIx (dOwn 4) (dVar 6)) dNil))) (ρ := st s5 as) (fun p : (Str × Int) × Nat => PyData.int (p.2 : Nat)) (fun p => encNode p.1) N.nodes.zipIdx fun p hp => ⟨B s5 (.fz (encNm n)) (.ol (ws.map .int)) (.ol (as.map (encA n))) (.fz (.int (p.2 : Nat))) .un .un .un .un .un .un, rfl, by
      obtain ⟨i, hi, e⟩ := List.getElem_of_mem hp
      have h3 := zipIdx_at (by rw [List.getElem?_eq_getElem hi, e] : N.nodes.zipIdx[i]? = some p)
      obtain ⟨z1, z2⟩ := zip_at (l := abcd.take n) (m := ws) h3.2
      rw [← h3.1] at z1 z2
      have y1 : (dIx (dS (dVar 3)) (dVar 6)) (B s5 (.fz (encNm n)) (.ol (ws.map .int)) (.ol (as.map (encA n))) (.fz (.int (p.2 : Nat))) .un .un .un .un .un .un) = some (.str p.1.1) := atI_map (enc := PyData.str) z1
      have y2 : (dIx (dOwn 4) (dVar 6)) (B s5 (.fz (encNm n)) (.ol (ws.map .int)) (.ol (as.map (encA n))) (.fz (.int (p.2 : Nat))) .un .un .un .un .un .un) = some (.int p.1.2) := atI_map (enc := PyData.int) z2
      rw [dTup_ap, dCons_ap, y1, Option.bind_some, dCons_ap, y2]; rfl⟩
    rw [← er] at c
    rw [dAsg_ap, dG_ap, dComp_ap, q, Option.bind_some, hl, Option.bind_some, w, Option.bind_some, c]
    have : (N.nodes.zipIdx.map fun p => encNode p.1) = N.nodes.map encNode := by
      have e := List.zipIdx_map_fst 0 N.nodes
      conv => rhs; rw [← e]
      rw [List.map_map]; rfl
    rw [this]
    rfl
  have eA : as.map (encA n) = N.arcs.map N.encArc := by
    have : encA n = N.encArc := by
      funext a
      unfold encA Net.encArc Net.name
      rw [eNm]
    rw [this]
  refine ⟨N, s5, ?_, ⟨⟨?_, fun a ha => ?_, by rw [eN]; omega, ?_, fun a ha u hu => ((haO a ha).2.2 u hu).1⟩, ?_, by rw [eN]; omega, by rw [eN]; omega, ha7, fun a ha u hu => ((haO a ha).2.2 u hu).2, by rw [eNm, eN]⟩, ho5⟩
  · refine runX_rt (ρ' := B s5 (.fz (encNm n)) (.ol (ws.map .int)) (.ol (as.map (encA n))) .un .un .un .un .un (.fz (.tuple (N.nodes.map encNode))) .un) rfl rfl ?_ rfl
    show bod_law_net (B s .un .un .un .un .un .un .un .un .un .un) = _
    unfold bod_law_net
    rw [seq_nx b1, seq_nx b2, seq_nx b3, seq_nx b4, seq_nx (by rw [eFor_ap, q5, Option.bind_some, hf]), seq_nx b6, eA]
    rfl
  · rw [eNm]; exact abcd_nd.sublist (List.take_sublist _ _)
  · have := haO a ha
    exact ⟨by rw [eN]; exact this.1, by rw [eN]; exact this.2.1⟩
  · show as.length ≤ 1000; omega
  · show N.names.Pairwise _
    rw [eNm]; exact abcd_srt.sublist (List.take_sublist _ _)
end K04
end
section
set_option linter.all false
set_option maxRecDepth 100000
set_option maxHeartbeats 1000000
namespace K04
open PySem PySem.Spec L2 Dn
variable {N : Net}
theorem turn_turn : N.turn.turn = N := by
  obtain ⟨nodes, arcs⟩ := N
  show Net.mk ((nodes.map fun p => (p.1, -p.2)).map fun p => (p.1, -p.2)) ((arcs.map Arc.turn).map Arc.turn) = _
  rw [List.map_map, List.map_map]
  have e1 : ((fun p : Str × Int => (p.1, -p.2)) ∘ fun p : Str × Int => (p.1, -p.2)) = id := by
    funext p; simp
  have e2 : Arc.turn ∘ Arc.turn = id := by funext a; rfl
  rw [e1, e2, List.map_id, List.map_id]
theorem even_turn (W : N.WF) (f : List Int) : Even N.turn f ↔ Even N f := by
  unfold Even
  rw [turn_rest W, overs_neg, unders_neg]
  exact And.comm
theorem lack_isN (f : List Int) : isN (lackP N f) = true ↔ Even N f := by
  constructor
  · intro h
    apply Classical.byContradiction
    intro q
    obtain ⟨l, e⟩ := lackP_tup q
    rw [e] at h
    cases h
  · intro h; rw [lackP_none h]; rfl
/-- one answer from any numbers -/
theorem even_one (W : N.WF) {f g : List Int} (I : Inb N f) (F : Full N f) (J : Inb N g) (K : Full N g) : Even N f ↔ Even N g := by
  rw [← lack_isN, ← lack_isN, ← never_lack W I F, ← never_lack W J K]
theorem names_ok (G : N.Nice) : ∀ x ∈ N.names, PyData.strOk x = true := fun x hx => by
  rw [G.nms] at hx
  exact abcd_ok x (List.mem_of_mem_take hx)
theorem rset_ok (G : N.Nice) (f : List Int) : ∀ x ∈ rset N f, PyData.strOk x = true := fun x hx => names_ok G x ((sel_sub (p := reachB N f)).subset hx)
theorem lay_lack (G : N.Nice) (f : List Int) : Lay 60 (lackP N f) := by
  rw [lackP_eq G.wf]
  have key : ∀ (i : Int) (w : Str) (S : List Str), PyData.strOk w = true → (∀ x ∈ S, PyData.strOk x = true) → Lay 60 (.tuple [.str "never", .int i, .str w, encS S]) := fun i w S hw hS => (lay_tup (d := 1) fun x hx => by
    simp only [List.mem_cons, List.not_mem_nil, or_false] at hx
    rcases hx with rfl | rfl | rfl | rfl
    · exact lay_str _ (by decide +kernel)
    · exact lay_int _ _
    · exact lay_str _ hw
    · exact lay_names hS).mono (by omega)
  split
  · exact key _ _ _ (by decide +kernel) (rset_ok G f)
  · split
    · refine key _ _ _ (by decide +kernel) fun x hx => ?_
      have := (sel_sub (p := reachB N.turn f)).subset hx
      rw [turn_names] at this
      exact names_ok G x this
    · exact lay_none _
theorem pick_map (p : Int → Bool) (r : List Int) : (pick (fun x _ => p x) r).map (fun v => r.getD v 0) = r.filter p := by
  unfold pick
  rw [List.map_map]
  have e : (r.zipIdx.filter fun q => p q.1).map ((fun v => r.getD v 0) ∘ fun q : Int × Nat => q.2) = (r.zipIdx.filter fun q => p q.1).map (·.1) := by
    apply List.map_congr_left
    intro q hq
    have hq := (List.mem_filter.mp hq).1
    obtain ⟨i, hi, e⟩ := List.getElem_of_mem hq
    have h3 := zipIdx_at (by rw [List.getElem?_eq_getElem hi, e] : r.zipIdx[i]? = some q)
    show r.getD q.2 0 = q.1
    rw [h3.1, List.getD_eq_getElem?_getD, h3.2]; rfl
  rw [e]
  have h := List.zipIdx_map_fst 0 r
  conv => rhs; rw [← h, List.filter_map]
  rfl
theorem over_sum (f : List Int) : ((N.rest f).filter fun x => decide (0 < x)).sum = osum N f := by
  rw [← pick_map]; rfl
theorem under_sum (W : N.WF) (f : List Int) : 0 - ((N.rest f).filter fun x => decide (x < 0)).sum = osum N.turn f := by
  rw [← pick_map, osum_turn W]
  show 0 - sumAt (unders (N.rest f)) (N.rest f) = _
  omega
theorem pNe_bool (a b : Bool) : pNe (.bool a) (.bool b) = some (.bool (!(a == b))) := by
  have h : ∀ c : Bool, SeqAt.shaped (.bool c) = true := fun c => by simp [SeqAt.shaped, PyData.canLay0, PyData.depth]
  unfold pNe shp
  rw [h, h]; simp [PyData.eqv]
theorem v_judge_beside : den_judge_never [N.enc, .tuple [.str "never", .int 1, .str "beside", .tuple [.str "a"]]] = some (.va (.bool false)) := by
  let ρ1 : En := [.fz N.enc, .fz (.tuple [.str "never", .int 1, .str "beside", .tuple [.str "a"]]), .fz (.str "never"), .fz (.int 1), .fz (.str "beside"), .fz (.tuple [.str "a"]), .un, .un]
  have s1 : (dTgt (.tp [(.nm 2), (.nm 3), (.nm 4), (.nm 5)]) (dVar 1)) [.fz N.enc, .fz (.tuple [.str "never", .int 1, .str "beside", .tuple [.str "a"]]), .un, .un, .un, .un, .un, .un] = some (ρ1, .nx) := rfl
  have t1 : (dTst (dInQ gNotIn (dVar 4) (dS (dTup (dCons (dC (.str "over")) (dCons (dC (.str "under")) dNil)))))) ρ1 = some true := by
    show (gNotIn (.str "beside") ((["over", "under"] : List Str).map PyData.str)).bind asBool = _
    rw [gNotIn_str]
    decide +kernel
  refine runD_rt (ρ' := ρ1) rfl rfl ?_
  show bod_judge_never [.fz N.enc, .fz (.tuple [.str "never", .int 1, .str "beside", .tuple [.str "a"]]), .un, .un, .un, .un, .un, .un] = _
  unfold bod_judge_never
  rw [seq_nx s1]
  refine seq_rt ?_
  rw [dIfS_ap, dOr_ap, t1]
  rfl
theorem v_judge_zz (G : N.Nice) : den_judge_never [N.enc, .tuple [.str "never", .int 1, .str "over", .tuple [.str "zz"]]] = some (.va (.bool false)) := by
  let ρ1 : En := [.fz N.enc, .fz (.tuple [.str "never", .int 1, .str "over", .tuple [.str "zz"]]), .fz (.str "never"), .fz (.int 1), .fz (.str "over"), .fz (.tuple [.str "zz"]), .un, .un]
  have s1 : (dTgt (.tp [(.nm 2), (.nm 3), (.nm 4), (.nm 5)]) (dVar 1)) [.fz N.enc, .fz (.tuple [.str "never", .int 1, .str "over", .tuple [.str "zz"]]), .un, .un, .un, .un, .un, .un] = some (ρ1, .nx) := rfl
  have t1 : (dTst (dInQ gNotIn (dVar 4) (dS (dTup (dCons (dC (.str "over")) (dCons (dC (.str "under")) dNil)))))) ρ1 = some false := by
    show (gNotIn (.str "over") ((["over", "under"] : List Str).map PyData.str)).bind asBool = _
    rw [gNotIn_str]
    decide +kernel
  have t2 : (dTst (dB pLt (dVar 3) (dC (.int 1)))) ρ1 = some false := rfl
  have hz : N.names.contains ("zz" : Str) = false := by
    rw [G.nms]
    have : ("zz" : Str) ∉ abcd := by unfold abcd; decide +kernel
    rw [Bool.eq_false_iff]
    intro h
    exact this (List.mem_of_mem_take (List.contains_iff_mem.mp h))
  have t3 : (dNot (dTru (dG gAll (dComp (dS (dVar 5)) (.nm 7) [7] dYes (dInQ gIn (dVar 7) (dCallL den_node_names (dCons (dVar 0) dNil))))))) ρ1 = some true := by
    have c := compD_all (t := .nm 7) (te := dInQ gIn (dVar 7) (dCallL den_node_names (dCons (dVar 0) dNil))) (ρ := ρ1) PyData.str (fun x => PyData.bool (N.names.contains x)) [("zz" : Str)] fun x hx => ⟨[.fz N.enc, .fz (.tuple [.str "never", .int 1, .str "over", .tuple [.str "zz"]]), .fz (.str "never"), .fz (.int 1), .fz (.str "over"), .fz (.tuple [.str "zz"]), .un, .fz (.str x)], rfl, by
      have e : (dCallL den_node_names (dCons (dVar 0) dNil)) [.fz N.enc, .fz (.tuple [.str "never", .int 1, .str "over", .tuple [.str "zz"]]), .fz (.str "never"), .fz (.int 1), .fz (.str "over"), .fz (.tuple [.str "zz"]), .un, .fz (.str x)] = some (N.names.map .str) := by simp [v_node_names G.wf]
      rw [dInQ_ap, e]
      show gIn (.str x) (N.names.map .str) = _
      rw [gIn_str]⟩
    simp only [List.map_cons, List.map_nil, hz] at c
    have q : (dS (dVar 5)) ρ1 = some [.str "zz"] := rfl
    have w : wipeE ρ1 [7] = some ρ1 := rfl
    have hl : Dn.lim [PyData.str "zz"] = some [.str "zz"] := lim_ok (by simp)
    have g := gAll_bools [false]
    rw [dNot_ap, dTru_ap, dG_ap, dComp_ap, q, Option.bind_some, hl, Option.bind_some, w, Option.bind_some, c, Option.bind_some]
    show (Option.bind (gAll ([false].map .bool)) tru).map _ = _
    rw [g]; rfl
  refine runD_rt (ρ' := ρ1) rfl rfl ?_
  show bod_judge_never [.fz N.enc, .fz (.tuple [.str "never", .int 1, .str "over", .tuple [.str "zz"]]), .un, .un, .un, .un, .un, .un] = _
  unfold bod_judge_never
  rw [seq_nx s1]
  refine seq_rt ?_
  rw [dIfS_ap, dOr_ap, t1, Option.bind_some, if_neg (by simp), dOr_ap, t2, Option.bind_some, if_neg (by simp), t3]
  rfl
end K04
end
section
set_option linter.all false
set_option maxRecDepth 100000
set_option maxHeartbeats 1000000
namespace K04
open PySem PySem.Spec L2 Dn
variable {N : Net}
noncomputable def innerBody : DSv := (dSeq (dAsg 10 (dCall den_law_gap (dCons (dVar 2) (dCons (dVar 9) (dCons (dVar 12) dNil)))))
    (dSeq (eAsg 13 (eB pAdd (eCall 1 den_law_draw (dCons (dC (.int 3)) dNil)) (ePure (dC (.int 1)))))
    (dSeq (dIfS (dNot (dTru (dCall den_law_truth (dCons (dCall den_judge_never (dCons (dVar 2) (dCons (dTup (dCons (dC (.str "never")) (dCons (dVar 13) (dCons (dVar 11) (dCons (dVar 9) dNil))))) dNil))) (dCons (dB pEq (dVar 10) (dVar 13)) dNil))))) (dRet (dC (.bool false))) dSkip)
    (dIfS (dAnd (dTst (dB pNotN (dVar 10) (dC .none))) (dNot (dTru (dCall den_law_truth (dCons (dCall den_judge_never (dCons (dVar 2) (dCons (dTup (dCons (dC (.str "never")) (dCons (dVar 10) (dCons (dVar 11) (dCons (dVar 9) dNil))))) dNil))) (dCons (dB pGt (dVar 10) (dC (.int 0))) dNil)))))) (dRet (dC (.bool false))) dSkip))))
noncomputable def setBody : DSv := (dSeq (dIfS (dOr (dTst (dB pNe (dCall den_gap_over (dCons (dVar 2) (dCons (dVar 9) dNil))) (dCall den_law_gap (dCons (dVar 2) (dCons (dVar 9) (dCons (dC (.int 1)) dNil)))))) (dTst (dB pNe (dCall den_gap_under (dCons (dVar 2) (dCons (dVar 9) dNil))) (dCall den_law_gap (dCons (dVar 2) (dCons (dVar 9) (dCons (dU pNeg (dC (.int 1))) dNil))))))) (dRet (dC (.bool false))) dSkip)
    (dSeq (dAsg 10 (dCall den_law_gap (dCons (dVar 2) (dCons (dVar 9) (dCons (dC (.int 1)) dNil)))))
    (dSeq (dIfS (dAnd (dTst (dB pNotN (dVar 10) (dC .none))) (dTst (dB pGt (dVar 10) (dVar 7)))) (dRet (dC (.bool false))) dSkip)
    (dFor (dS (dFz (dLst (dCons (dTup (dCons (dC (.str "over")) (dCons (dC (.int 1)) dNil))) (dCons (dTup (dCons (dC (.str "under")) (dCons (dU pNeg (dC (.int 1))) dNil))) dNil))))) [10, 11, 12, 13] (.tp [(.nm 11), (.nm 12)]) innerBody))))
theorem oI_pNe (x : Option Int) : pNe (oI x) (oI x) = some (.bool false) := pNe_self (lay_oI _ _)
section
variable (G : N.Nice) (S : List Str) (hS : S.Sublist N.names) (scP dueP toldP insP madeP : PV) (ov un : Int)
def LE (N : Net) (scP dueP toldP insP madeP : PV) (ov un : Int) (s : Dst) (x9 x10 x11 x12 x13 : Sl) : En := [.fz scP, .ol s.enc, .fz N.enc, .fz dueP, .fz toldP, .fz insP, .fz madeP, .fz (.int ov), .fz (.int un), x9, x10, x11, x12, x13, .un, .un, .un]
include G hS
theorem inner_ok (b : Bool) (s : Dst) (hs : s.Ok) : ∃ s' y10 y13, innerBody (LE N scP dueP toldP insP madeP ov un s (.fz (encS S)) .un (.fz (.str (word b))) (.fz (.int (sgn b))) .un) = some (LE N scP dueP toldP insP madeP ov un s' (.fz (encS S)) (.fz y10) (.fz (.str (word b))) (.fz (.int (sgn b))) (.fz y13), .nx) ∧ s'.Ok := by
  let E : Dst → Sl → Sl → En := fun s a c => LE N scP dueP toldP insP madeP ov un s (.fz (encS S)) a (.fz (.str (word b))) (.fz (.int (sgn b))) c
  have hg := v_law_gap G.wf S b
  have hl : S.length ≤ 1000 := by
    have h1 := hS.length_le
    have h2 := G.four
    have : N.names.length = N.nodes.length := by simp [Net.names]
    omega
  have hj := fun i => v_judge G.wf S (fun x hx => hS.subset hx) hl b i "never"
  obtain ⟨d, s', hd, d0, d3, ho⟩ := v_law_draw s hs 3 (by omega) (by omega)
  refine ⟨s', oI (N.gap b S), .int (d + 1), ?_, ho⟩
  have b1 : (dAsg 10 (dCall den_law_gap (dCons (dVar 2) (dCons (dVar 9) (dCons (dVar 12) dNil))))) (E s .un .un) = some (E s (.fz (oI (N.gap b S))) .un, .nx) := by
    show (((den_law_gap [N.enc, encS S, .int (sgn b)]).map Res.pv)).bind _ = _
    rw [hg]; rfl
  have b2 : (eAsg 13 (eB pAdd (eCall 1 den_law_draw (dCons (dC (.int 3)) dNil)) (ePure (dC (.int 1))))) (E s (.fz (oI (N.gap b S))) .un) = some (E s' (.fz (oI (N.gap b S))) (.fz (.int (d + 1))), .nx) := by
    have e0 : (eCall 1 den_law_draw (dCons (dC (.int 3)) dNil)) (E s (.fz (oI (N.gap b S))) .un) = some (.int d, E s' (.fz (oI (N.gap b S))) .un) := by
      show (den_law_draw s.enc [.int 3]).map _ = _
      rw [hd]; rfl
    rw [eAsg_ap, eB_ap, e0]; rfl
  have j1 : (dCall den_judge_never (dCons (dVar 2) (dCons (dTup (dCons (dC (.str "never")) (dCons (dVar 13) (dCons (dVar 11) (dCons (dVar 9) dNil))))) dNil))) (E s' (.fz (oI (N.gap b S))) (.fz (.int (d + 1)))) = some (.bool (N.gap b S == some (d + 1))) := by
    show (den_judge_never [N.enc, .tuple [.str "never", .int (d + 1), .str (word b), encS S]]).map Res.pv = _
    rw [hj, decide_eq_true (by omega)]; rfl
  have q1 : (dB pEq (dVar 10) (dVar 13)) (E s' (.fz (oI (N.gap b S))) (.fz (.int (d + 1)))) = some (.bool (N.gap b S == some (d + 1))) := dB_of rfl rfl (pEq_oI _ _)
  have tr : ∀ (da db : DPv) (c : Bool), da (E s' (.fz (oI (N.gap b S))) (.fz (.int (d + 1)))) = some (.bool c) → db (E s' (.fz (oI (N.gap b S))) (.fz (.int (d + 1)))) = some (.bool c) → (dNot (dTru (dCall den_law_truth (dCons da (dCons db dNil))))) (E s' (.fz (oI (N.gap b S))) (.fz (.int (d + 1)))) = some false := fun da db c h1 h2 => by
    rw [dNot_ap, dTru_ap, dCall_ap, dCons_ap, h1, Option.bind_some, dCons_ap, h2]
    show ((((den_law_truth [.bool c, .bool c]).map Res.pv).bind tru).map _) = _
    rw [v_law_truth]
    cases c <;> rfl
  have b3 : (dIfS (dNot (dTru (dCall den_law_truth (dCons (dCall den_judge_never (dCons (dVar 2) (dCons (dTup (dCons (dC (.str "never")) (dCons (dVar 13) (dCons (dVar 11) (dCons (dVar 9) dNil))))) dNil))) (dCons (dB pEq (dVar 10) (dVar 13)) dNil))))) (dRet (dC (.bool false))) dSkip) (E s' (.fz (oI (N.gap b S))) (.fz (.int (d + 1)))) = some (E s' (.fz (oI (N.gap b S))) (.fz (.int (d + 1))), .nx) := by
    rw [dIfS_ap, tr _ _ _ j1 q1]; rfl
  have b4 : (dIfS (dAnd (dTst (dB pNotN (dVar 10) (dC .none))) (dNot (dTru (dCall den_law_truth (dCons (dCall den_judge_never (dCons (dVar 2) (dCons (dTup (dCons (dC (.str "never")) (dCons (dVar 10) (dCons (dVar 11) (dCons (dVar 9) dNil))))) dNil))) (dCons (dB pGt (dVar 10) (dC (.int 0))) dNil)))))) (dRet (dC (.bool false))) dSkip) (E s' (.fz (oI (N.gap b S))) (.fz (.int (d + 1)))) = some (E s' (.fz (oI (N.gap b S))) (.fz (.int (d + 1))), .nx) := by
    cases hh : N.gap b S with
    | none => rfl
    | some g =>
      rw [hh] at tr hj
      have j2 : (dCall den_judge_never (dCons (dVar 2) (dCons (dTup (dCons (dC (.str "never")) (dCons (dVar 10) (dCons (dVar 11) (dCons (dVar 9) dNil))))) dNil))) (E s' (.fz (oI (some g))) (.fz (.int (d + 1)))) = some (.bool (decide (0 < g))) := by
        show (den_judge_never [N.enc, .tuple [.str "never", .int g, .str (word b), encS S]]).map Res.pv = _
        rw [hj]
        have e1 : (some g == some g) = true := by simp
        have e2 : decide (1 ≤ g) = decide (0 < g) := by congr 1
        rw [e1, e2, Bool.and_true]; rfl
      have q2 : (dB pGt (dVar 10) (dC (.int 0))) (E s' (.fz (oI (some g))) (.fz (.int (d + 1)))) = some (.bool (decide (0 < g))) := rfl
      have t1 : (dTst (dB pNotN (dVar 10) (dC .none))) (E s' (.fz (oI (some g))) (.fz (.int (d + 1)))) = some true := rfl
      rw [dIfS_ap, dAnd_ap, t1, Option.bind_some, if_pos rfl, tr _ _ _ j2 q2]; rfl
  show innerBody (E s .un .un) = some (E s' (.fz (oI (N.gap b S))) (.fz (.int (d + 1))), .nx)
  unfold innerBody
  rw [seq_nx b1, seq_nx b2, seq_nx b3, b4]
theorem set_ok {f : List Int} (I : Inb N f) (hov : ov = osum N f) (s : Dst) (hs : s.Ok) : ∃ s' ρ', setBody (LE N scP dueP toldP insP madeP ov un s (.fz (encS S)) .un .un .un .un) = some (ρ', .nx) ∧ fgE ρ' [9, 10, 11, 12, 13] = LE N scP dueP toldP insP madeP ov un s' .un .un .un .un .un ∧ s'.Ok := by
  let E : Sl → En := fun a => LE N scP dueP toldP insP madeP ov un s (.fz (encS S)) a .un .un .un
  have g1 : (dCall den_gap_over (dCons (dVar 2) (dCons (dVar 9) dNil))) (E .un) = some (oI (N.gap true S)) := by
    show (den_gap_over [N.enc, encS S]).map Res.pv = _
    rw [v_gap_over G.wf S, gap_true]; rfl
  have g2 : (dCall den_gap_under (dCons (dVar 2) (dCons (dVar 9) dNil))) (E .un) = some (oI (N.gap false S)) := by
    show (den_gap_under [N.enc, encS S]).map Res.pv = _
    rw [v_gap_under G.wf S, gap_false]; rfl
  have l1 : (dCall den_law_gap (dCons (dVar 2) (dCons (dVar 9) (dCons (dC (.int 1)) dNil)))) (E .un) = some (oI (N.gap true S)) := by
    have := v_law_gap G.wf S true
    show (den_law_gap [N.enc, encS S, .int (sgn true)]).map Res.pv = _
    rw [this]; rfl
  have l2 : (dCall den_law_gap (dCons (dVar 2) (dCons (dVar 9) (dCons (dU pNeg (dC (.int 1))) dNil)))) (E .un) = some (oI (N.gap false S)) := by
    have := v_law_gap G.wf S false
    show (den_law_gap [N.enc, encS S, .int (sgn false)]).map Res.pv = _
    rw [this]; rfl
  have b1 : (dIfS (dOr (dTst (dB pNe (dCall den_gap_over (dCons (dVar 2) (dCons (dVar 9) dNil))) (dCall den_law_gap (dCons (dVar 2) (dCons (dVar 9) (dCons (dC (.int 1)) dNil)))))) (dTst (dB pNe (dCall den_gap_under (dCons (dVar 2) (dCons (dVar 9) dNil))) (dCall den_law_gap (dCons (dVar 2) (dCons (dVar 9) (dCons (dU pNeg (dC (.int 1))) dNil))))))) (dRet (dC (.bool false))) dSkip) (E .un) = some (E .un, .nx) := by
    rw [dIfS_ap, dOr_ap, tst_of (dB_of g1 l1 (oI_pNe _)), Option.bind_some, if_neg (by simp), tst_of (dB_of g2 l2 (oI_pNe _))]; rfl
  have b2 : (dAsg 10 (dCall den_law_gap (dCons (dVar 2) (dCons (dVar 9) (dCons (dC (.int 1)) dNil))))) (E .un) = some (E (.fz (oI (N.gap true S))), .nx) := by
    rw [dAsg_ap, l1]; rfl
  have b3 : (dIfS (dAnd (dTst (dB pNotN (dVar 10) (dC .none))) (dTst (dB pGt (dVar 10) (dVar 7)))) (dRet (dC (.bool false))) dSkip) (E (.fz (oI (N.gap true S)))) = some (E (.fz (oI (N.gap true S))), .nx) := by
    cases hg : N.gap true S with
    | none => rfl
    | some g =>
      have hle := gap_le G.wf I hg
      have t1 : (dTst (dB pNotN (dVar 10) (dC .none))) (E (.fz (oI (some g)))) = some true := rfl
      have t2 : (dTst (dB pGt (dVar 10) (dVar 7))) (E (.fz (oI (some g)))) = some false := by
        refine tst_of (dB_of (x := .int g) (y := .int ov) rfl rfl ?_)
        rw [pGt_int, decide_eq_false (by omega)]
      rw [dIfS_ap, dAnd_ap, t1, Option.bind_some, if_pos rfl, t2]; rfl
  obtain ⟨s2, y10, y13, i1, ho2⟩ := inner_ok G S hS scP dueP toldP insP madeP ov un true s hs
  obtain ⟨s3, z10, z13, i2, ho3⟩ := inner_ok G S hS scP dueP toldP insP madeP ov un false s2 ho2
  refine ⟨s3, LE N scP dueP toldP insP madeP ov un s3 (.fz (encS S)) .un .un .un .un, ?_, by simp [LE], ho3⟩
  show setBody (E .un) = _
  unfold setBody
  rw [seq_nx b1, seq_nx b2, seq_nx b3]
  have q : (dS (dFz (dLst (dCons (dTup (dCons (dC (.str "over")) (dCons (dC (.int 1)) dNil))) (dCons (dTup (dCons (dC (.str "under")) (dCons (dU pNeg (dC (.int 1))) dNil))) dNil))))) (E (.fz (oI (N.gap true S)))) = some [.tuple [.str (word true), .int (sgn true)], .tuple [.str (word false), .int (sgn false)]] := rfl
  rw [dFor_ap, q, Option.bind_some]
  rw [forD_next (ρ1 := LE N scP dueP toldP insP madeP ov un s (.fz (encS S)) .un (.fz (.str (word true))) (.fz (.int (sgn true))) .un) (fl := .nx) (by simp [E, LE]) i1 (.inl rfl)]
  rw [forD_next (ρ1 := LE N scP dueP toldP insP madeP ov un s2 (.fz (encS S)) .un (.fz (.str (word false))) (.fz (.int (sgn false))) .un) (fl := .nx) (by simp [E, LE]) i2 (.inl rfl), forD_nil]
  simp [LE]
end
theorem sets_loop (G : N.Nice) (scP dueP toldP insP madeP : PV) (ov un : Int) {f : List Int} (I : Inb N f) (hov : ov = osum N f) : ∀ (rows : List (List Str)) (s : Dst) (ρ : En), (∀ S ∈ rows, S.Sublist N.names) → s.Ok → fgE ρ [9, 10, 11, 12, 13] = LE N scP dueP toldP insP madeP ov un s .un .un .un .un .un →
    ∃ s', forD [9, 10, 11, 12, 13] (.nm 9) setBody (rows.map encS) ρ = some (LE N scP dueP toldP insP madeP ov un s' .un .un .un .un .un, .nx) ∧ s'.Ok
  | [], s, ρ, _, hs, h => ⟨s, by rw [List.map_nil, forD_nil, h], hs⟩
  | S :: rows, s, ρ, hr, hs, h => by
    obtain ⟨s', ρ', h1, h2, h3⟩ := set_ok G S (hr S List.mem_cons_self) scP dueP toldP insP madeP ov un I hov s hs
    obtain ⟨s2, h4, h5⟩ := sets_loop G scP dueP toldP insP madeP ov un I hov rows s' ρ' (fun T hT => hr T (List.mem_cons_of_mem _ hT)) h3 h2
    refine ⟨s2, ?_, h5⟩
    rw [List.map_cons, forD_next (ρ1 := LE N scP dueP toldP insP madeP ov un s (.fz (encS S)) .un .un .un .un) (fl := .nx) (by rw [h]; rfl) h1 (.inl rfl), h4]
end K04
end
section
set_option linter.all false
set_option maxRecDepth 100000
set_option maxHeartbeats 1000000
namespace K04
open PySem PySem.Spec L2 Dn
theorem law_true (ns : List Int) (h : ns.length ≤ 63) : den_law [.list (ns.map .int)] = some (.va (.bool true)) := by
  let scP := PyData.list (ns.map .int)
  let A : Dst → Sl → Sl → Sl → Sl → Sl → Sl → Sl → Sl → En := fun s net due told ins made ov un bk => [.fz scP, .ol s.enc, net, due, told, ins, made, ov, un, .un, .un, .un, .un, .un, bk, .un, .un]
  have ho0 : Dst.Ok ⟨ns, 0, 0, 0, false⟩ := ⟨by show (0 : Int) ≤ 0; omega⟩
  generalize hs0 : (⟨ns, 0, 0, 0, false⟩ : Dst) = s0 at ho0
  have b1 : (dAsgO 1 (dCallL den_law_state (dCons (dVar 0) dNil))) [.fz scP, .un, .un, .un, .un, .un, .un, .un, .un, .un, .un, .un, .un, .un, .un, .un, .un] = some (A s0 .un .un .un .un .un .un .un .un, .nx) := by
    have := v_law_state ns
    rw [hs0] at this
    show ((den_law_state [scP]).bind Res.ls).bind _ = _
    rw [this]; rfl
  obtain ⟨N, s1, hnet, G, ho1⟩ := v_law_net s0 ho0
  have W := G.wf
  have l1 : N.enc = .tuple [.str "net", .tuple (N.nodes.map encNode), .tuple (N.arcs.map N.encArc)] := rfl
  have b2 : (eAsg 2 (eCall 1 den_law_net (dCons (dC (.int 4)) (dCons (dC (.bool true)) dNil)))) (A s0 .un .un .un .un .un .un .un .un) = some (A s1 (.fz N.enc) .un .un .un .un .un .un .un, .nx) := by
    have e : (eCall 1 den_law_net (dCons (dC (.int 4)) (dCons (dC (.bool true)) dNil))) (A s0 .un .un .un .un .un .un .un .un) = some (N.enc, A s1 .un .un .un .un .un .un .un .un) := by
      show (den_law_net s0.enc [.int 4, .bool true]).map _ = _
      rw [hnet]; rfl
    rw [eAsg_ap, e]; rfl
  obtain ⟨f0, I0, F0, hff, hasB, hhas, hb⟩ := v_has_flow W
  have hnev := v_law_never W G.srt (by have := G.four; omega)
  rw [never_lack W I0 F0] at hnev
  generalize hdue : lackP N f0 = dueP at hnev
  have dueN : isN dueP = true ↔ Even N f0 := by rw [← hdue]; exact lack_isN f0
  have layD : Lay 60 dueP := by rw [← hdue]; exact lay_lack G f0
  have b3 : (dAsg 3 (dCall den_law_never (dCons (dVar 2) dNil))) (A s1 (.fz N.enc) .un .un .un .un .un .un .un) = some (A s1 (.fz N.enc) (.fz dueP) .un .un .un .un .un .un, .nx) := by
    show ((den_law_never [N.enc]).map Res.pv).bind _ = _
    rw [hnev]; rfl
  generalize htold : firstP N f0 = toldP at hff
  have b4 : (dAsg 4 (dCall den_first_flow (dCons (dVar 2) dNil))) (A s1 (.fz N.enc) (.fz dueP) .un .un .un .un .un .un) = some (A s1 (.fz N.enc) (.fz dueP) (.fz toldP) .un .un .un .un .un, .nx) := by
    show ((den_first_flow [N.enc]).map Res.pv).bind _ = _
    rw [hff]; rfl
  let A4 := A s1 (.fz N.enc) (.fz dueP) (.fz toldP) .un .un .un .un .un
  have hbN : hasB = isN dueP := by rw [Bool.eq_iff_iff, hb, dueN]
  have b5 : (dIfS (dOr (dNot (dTru (dCall den_law_truth (dCons (dCall den_has_flow (dCons (dVar 2) dNil)) (dCons (dB pIsN (dVar 3) (dC .none)) dNil))))) (dAnd (dTst (dB pNotN (dVar 3) (dC .none))) (dTst (dB pNe (dVar 4) (dVar 3))))) (dRet (dC (.bool false))) dSkip) A4 = some (A4, .nx) := by
    have t1 : (dNot (dTru (dCall den_law_truth (dCons (dCall den_has_flow (dCons (dVar 2) dNil)) (dCons (dB pIsN (dVar 3) (dC .none)) dNil))))) A4 = some false := by
      have x1 : (dCall den_has_flow (dCons (dVar 2) dNil)) A4 = some (.bool hasB) := by
        show (den_has_flow [N.enc]).map Res.pv = _
        rw [hhas]; rfl
      have x2 : (dB pIsN (dVar 3) (dC .none)) A4 = some (.bool (isN dueP)) := dB_of (x := dueP) rfl rfl (pIsN_ap _)
      rw [dNot_ap, dTru_ap, dCall_ap, dCons_ap, x1, Option.bind_some, dCons_ap, x2, ← hbN]
      show ((((den_law_truth [.bool hasB, .bool hasB]).map Res.pv).bind tru).map _) = _
      rw [v_law_truth]
      cases hasB <;> rfl
    have t2 : (dTst (dB pNotN (dVar 3) (dC .none))) A4 = some (!isN dueP) := tst_of (dB_of (x := dueP) rfl rfl (pNotN_ap _))
    rw [dIfS_ap, dOr_ap, t1, Option.bind_some, if_neg (by simp), dAnd_ap, t2, Option.bind_some]
    by_cases hE : Even N f0
    · rw [dueN.mpr hE]; rfl
    · have hN : isN dueP = false := by rw [Bool.eq_false_iff]; exact fun q => hE (dueN.mp q)
      have e : toldP = dueP := by rw [← htold, ← hdue]; unfold firstP; rw [if_neg hE]
      have t3 : (dTst (dB pNe (dVar 4) (dVar 3))) A4 = some false := tst_of (dB_of (x := toldP) (y := dueP) rfl rfl (by rw [e]; exact pNe_self layD))
      rw [hN, if_pos (show (!false) = true from rfl), t3]; rfl
  have b6 : (dIfS (dAnd (dTst (dB pIsN (dVar 3) (dC .none))) (dOr (dTst (dB pNe (dIx (dS (dVar 4)) (dC (.int 0))) (dC (.str "flow")))) (dOr (dTst (dB pNotB (dCall den_is_flow (dCons (dVar 2) (dCons (dIx (dS (dVar 4)) (dC (.int 1))) dNil))) (dC (.bool true)))) (dTst (dB pNe (dFz (dCallL den_law_rest (dCons (dVar 2) (dCons (dIx (dS (dVar 4)) (dC (.int 1))) dNil)))) (dFz (dComp (dS (dIx (dS (dVar 2)) (dC (.int 1)))) (.nm 16) [16] dYes (dC (.int 0))))))))) (dRet (dC (.bool false))) dSkip) A4 = some (A4, .nx) := by
    have t1 : (dTst (dB pIsN (dVar 3) (dC .none))) A4 = some (isN dueP) := tst_of (dB_of (x := dueP) rfl rfl (pIsN_ap _))
    rw [dIfS_ap, dAnd_ap, t1, Option.bind_some]
    by_cases hE : Even N f0
    · rw [dueN.mpr hE, if_pos rfl]
      have e : toldP = .tuple [.str "flow", encF f0] := by rw [← htold]; unfold firstP; rw [if_pos hE]
      have x0 : (dIx (dS (dVar 4)) (dC (.int 0))) A4 = some (.str "flow") := by
        show (asSeq toldP).bind _ = _
        rw [e]; rfl
      have x1 : (dIx (dS (dVar 4)) (dC (.int 1))) A4 = some (encF f0) := by
        show (asSeq toldP).bind _ = _
        rw [e]; rfl
      have t2 : (dTst (dB pNe (dIx (dS (dVar 4)) (dC (.int 0))) (dC (.str "flow")))) A4 = some false := tst_of (dB_of x0 rfl (pNe_self (lay_str _ (by decide +kernel))))
      have t3 : (dTst (dB pNotB (dCall den_is_flow (dCons (dVar 2) (dCons (dIx (dS (dVar 4)) (dC (.int 1))) dNil))) (dC (.bool true)))) A4 = some false := by
        have y : (dCall den_is_flow (dCons (dVar 2) (dCons (dIx (dS (dVar 4)) (dC (.int 1))) dNil))) A4 = some (.bool true) := by
          rw [dCall_ap, dCons_ap, dCons_ap, x1]
          show (den_is_flow [N.enc, encF f0]).map Res.pv = _
          rw [v_is_flow W f0 I0 hE]; rfl
        exact tst_of (dB_of y rfl (pNotB_ap _ _))
      have t4 : (dTst (dB pNe (dFz (dCallL den_law_rest (dCons (dVar 2) (dCons (dIx (dS (dVar 4)) (dC (.int 1))) dNil)))) (dFz (dComp (dS (dIx (dS (dVar 2)) (dC (.int 1)))) (.nm 16) [16] dYes (dC (.int 0)))))) A4 = some false := by
        have y : (dFz (dCallL den_law_rest (dCons (dVar 2) (dCons (dIx (dS (dVar 4)) (dC (.int 1))) dNil)))) A4 = some (.list ((N.rest f0).map .int)) := by
          rw [dFz_ap, dCallL_ap, dCons_ap, dCons_ap, x1]
          show ((den_law_rest [N.enc, encF f0]).bind Res.ls).map _ = _
          rw [v_law_rest W f0 I0.len]; rfl
        have z : (dFz (dComp (dS (dIx (dS (dVar 2)) (dC (.int 1)))) (.nm 16) [16] dYes (dC (.int 0)))) A4 = some (.list ((N.rest f0).map .int)) := by
          have c := compD_all (t := .nm 16) (te := dC (.int 0)) (ρ := A4) encNode (fun _ => PyData.int 0) N.nodes fun p _ => ⟨_, rfl, rfl⟩
          have q : (dS (dIx (dS (dVar 2)) (dC (.int 1)))) A4 = some (N.nodes.map encNode) := rfl
          have w : wipeE A4 [16] = some A4 := rfl
          have er : N.nodes.map (fun _ => PyData.int 0) = (N.rest f0).map .int := by
            have hz := even_zero.mp hE
            have hl := rest_length (N := N) f0
            apply List.ext_getElem
            · simp [hl]
            · intro i h1 h2
              have := hz _ (List.getElem_mem (l := N.rest f0) (n := i) (by simpa using h2))
              simp [this]
          rw [dFz_ap, dComp_ap, q, Option.bind_some, W.lim, Option.bind_some, w, Option.bind_some, c, er]; rfl
        exact tst_of (dB_of y z (pNe_self ((lay_ints (N.rest f0)).mono (by omega))))
      rw [dOr_ap, t2, Option.bind_some, if_neg (by simp), dOr_ap, t3, Option.bind_some, if_neg (by simp), t4]; rfl
    · have hN : isN dueP = false := by rw [Bool.eq_false_iff]; exact fun q => hE (dueN.mp q)
      rw [hN]; rfl
  obtain ⟨g, s2, hins, Ig, ho2⟩ := v_law_inside G s1 ho1
  have b7 : (eAsg 5 (eCall 1 den_law_inside (dCons (dVar 2) dNil))) A4 = some (A s2 (.fz N.enc) (.fz dueP) (.fz toldP) (.fz (encF g)) .un .un .un .un, .nx) := by
    have e : (eCall 1 den_law_inside (dCons (dVar 2) dNil)) A4 = some (encF g, A s2 (.fz N.enc) (.fz dueP) (.fz toldP) .un .un .un .un .un) := by
      show (den_law_inside s1.enc [N.enc]).map _ = _
      rw [hins]; rfl
    rw [eAsg_ap, e]; rfl
  obtain ⟨m, hfil, Im, Fm⟩ := v_filled W g Ig
  have b8 : (dAsg 6 (dCall den_filled (dCons (dVar 2) (dCons (dVar 5) dNil)))) (A s2 (.fz N.enc) (.fz dueP) (.fz toldP) (.fz (encF g)) .un .un .un .un) = some (A s2 (.fz N.enc) (.fz dueP) (.fz toldP) (.fz (encF g)) (.fz (encF m)) .un .un .un, .nx) := by
    show ((den_filled [N.enc, encF g]).map Res.pv).bind _ = _
    rw [hfil]; rfl
  let A6 : Sl → Sl → En := fun a b => A s2 (.fz N.enc) (.fz dueP) (.fz toldP) (.fz (encF g)) (.fz (encF m)) a b .un
  have dm : lackP N m = dueP := by rw [← hdue, ← never_lack W Im Fm, never_lack W I0 F0]
  have b9 : (dIfS (dTst (dB pNe (dCall den_lacking (dCons (dVar 2) (dCons (dVar 6) dNil))) (dVar 3))) (dRet (dC (.bool false))) dSkip) (A6 .un .un) = some (A6 .un .un, .nx) := by
    have y : (dCall den_lacking (dCons (dVar 2) (dCons (dVar 6) dNil))) (A6 .un .un) = some dueP := by
      show (den_lacking [N.enc, encF m]).map Res.pv = _
      rw [v_lacking W m Im.len, dm]; rfl
    rw [dIfS_ap, tst_of (dB_of y rfl (pNe_self layD))]; rfl
  have lo : ∀ a b, (dS (dFz (dCallL den_left_over (dCons (dVar 2) (dCons (dVar 6) dNil))))) (A6 a b) = some ((N.rest m).map .int) := fun a b => by
    show ((((den_left_over [N.enc, encF m]).bind Res.ls).map PyData.list).bind asSeq) = _
    rw [v_left_over W m]; rfl
  have hrl := rest_length (N := N) m
  have limR : Dn.lim ((N.rest m).map PyData.int) = some ((N.rest m).map .int) := lim_ok (by rw [List.length_map, hrl]; have := W.few; omega)
  have part : ∀ (p : Int → Bool) (tt : DTv) (a b : Sl), wipeE (A6 a b) [15] = some (A6 a b) → (∀ x : Int, tt ((A6 a b).set 15 (.fz (.int x))) = some (p x)) → (∀ x : Int, tgB (.nm 15) (.int x) (A6 a b) = some ((A6 a b).set 15 (.fz (.int x)))) → (∀ x : Int, (dVar 15) ((A6 a b).set 15 (.fz (.int x))) = some (.int x)) →
      (dG gSum (dComp (dS (dFz (dCallL den_left_over (dCons (dVar 2) (dCons (dVar 6) dNil))))) (.nm 15) [15] tt (dVar 15))) (A6 a b) = some (.int ((N.rest m).filter p).sum) := fun p tt a b hw htt ht hv => by
    have c := compD_map (t := .nm 15) (tt := tt) (te := dVar 15) (ρ := A6 a b) PyData.int p PyData.int (N.rest m) fun x _ => ⟨_, ht x, htt x, fun _ => hv x⟩
    rw [dG_ap, dComp_ap, lo, Option.bind_some, limR, Option.bind_some, hw, Option.bind_some, c, Option.bind_some, gSum_ints]
  have b10 : (dAsg 7 (dG gSum (dComp (dS (dFz (dCallL den_left_over (dCons (dVar 2) (dCons (dVar 6) dNil))))) (.nm 15) [15] (dTst (dB pGt (dVar 15) (dC (.int 0)))) (dVar 15)))) (A6 .un .un) = some (A6 (.fz (.int (osum N m))) .un, .nx) := by
    have := part (fun x => decide (0 < x)) (dTst (dB pGt (dVar 15) (dC (.int 0)))) .un .un rfl (fun _ => rfl) (fun _ => rfl) (fun _ => rfl)
    rw [over_sum] at this
    rw [dAsg_ap, this]; rfl
  have b11 : (dAsg 8 (dB pSub (dC (.int 0)) (dG gSum (dComp (dS (dFz (dCallL den_left_over (dCons (dVar 2) (dCons (dVar 6) dNil))))) (.nm 15) [15] (dTst (dB pLt (dVar 15) (dC (.int 0)))) (dVar 15))))) (A6 (.fz (.int (osum N m))) .un) = some (A6 (.fz (.int (osum N m))) (.fz (.int (osum N.turn m))), .nx) := by
    have := part (fun x => decide (x < 0)) (dTst (dB pLt (dVar 15) (dC (.int 0)))) (.fz (.int (osum N m))) .un rfl (fun _ => rfl) (fun _ => rfl) (fun _ => rfl)
    rw [dAsg_ap, dB_of (x := .int 0) rfl this (pII_int _ _ _), ← under_sum W]; rfl
  let A8 := A6 (.fz (.int (osum N m))) (.fz (.int (osum N.turn m)))
  have b12 : (dIfS (dTst (dB pIsN (dVar 3) (dC .none))) (dIfS (dTst (dB pNe (dB pAdd (dVar 7) (dVar 8)) (dC (.int 0)))) (dRet (dC (.bool false))) dSkip) (dIfS (dTst (dB pNe (dIx (dS (dVar 3)) (dC (.int 1))) (dIx (dLst (dCons (dVar 8) (dCons (dVar 7) dNil))) (dG gInt (dCons (dB pEq (dIx (dS (dVar 3)) (dC (.int 2))) (dC (.str "over"))) dNil))))) (dRet (dC (.bool false))) dSkip)) A8 = some (A8, .nx) := by
    have t1 : (dTst (dB pIsN (dVar 3) (dC .none))) A8 = some (isN dueP) := tst_of (dB_of (x := dueP) rfl rfl (pIsN_ap _))
    rw [dIfS_ap, t1, Option.bind_some]
    have hE1 : isN dueP = true ↔ Even N m := by rw [← dm]; exact lack_isN m
    by_cases hE : Even N m
    · rw [hE1.mpr hE, if_pos rfl]
      have z1 : osum N m = 0 := osum_zero hE.1
      have z2 : osum N.turn m = 0 := osum_zero (by rw [turn_rest W, overs_neg]; exact hE.2)
      have y : (dB pAdd (dVar 7) (dVar 8)) A8 = some (.int 0) := by
        show some (PyData.int (osum N m + osum N.turn m)) = _
        rw [z1, z2]; rfl
      rw [dIfS_ap, tst_of (dB_of y rfl (pNe_self (lay_int _ _)))]; rfl
    · have hN : isN dueP = false := by rw [Bool.eq_false_iff]; exact fun q => hE (hE1.mp q)
      rw [hN, if_neg (by simp)]
      have fin : ∀ (b : Bool) (i : Int) (S : PV), dueP = .tuple [.str "never", .int i, .str (word b), S] → i = (if b then osum N m else osum N.turn m) → (dIfS (dTst (dB pNe (dIx (dS (dVar 3)) (dC (.int 1))) (dIx (dLst (dCons (dVar 8) (dCons (dVar 7) dNil))) (dG gInt (dCons (dB pEq (dIx (dS (dVar 3)) (dC (.int 2))) (dC (.str "over"))) dNil))))) (dRet (dC (.bool false))) dSkip) A8 = some (A8, .nx) := fun b i S e hi => by
        have x1 : (dIx (dS (dVar 3)) (dC (.int 1))) A8 = some (.int i) := by
          show (asSeq dueP).bind _ = _
          rw [e]; rfl
        have x2 : (dIx (dS (dVar 3)) (dC (.int 2))) A8 = some (.str (word b)) := by
          show (asSeq dueP).bind _ = _
          rw [e]; rfl
        have x3 : (dB pEq (dIx (dS (dVar 3)) (dC (.int 2))) (dC (.str "over"))) A8 = some (.bool b) := by
          rw [dB_of x2 rfl (pEq_str (by cases b <;> decide +kernel) (by decide +kernel))]
          have e2 : (word b == ("over" : Str)) = b := by cases b <;> decide +kernel
          rw [e2]
        have x4 : (dIx (dLst (dCons (dVar 8) (dCons (dVar 7) dNil))) (dG gInt (dCons (dB pEq (dIx (dS (dVar 3)) (dC (.int 2))) (dC (.str "over"))) dNil))) A8 = some (.int i) := by
          rw [dIx_ap, dG_ap, dCons_ap, x3, hi]
          cases b <;> rfl
        rw [dIfS_ap, tst_of (dB_of x1 x4 (pNe_self (lay_int _ _)))]; rfl
      have eq := lackP_eq W m
      rw [dm] at eq
      by_cases h1 : overs (N.rest m) = []
      · have h2 : unders (N.rest m) ≠ [] := fun q => hE ⟨h1, q⟩
        rw [if_neg (by simpa using h1), if_pos h2] at eq
        exact fin false _ _ eq rfl
      · rw [if_pos h1] at eq
        exact fin true _ _ eq rfl
  have eA8 : A8 = LE N scP dueP toldP (encF g) (encF m) (osum N m) (osum N.turn m) s2 .un .un .un .un .un := rfl
  obtain ⟨s3, hloop, ho3⟩ := sets_loop G scP dueP toldP (encF g) (encF m) (osum N m) (osum N.turn m) Im rfl (setsFrom [[]] N.names) s2 A8 (fun S hS => row_mem.mp hS) ho2 (by simp [eA8, LE])
  let A9 : Sl → En := fun b => A s3 (.fz N.enc) (.fz dueP) (.fz toldP) (.fz (encF g)) (.fz (encF m)) (.fz (.int (osum N m))) (.fz (.int (osum N.turn m))) b
  have b13 : (dFor (dS (dFz (dCallL den_law_sets (dCons (dVar 2) dNil)))) [9, 10, 11, 12, 13] (.nm 9) setBody) A8 = some (A9 .un, .nx) := by
    have q : (dS (dFz (dCallL den_law_sets (dCons (dVar 2) dNil)))) A8 = some ((setsFrom [[]] N.names).map encS) := by
      show ((((den_law_sets [N.enc]).bind Res.ls).map PyData.list).bind asSeq) = _
      rw [v_law_sets W (by have := G.four; omega)]; rfl
    rw [dFor_ap, q, Option.bind_some, hloop]; rfl
  have b14 : (dIfS (dOr (dTst (dB pNotB (dCall den_judge_never (dCons (dVar 2) (dCons (dTup (dCons (dC (.str "never")) (dCons (dC (.int 1)) (dCons (dC (.str "beside")) (dCons (dTup (dCons (dC (.str "a")) dNil)) dNil))))) dNil))) (dC (.bool false)))) (dTst (dB pNotB (dCall den_judge_never (dCons (dVar 2) (dCons (dTup (dCons (dC (.str "never")) (dCons (dC (.int 1)) (dCons (dC (.str "over")) (dCons (dTup (dCons (dC (.str "zz")) dNil)) dNil))))) dNil))) (dC (.bool false))))) (dRet (dC (.bool false))) dSkip) (A9 .un) = some (A9 .un, .nx) := by
    have y1 : (dCall den_judge_never (dCons (dVar 2) (dCons (dTup (dCons (dC (.str "never")) (dCons (dC (.int 1)) (dCons (dC (.str "beside")) (dCons (dTup (dCons (dC (.str "a")) dNil)) dNil))))) dNil))) (A9 .un) = some (.bool false) := by
      show (den_judge_never [N.enc, .tuple [.str "never", .int 1, .str "beside", .tuple [.str "a"]]]).map Res.pv = _
      rw [v_judge_beside]; rfl
    have y2 : (dCall den_judge_never (dCons (dVar 2) (dCons (dTup (dCons (dC (.str "never")) (dCons (dC (.int 1)) (dCons (dC (.str "over")) (dCons (dTup (dCons (dC (.str "zz")) dNil)) dNil))))) dNil))) (A9 .un) = some (.bool false) := by
      show (den_judge_never [N.enc, .tuple [.str "never", .int 1, .str "over", .tuple [.str "zz"]]]).map Res.pv = _
      rw [v_judge_zz G]; rfl
    have t1 := tst_of (dB_of (db := dC (.bool false)) (ρ := A9 .un) y1 rfl (pNotB_ap _ _))
    have t2 := tst_of (dB_of (db := dC (.bool false)) (ρ := A9 .un) y2 rfl (pNotB_ap _ _))
    rw [dIfS_ap, dOr_ap, t1, Option.bind_some, if_neg (by simp [isBp]), t2]; rfl
  obtain ⟨fT, IT, FT, hT⟩ := v_first_flow W.turn
  generalize hbk : firstP N.turn fT = bkP at hT
  have b15 : (dAsg 14 (dCall den_first_flow (dCons (dCall den_turned_net (dCons (dVar 2) dNil)) dNil))) (A9 .un) = some (A9 (.fz bkP), .nx) := by
    have y : (dCall den_turned_net (dCons (dVar 2) dNil)) (A9 .un) = some N.turn.enc := by
      show (den_turned_net [N.enc]).map Res.pv = _
      rw [v_turned_net W]; rfl
    rw [dAsg_ap, dCall_ap, dCons_ap, y]
    show ((den_first_flow [N.turn.enc]).map Res.pv).bind _ = _
    rw [hT]; rfl
  have hEv : Even N.turn fT ↔ isN dueP = true := by
    have J : Inb N fT := by have := IT.turn; rwa [turn_turn] at this
    have K : Full N fT := by have := FT.turn W.turn; rwa [turn_turn] at this
    rw [even_turn W, dueN]
    exact even_one W J K I0 F0
  have b16 : (dIfS (dTst (dB pNe (dB pEq (dIx (dS (dVar 14)) (dC (.int 0))) (dC (.str "flow"))) (dB pIsN (dVar 3) (dC .none)))) (dRet (dC (.bool false))) dSkip) (A9 (.fz bkP)) = some (A9 (.fz bkP), .nx) := by
    have y2 : (dB pIsN (dVar 3) (dC .none)) (A9 (.fz bkP)) = some (.bool (isN dueP)) := dB_of (x := dueP) rfl rfl (pIsN_ap _)
    have y1 : (dB pEq (dIx (dS (dVar 14)) (dC (.int 0))) (dC (.str "flow"))) (A9 (.fz bkP)) = some (.bool (isN dueP)) := by
      by_cases hE : Even N.turn fT
      · have e : bkP = .tuple [.str "flow", encF fT] := by rw [← hbk]; unfold firstP; rw [if_pos hE]
        have x0 : (dIx (dS (dVar 14)) (dC (.int 0))) (A9 (.fz bkP)) = some (.str "flow") := by
          show (asSeq bkP).bind _ = _
          rw [e]; rfl
        rw [dB_of x0 rfl (pEq_self (lay_str _ (by decide +kernel))), hEv.mp hE]
      · obtain ⟨l, hl⟩ := lackP_tup hE
        have e : bkP = .tuple (.str "never" :: l) := by rw [← hbk]; unfold firstP; rw [if_neg hE, hl]
        have x0 : (dIx (dS (dVar 14)) (dC (.int 0))) (A9 (.fz bkP)) = some (.str "never") := by
          show (asSeq bkP).bind (fun l => (some (PyData.int 0)).bind fun y => (asInt y).bind fun i => atI l i) = _
          rw [e]; simp
        have hN : isN dueP = false := by rw [Bool.eq_false_iff]; exact fun q => hE (hEv.mpr q)
        have e2 : (("never" : Str) == "flow") = false := by decide +kernel
        rw [dB_of x0 rfl (pEq_str (by decide +kernel) (by decide +kernel)), hN, e2]
    have e3 : (!(isN dueP == isN dueP)) = false := by cases isN dueP <;> rfl
    have t := tst_of (dB_of y1 y2 (pNe_bool _ _))
    rw [e3] at t
    rw [dIfS_ap, t]; rfl
  obtain ⟨s4, hwalk⟩ := v_law_walks_hold G s3 ho3
  have b17 : (eRet (eCall 1 den_law_walks_hold (dCons (dVar 2) dNil))) (A9 (.fz bkP)) = some (A s4 (.fz N.enc) (.fz dueP) (.fz toldP) (.fz (encF g)) (.fz (encF m)) (.fz (.int (osum N m))) (.fz (.int (osum N.turn m))) (.fz bkP), .rt (.va (.bool true))) := by
    have e : (eCall 1 den_law_walks_hold (dCons (dVar 2) dNil)) (A9 (.fz bkP)) = some (.bool true, A s4 (.fz N.enc) (.fz dueP) (.fz toldP) (.fz (encF g)) (.fz (encF m)) (.fz (.int (osum N m))) (.fz (.int (osum N.turn m))) (.fz bkP)) := by
      show (den_law_walks_hold s3.enc [N.enc]).map _ = _
      rw [hwalk]; rfl
    rw [eRet_ap, e]; rfl
  refine runD_rt (ρ' := A s4 (.fz N.enc) (.fz dueP) (.fz toldP) (.fz (encF g)) (.fz (encF m)) (.fz (.int (osum N m))) (.fz (.int (osum N.turn m))) (.fz bkP)) rfl rfl ?_
  show bod_law [.fz scP, .un, .un, .un, .un, .un, .un, .un, .un, .un, .un, .un, .un, .un, .un, .un, .un] = _
  unfold bod_law
  unfold setBody innerBody at b13
  rw [seq_nx b1, seq_nx b2, seq_nx b3, seq_nx b4, seq_nx b5, seq_nx b6, seq_nx b7, seq_nx b8, seq_nx b9, seq_nx b10, seq_nx b11, seq_nx b12, seq_nx b13, seq_nx b14, seq_nx b15, seq_nx b16]
  exact b17
end K04
end
section
set_option Elab.async false
set_option linter.all false
set_option maxRecDepth 100000
set_option maxHeartbeats 4000000
namespace K04
open PySem PySem.Spec L2 Dn
theorem all_mk {l : PySem.W.OpenLaw} {w : World} {K : PySem.W.Frag} {h : Heap} {mg : Str → Option Value} {fa : Addr} (X : K.In h) (G : h.Ns mainGlobals mg) (hfa : mg "law" = some (.ref fa))
    {od_is_whole an_is_whole : Option Addr} {sl_is_whole : Array (Option Value)} {oc_is_whole kV_is_whole dc_is_whole pm_is_whole cd_is_whole ct_is_whole : Value} {f_is_whole : Addr}
    (a_is_whole : PySem.W.nsIn K mainGlobals "is_whole" = some (some (.ref f_is_whole))) (l_is_whole : K.lookup f_is_whole = some ⟨oc_is_whole, od_is_whole, .func (PySem.W.fnOf "is_whole" "is_whole" (defArgs s_is_whole) (defBody s_is_whole) (defScope s_is_whole) .none kV_is_whole dc_is_whole pm_is_whole an_is_whole cd_is_whole ct_is_whole), sl_is_whole⟩)
    (c_is_whole : PySem.W.codeIn K cd_is_whole "is_whole" = true) (k_is_whole : PySem.W.keepIn K (.ref f_is_whole) = true)
    {od_least_of an_least_of : Option Addr} {sl_least_of : Array (Option Value)} {oc_least_of kV_least_of dc_least_of pm_least_of cd_least_of ct_least_of : Value} {f_least_of : Addr}
    (a_least_of : PySem.W.nsIn K mainGlobals "least_of" = some (some (.ref f_least_of))) (l_least_of : K.lookup f_least_of = some ⟨oc_least_of, od_least_of, .func (PySem.W.fnOf "least_of" "least_of" (defArgs s_least_of) (defBody s_least_of) (defScope s_least_of) .none kV_least_of dc_least_of pm_least_of an_least_of cd_least_of ct_least_of), sl_least_of⟩)
    (c_least_of : PySem.W.codeIn K cd_least_of "least_of" = true) (k_least_of : PySem.W.keepIn K (.ref f_least_of) = true)
    {od_less_by an_less_by : Option Addr} {sl_less_by : Array (Option Value)} {oc_less_by kV_less_by dc_less_by pm_less_by cd_less_by ct_less_by : Value} {f_less_by : Addr}
    (a_less_by : PySem.W.nsIn K mainGlobals "less_by" = some (some (.ref f_less_by))) (l_less_by : K.lookup f_less_by = some ⟨oc_less_by, od_less_by, .func (PySem.W.fnOf "less_by" "less_by" (defArgs s_less_by) (defBody s_less_by) (defScope s_less_by) .none kV_less_by dc_less_by pm_less_by an_less_by cd_less_by ct_less_by), sl_less_by⟩)
    (c_less_by : PySem.W.codeIn K cd_less_by "less_by" = true) (k_less_by : PySem.W.keepIn K (.ref f_less_by) = true)
    {od_node_names an_node_names : Option Addr} {sl_node_names : Array (Option Value)} {oc_node_names kV_node_names dc_node_names pm_node_names cd_node_names ct_node_names : Value} {f_node_names : Addr}
    (a_node_names : PySem.W.nsIn K mainGlobals "node_names" = some (some (.ref f_node_names))) (l_node_names : K.lookup f_node_names = some ⟨oc_node_names, od_node_names, .func (PySem.W.fnOf "node_names" "node_names" (defArgs s_node_names) (defBody s_node_names) (defScope s_node_names) .none kV_node_names dc_node_names pm_node_names an_node_names cd_node_names ct_node_names), sl_node_names⟩)
    (c_node_names : PySem.W.codeIn K cd_node_names "node_names" = true) (k_node_names : PySem.W.keepIn K (.ref f_node_names) = true)
    {od_ends_by_place an_ends_by_place : Option Addr} {sl_ends_by_place : Array (Option Value)} {oc_ends_by_place kV_ends_by_place dc_ends_by_place pm_ends_by_place cd_ends_by_place ct_ends_by_place : Value} {f_ends_by_place : Addr}
    (a_ends_by_place : PySem.W.nsIn K mainGlobals "ends_by_place" = some (some (.ref f_ends_by_place))) (l_ends_by_place : K.lookup f_ends_by_place = some ⟨oc_ends_by_place, od_ends_by_place, .func (PySem.W.fnOf "ends_by_place" "ends_by_place" (defArgs s_ends_by_place) (defBody s_ends_by_place) (defScope s_ends_by_place) .none kV_ends_by_place dc_ends_by_place pm_ends_by_place an_ends_by_place cd_ends_by_place ct_ends_by_place), sl_ends_by_place⟩)
    (c_ends_by_place : PySem.W.codeIn K cd_ends_by_place "ends_by_place" = true) (k_ends_by_place : PySem.W.keepIn K (.ref f_ends_by_place) = true)
    {od_turned_net an_turned_net : Option Addr} {sl_turned_net : Array (Option Value)} {oc_turned_net kV_turned_net dc_turned_net pm_turned_net cd_turned_net ct_turned_net : Value} {f_turned_net : Addr}
    (a_turned_net : PySem.W.nsIn K mainGlobals "turned_net" = some (some (.ref f_turned_net))) (l_turned_net : K.lookup f_turned_net = some ⟨oc_turned_net, od_turned_net, .func (PySem.W.fnOf "turned_net" "turned_net" (defArgs s_turned_net) (defBody s_turned_net) (defScope s_turned_net) .none kV_turned_net dc_turned_net pm_turned_net an_turned_net cd_turned_net ct_turned_net), sl_turned_net⟩)
    (c_turned_net : PySem.W.codeIn K cd_turned_net "turned_net" = true) (k_turned_net : PySem.W.keepIn K (.ref f_turned_net) = true)
    {od_left_over an_left_over : Option Addr} {sl_left_over : Array (Option Value)} {oc_left_over kV_left_over dc_left_over pm_left_over cd_left_over ct_left_over : Value} {f_left_over : Addr}
    (a_left_over : PySem.W.nsIn K mainGlobals "left_over" = some (some (.ref f_left_over))) (l_left_over : K.lookup f_left_over = some ⟨oc_left_over, od_left_over, .func (PySem.W.fnOf "left_over" "left_over" (defArgs s_left_over) (defBody s_left_over) (defScope s_left_over) .none kV_left_over dc_left_over pm_left_over an_left_over cd_left_over ct_left_over), sl_left_over⟩)
    (c_left_over : PySem.W.codeIn K cd_left_over "left_over" = true) (k_left_over : PySem.W.keepIn K (.ref f_left_over) = true)
    {od_flow_fault an_flow_fault : Option Addr} {sl_flow_fault : Array (Option Value)} {oc_flow_fault kV_flow_fault dc_flow_fault pm_flow_fault cd_flow_fault ct_flow_fault : Value} {f_flow_fault : Addr}
    (a_flow_fault : PySem.W.nsIn K mainGlobals "flow_fault" = some (some (.ref f_flow_fault))) (l_flow_fault : K.lookup f_flow_fault = some ⟨oc_flow_fault, od_flow_fault, .func (PySem.W.fnOf "flow_fault" "flow_fault" (defArgs s_flow_fault) (defBody s_flow_fault) (defScope s_flow_fault) .none kV_flow_fault dc_flow_fault pm_flow_fault an_flow_fault cd_flow_fault ct_flow_fault), sl_flow_fault⟩)
    (c_flow_fault : PySem.W.codeIn K cd_flow_fault "flow_fault" = true) (k_flow_fault : PySem.W.keepIn K (.ref f_flow_fault) = true)
    {od_is_flow an_is_flow : Option Addr} {sl_is_flow : Array (Option Value)} {oc_is_flow kV_is_flow dc_is_flow pm_is_flow cd_is_flow ct_is_flow : Value} {f_is_flow : Addr}
    (a_is_flow : PySem.W.nsIn K mainGlobals "is_flow" = some (some (.ref f_is_flow))) (l_is_flow : K.lookup f_is_flow = some ⟨oc_is_flow, od_is_flow, .func (PySem.W.fnOf "is_flow" "is_flow" (defArgs s_is_flow) (defBody s_is_flow) (defScope s_is_flow) .none kV_is_flow dc_is_flow pm_is_flow an_is_flow cd_is_flow ct_is_flow), sl_is_flow⟩)
    (c_is_flow : PySem.W.codeIn K cd_is_flow "is_flow" = true) (k_is_flow : PySem.W.keepIn K (.ref f_is_flow) = true)
    {od_least_amounts an_least_amounts : Option Addr} {sl_least_amounts : Array (Option Value)} {oc_least_amounts kV_least_amounts dc_least_amounts pm_least_amounts cd_least_amounts ct_least_amounts : Value} {f_least_amounts : Addr}
    (a_least_amounts : PySem.W.nsIn K mainGlobals "least_amounts" = some (some (.ref f_least_amounts))) (l_least_amounts : K.lookup f_least_amounts = some ⟨oc_least_amounts, od_least_amounts, .func (PySem.W.fnOf "least_amounts" "least_amounts" (defArgs s_least_amounts) (defBody s_least_amounts) (defScope s_least_amounts) .none kV_least_amounts dc_least_amounts pm_least_amounts an_least_amounts cd_least_amounts ct_least_amounts), sl_least_amounts⟩)
    (c_least_amounts : PySem.W.codeIn K cd_least_amounts "least_amounts" = true) (k_least_amounts : PySem.W.keepIn K (.ref f_least_amounts) = true)
    {od_steps_of an_steps_of : Option Addr} {sl_steps_of : Array (Option Value)} {oc_steps_of kV_steps_of dc_steps_of pm_steps_of cd_steps_of ct_steps_of : Value} {f_steps_of : Addr}
    (a_steps_of : PySem.W.nsIn K mainGlobals "steps_of" = some (some (.ref f_steps_of))) (l_steps_of : K.lookup f_steps_of = some ⟨oc_steps_of, od_steps_of, .func (PySem.W.fnOf "steps_of" "steps_of" (defArgs s_steps_of) (defBody s_steps_of) (defScope s_steps_of) .none kV_steps_of dc_steps_of pm_steps_of an_steps_of cd_steps_of ct_steps_of), sl_steps_of⟩)
    (c_steps_of : PySem.W.codeIn K cd_steps_of "steps_of" = true) (k_steps_of : PySem.W.keepIn K (.ref f_steps_of) = true)
    {od_steps_by_start an_steps_by_start : Option Addr} {sl_steps_by_start : Array (Option Value)} {oc_steps_by_start kV_steps_by_start dc_steps_by_start pm_steps_by_start cd_steps_by_start ct_steps_by_start : Value} {f_steps_by_start : Addr}
    (a_steps_by_start : PySem.W.nsIn K mainGlobals "steps_by_start" = some (some (.ref f_steps_by_start))) (l_steps_by_start : K.lookup f_steps_by_start = some ⟨oc_steps_by_start, od_steps_by_start, .func (PySem.W.fnOf "steps_by_start" "steps_by_start" (defArgs s_steps_by_start) (defBody s_steps_by_start) (defScope s_steps_by_start) .none kV_steps_by_start dc_steps_by_start pm_steps_by_start an_steps_by_start cd_steps_by_start ct_steps_by_start), sl_steps_by_start⟩)
    (c_steps_by_start : PySem.W.codeIn K cd_steps_by_start "steps_by_start" = true) (k_steps_by_start : PySem.W.keepIn K (.ref f_steps_by_start) = true)
    {od_reached_from an_reached_from : Option Addr} {sl_reached_from : Array (Option Value)} {oc_reached_from kV_reached_from dc_reached_from pm_reached_from cd_reached_from ct_reached_from : Value} {f_reached_from : Addr}
    (a_reached_from : PySem.W.nsIn K mainGlobals "reached_from" = some (some (.ref f_reached_from))) (l_reached_from : K.lookup f_reached_from = some ⟨oc_reached_from, od_reached_from, .func (PySem.W.fnOf "reached_from" "reached_from" (defArgs s_reached_from) (defBody s_reached_from) (defScope s_reached_from) .none kV_reached_from dc_reached_from pm_reached_from an_reached_from cd_reached_from ct_reached_from), sl_reached_from⟩)
    (c_reached_from : PySem.W.codeIn K cd_reached_from "reached_from" = true) (k_reached_from : PySem.W.keepIn K (.ref f_reached_from) = true)
    {od_reaching an_reaching : Option Addr} {sl_reaching : Array (Option Value)} {oc_reaching kV_reaching dc_reaching pm_reaching cd_reaching ct_reaching : Value} {f_reaching : Addr}
    (a_reaching : PySem.W.nsIn K mainGlobals "reaching" = some (some (.ref f_reaching))) (l_reaching : K.lookup f_reaching = some ⟨oc_reaching, od_reaching, .func (PySem.W.fnOf "reaching" "reaching" (defArgs s_reaching) (defBody s_reaching) (defScope s_reaching) .none kV_reaching dc_reaching pm_reaching an_reaching cd_reaching ct_reaching), sl_reaching⟩)
    (c_reaching : PySem.W.codeIn K cd_reaching "reaching" = true) (k_reaching : PySem.W.keepIn K (.ref f_reaching) = true)
    {od_way_to an_way_to : Option Addr} {sl_way_to : Array (Option Value)} {oc_way_to kV_way_to dc_way_to pm_way_to cd_way_to ct_way_to : Value} {f_way_to : Addr}
    (a_way_to : PySem.W.nsIn K mainGlobals "way_to" = some (some (.ref f_way_to))) (l_way_to : K.lookup f_way_to = some ⟨oc_way_to, od_way_to, .func (PySem.W.fnOf "way_to" "way_to" (defArgs s_way_to) (defBody s_way_to) (defScope s_way_to) .none kV_way_to dc_way_to pm_way_to an_way_to cd_way_to ct_way_to), sl_way_to⟩)
    (c_way_to : PySem.W.codeIn K cd_way_to "way_to" = true) (k_way_to : PySem.W.keepIn K (.ref f_way_to) = true)
    {od_room_along an_room_along : Option Addr} {sl_room_along : Array (Option Value)} {oc_room_along kV_room_along dc_room_along pm_room_along cd_room_along ct_room_along : Value} {f_room_along : Addr}
    (a_room_along : PySem.W.nsIn K mainGlobals "room_along" = some (some (.ref f_room_along))) (l_room_along : K.lookup f_room_along = some ⟨oc_room_along, od_room_along, .func (PySem.W.fnOf "room_along" "room_along" (defArgs s_room_along) (defBody s_room_along) (defScope s_room_along) .none kV_room_along dc_room_along pm_room_along an_room_along cd_room_along ct_room_along), sl_room_along⟩)
    (c_room_along : PySem.W.codeIn K cd_room_along "room_along" = true) (k_room_along : PySem.W.keepIn K (.ref f_room_along) = true)
    {od_price_along an_price_along : Option Addr} {sl_price_along : Array (Option Value)} {oc_price_along kV_price_along dc_price_along pm_price_along cd_price_along ct_price_along : Value} {f_price_along : Addr}
    (a_price_along : PySem.W.nsIn K mainGlobals "price_along" = some (some (.ref f_price_along))) (l_price_along : K.lookup f_price_along = some ⟨oc_price_along, od_price_along, .func (PySem.W.fnOf "price_along" "price_along" (defArgs s_price_along) (defBody s_price_along) (defScope s_price_along) .none kV_price_along dc_price_along pm_price_along an_price_along cd_price_along ct_price_along), sl_price_along⟩)
    (c_price_along : PySem.W.codeIn K cd_price_along "price_along" = true) (k_price_along : PySem.W.keepIn K (.ref f_price_along) = true)
    {od_pushed an_pushed : Option Addr} {sl_pushed : Array (Option Value)} {oc_pushed kV_pushed dc_pushed pm_pushed cd_pushed ct_pushed : Value} {f_pushed : Addr}
    (a_pushed : PySem.W.nsIn K mainGlobals "pushed" = some (some (.ref f_pushed))) (l_pushed : K.lookup f_pushed = some ⟨oc_pushed, od_pushed, .func (PySem.W.fnOf "pushed" "pushed" (defArgs s_pushed) (defBody s_pushed) (defScope s_pushed) .none kV_pushed dc_pushed pm_pushed an_pushed cd_pushed ct_pushed), sl_pushed⟩)
    (c_pushed : PySem.W.codeIn K cd_pushed "pushed" = true) (k_pushed : PySem.W.keepIn K (.ref f_pushed) = true)
    {od_filled an_filled : Option Addr} {sl_filled : Array (Option Value)} {oc_filled kV_filled dc_filled pm_filled cd_filled ct_filled : Value} {f_filled : Addr}
    (a_filled : PySem.W.nsIn K mainGlobals "filled" = some (some (.ref f_filled))) (l_filled : K.lookup f_filled = some ⟨oc_filled, od_filled, .func (PySem.W.fnOf "filled" "filled" (defArgs s_filled) (defBody s_filled) (defScope s_filled) .none kV_filled dc_filled pm_filled an_filled cd_filled ct_filled), sl_filled⟩)
    (c_filled : PySem.W.codeIn K cd_filled "filled" = true) (k_filled : PySem.W.keepIn K (.ref f_filled) = true)
    {od_lacking an_lacking : Option Addr} {sl_lacking : Array (Option Value)} {oc_lacking kV_lacking dc_lacking pm_lacking cd_lacking ct_lacking : Value} {f_lacking : Addr}
    (a_lacking : PySem.W.nsIn K mainGlobals "lacking" = some (some (.ref f_lacking))) (l_lacking : K.lookup f_lacking = some ⟨oc_lacking, od_lacking, .func (PySem.W.fnOf "lacking" "lacking" (defArgs s_lacking) (defBody s_lacking) (defScope s_lacking) .none kV_lacking dc_lacking pm_lacking an_lacking cd_lacking ct_lacking), sl_lacking⟩)
    (c_lacking : PySem.W.codeIn K cd_lacking "lacking" = true) (k_lacking : PySem.W.keepIn K (.ref f_lacking) = true)
    {od_first_flow an_first_flow : Option Addr} {sl_first_flow : Array (Option Value)} {oc_first_flow kV_first_flow dc_first_flow pm_first_flow cd_first_flow ct_first_flow : Value} {f_first_flow : Addr}
    (a_first_flow : PySem.W.nsIn K mainGlobals "first_flow" = some (some (.ref f_first_flow))) (l_first_flow : K.lookup f_first_flow = some ⟨oc_first_flow, od_first_flow, .func (PySem.W.fnOf "first_flow" "first_flow" (defArgs s_first_flow) (defBody s_first_flow) (defScope s_first_flow) .none kV_first_flow dc_first_flow pm_first_flow an_first_flow cd_first_flow ct_first_flow), sl_first_flow⟩)
    (c_first_flow : PySem.W.codeIn K cd_first_flow "first_flow" = true) (k_first_flow : PySem.W.keepIn K (.ref f_first_flow) = true)
    {od_gap_over an_gap_over : Option Addr} {sl_gap_over : Array (Option Value)} {oc_gap_over kV_gap_over dc_gap_over pm_gap_over cd_gap_over ct_gap_over : Value} {f_gap_over : Addr}
    (a_gap_over : PySem.W.nsIn K mainGlobals "gap_over" = some (some (.ref f_gap_over))) (l_gap_over : K.lookup f_gap_over = some ⟨oc_gap_over, od_gap_over, .func (PySem.W.fnOf "gap_over" "gap_over" (defArgs s_gap_over) (defBody s_gap_over) (defScope s_gap_over) .none kV_gap_over dc_gap_over pm_gap_over an_gap_over cd_gap_over ct_gap_over), sl_gap_over⟩)
    (c_gap_over : PySem.W.codeIn K cd_gap_over "gap_over" = true) (k_gap_over : PySem.W.keepIn K (.ref f_gap_over) = true)
    {od_gap_under an_gap_under : Option Addr} {sl_gap_under : Array (Option Value)} {oc_gap_under kV_gap_under dc_gap_under pm_gap_under cd_gap_under ct_gap_under : Value} {f_gap_under : Addr}
    (a_gap_under : PySem.W.nsIn K mainGlobals "gap_under" = some (some (.ref f_gap_under))) (l_gap_under : K.lookup f_gap_under = some ⟨oc_gap_under, od_gap_under, .func (PySem.W.fnOf "gap_under" "gap_under" (defArgs s_gap_under) (defBody s_gap_under) (defScope s_gap_under) .none kV_gap_under dc_gap_under pm_gap_under an_gap_under cd_gap_under ct_gap_under), sl_gap_under⟩)
    (c_gap_under : PySem.W.codeIn K cd_gap_under "gap_under" = true) (k_gap_under : PySem.W.keepIn K (.ref f_gap_under) = true)
    {od_judge_never an_judge_never : Option Addr} {sl_judge_never : Array (Option Value)} {oc_judge_never kV_judge_never dc_judge_never pm_judge_never cd_judge_never ct_judge_never : Value} {f_judge_never : Addr}
    (a_judge_never : PySem.W.nsIn K mainGlobals "judge_never" = some (some (.ref f_judge_never))) (l_judge_never : K.lookup f_judge_never = some ⟨oc_judge_never, od_judge_never, .func (PySem.W.fnOf "judge_never" "judge_never" (defArgs s_judge_never) (defBody s_judge_never) (defScope s_judge_never) .none kV_judge_never dc_judge_never pm_judge_never an_judge_never cd_judge_never ct_judge_never), sl_judge_never⟩)
    (c_judge_never : PySem.W.codeIn K cd_judge_never "judge_never" = true) (k_judge_never : PySem.W.keepIn K (.ref f_judge_never) = true)
    {od_has_flow an_has_flow : Option Addr} {sl_has_flow : Array (Option Value)} {oc_has_flow kV_has_flow dc_has_flow pm_has_flow cd_has_flow ct_has_flow : Value} {f_has_flow : Addr}
    (a_has_flow : PySem.W.nsIn K mainGlobals "has_flow" = some (some (.ref f_has_flow))) (l_has_flow : K.lookup f_has_flow = some ⟨oc_has_flow, od_has_flow, .func (PySem.W.fnOf "has_flow" "has_flow" (defArgs s_has_flow) (defBody s_has_flow) (defScope s_has_flow) .none kV_has_flow dc_has_flow pm_has_flow an_has_flow cd_has_flow ct_has_flow), sl_has_flow⟩)
    (c_has_flow : PySem.W.codeIn K cd_has_flow "has_flow" = true) (k_has_flow : PySem.W.keepIn K (.ref f_has_flow) = true)
    {od_law_state an_law_state : Option Addr} {sl_law_state : Array (Option Value)} {oc_law_state kV_law_state dc_law_state pm_law_state cd_law_state ct_law_state : Value} {f_law_state : Addr}
    (a_law_state : PySem.W.nsIn K mainGlobals "_law_state" = some (some (.ref f_law_state))) (l_law_state : K.lookup f_law_state = some ⟨oc_law_state, od_law_state, .func (PySem.W.fnOf "_law_state" "_law_state" (defArgs s_law_state) (defBody s_law_state) (defScope s_law_state) .none kV_law_state dc_law_state pm_law_state an_law_state cd_law_state ct_law_state), sl_law_state⟩)
    (c_law_state : PySem.W.codeIn K cd_law_state "_law_state" = true) (k_law_state : PySem.W.keepIn K (.ref f_law_state) = true)
    {od_law_draw an_law_draw : Option Addr} {sl_law_draw : Array (Option Value)} {oc_law_draw kV_law_draw dc_law_draw pm_law_draw cd_law_draw ct_law_draw : Value} {f_law_draw : Addr}
    (a_law_draw : PySem.W.nsIn K mainGlobals "_law_draw" = some (some (.ref f_law_draw))) (l_law_draw : K.lookup f_law_draw = some ⟨oc_law_draw, od_law_draw, .func (PySem.W.fnOf "_law_draw" "_law_draw" (defArgs s_law_draw) (defBody s_law_draw) (defScope s_law_draw) .none kV_law_draw dc_law_draw pm_law_draw an_law_draw cd_law_draw ct_law_draw), sl_law_draw⟩)
    (c_law_draw : PySem.W.codeIn K cd_law_draw "_law_draw" = true) (k_law_draw : PySem.W.keepIn K (.ref f_law_draw) = true)
    {od_law_truth an_law_truth : Option Addr} {sl_law_truth : Array (Option Value)} {oc_law_truth kV_law_truth dc_law_truth pm_law_truth cd_law_truth ct_law_truth : Value} {f_law_truth : Addr}
    (a_law_truth : PySem.W.nsIn K mainGlobals "_law_truth" = some (some (.ref f_law_truth))) (l_law_truth : K.lookup f_law_truth = some ⟨oc_law_truth, od_law_truth, .func (PySem.W.fnOf "_law_truth" "_law_truth" (defArgs s_law_truth) (defBody s_law_truth) (defScope s_law_truth) .none kV_law_truth dc_law_truth pm_law_truth an_law_truth cd_law_truth ct_law_truth), sl_law_truth⟩)
    (c_law_truth : PySem.W.codeIn K cd_law_truth "_law_truth" = true) (k_law_truth : PySem.W.keepIn K (.ref f_law_truth) = true)
    {od_law_net an_law_net : Option Addr} {sl_law_net : Array (Option Value)} {oc_law_net kV_law_net dc_law_net pm_law_net cd_law_net ct_law_net : Value} {f_law_net : Addr}
    (a_law_net : PySem.W.nsIn K mainGlobals "_law_net" = some (some (.ref f_law_net))) (l_law_net : K.lookup f_law_net = some ⟨oc_law_net, od_law_net, .func (PySem.W.fnOf "_law_net" "_law_net" (defArgs s_law_net) (defBody s_law_net) (defScope s_law_net) .none kV_law_net dc_law_net pm_law_net an_law_net cd_law_net ct_law_net), sl_law_net⟩)
    (c_law_net : PySem.W.codeIn K cd_law_net "_law_net" = true) (k_law_net : PySem.W.keepIn K (.ref f_law_net) = true)
    {od_law_rest an_law_rest : Option Addr} {sl_law_rest : Array (Option Value)} {oc_law_rest kV_law_rest dc_law_rest pm_law_rest cd_law_rest ct_law_rest : Value} {f_law_rest : Addr}
    (a_law_rest : PySem.W.nsIn K mainGlobals "_law_rest" = some (some (.ref f_law_rest))) (l_law_rest : K.lookup f_law_rest = some ⟨oc_law_rest, od_law_rest, .func (PySem.W.fnOf "_law_rest" "_law_rest" (defArgs s_law_rest) (defBody s_law_rest) (defScope s_law_rest) .none kV_law_rest dc_law_rest pm_law_rest an_law_rest cd_law_rest ct_law_rest), sl_law_rest⟩)
    (c_law_rest : PySem.W.codeIn K cd_law_rest "_law_rest" = true) (k_law_rest : PySem.W.keepIn K (.ref f_law_rest) = true)
    {od_law_sets an_law_sets : Option Addr} {sl_law_sets : Array (Option Value)} {oc_law_sets kV_law_sets dc_law_sets pm_law_sets cd_law_sets ct_law_sets : Value} {f_law_sets : Addr}
    (a_law_sets : PySem.W.nsIn K mainGlobals "_law_sets" = some (some (.ref f_law_sets))) (l_law_sets : K.lookup f_law_sets = some ⟨oc_law_sets, od_law_sets, .func (PySem.W.fnOf "_law_sets" "_law_sets" (defArgs s_law_sets) (defBody s_law_sets) (defScope s_law_sets) .none kV_law_sets dc_law_sets pm_law_sets an_law_sets cd_law_sets ct_law_sets), sl_law_sets⟩)
    (c_law_sets : PySem.W.codeIn K cd_law_sets "_law_sets" = true) (k_law_sets : PySem.W.keepIn K (.ref f_law_sets) = true)
    {od_law_gap an_law_gap : Option Addr} {sl_law_gap : Array (Option Value)} {oc_law_gap kV_law_gap dc_law_gap pm_law_gap cd_law_gap ct_law_gap : Value} {f_law_gap : Addr}
    (a_law_gap : PySem.W.nsIn K mainGlobals "_law_gap" = some (some (.ref f_law_gap))) (l_law_gap : K.lookup f_law_gap = some ⟨oc_law_gap, od_law_gap, .func (PySem.W.fnOf "_law_gap" "_law_gap" (defArgs s_law_gap) (defBody s_law_gap) (defScope s_law_gap) .none kV_law_gap dc_law_gap pm_law_gap an_law_gap cd_law_gap ct_law_gap), sl_law_gap⟩)
    (c_law_gap : PySem.W.codeIn K cd_law_gap "_law_gap" = true) (k_law_gap : PySem.W.keepIn K (.ref f_law_gap) = true)
    {od_law_never an_law_never : Option Addr} {sl_law_never : Array (Option Value)} {oc_law_never kV_law_never dc_law_never pm_law_never cd_law_never ct_law_never : Value} {f_law_never : Addr}
    (a_law_never : PySem.W.nsIn K mainGlobals "_law_never" = some (some (.ref f_law_never))) (l_law_never : K.lookup f_law_never = some ⟨oc_law_never, od_law_never, .func (PySem.W.fnOf "_law_never" "_law_never" (defArgs s_law_never) (defBody s_law_never) (defScope s_law_never) .none kV_law_never dc_law_never pm_law_never an_law_never cd_law_never ct_law_never), sl_law_never⟩)
    (c_law_never : PySem.W.codeIn K cd_law_never "_law_never" = true) (k_law_never : PySem.W.keepIn K (.ref f_law_never) = true)
    {od_law_steps an_law_steps : Option Addr} {sl_law_steps : Array (Option Value)} {oc_law_steps kV_law_steps dc_law_steps pm_law_steps cd_law_steps ct_law_steps : Value} {f_law_steps : Addr}
    (a_law_steps : PySem.W.nsIn K mainGlobals "_law_steps" = some (some (.ref f_law_steps))) (l_law_steps : K.lookup f_law_steps = some ⟨oc_law_steps, od_law_steps, .func (PySem.W.fnOf "_law_steps" "_law_steps" (defArgs s_law_steps) (defBody s_law_steps) (defScope s_law_steps) .none kV_law_steps dc_law_steps pm_law_steps an_law_steps cd_law_steps ct_law_steps), sl_law_steps⟩)
    (c_law_steps : PySem.W.codeIn K cd_law_steps "_law_steps" = true) (k_law_steps : PySem.W.keepIn K (.ref f_law_steps) = true)
    {od_law_close an_law_close : Option Addr} {sl_law_close : Array (Option Value)} {oc_law_close kV_law_close dc_law_close pm_law_close cd_law_close ct_law_close : Value} {f_law_close : Addr}
    (a_law_close : PySem.W.nsIn K mainGlobals "_law_close" = some (some (.ref f_law_close))) (l_law_close : K.lookup f_law_close = some ⟨oc_law_close, od_law_close, .func (PySem.W.fnOf "_law_close" "_law_close" (defArgs s_law_close) (defBody s_law_close) (defScope s_law_close) .none kV_law_close dc_law_close pm_law_close an_law_close cd_law_close ct_law_close), sl_law_close⟩)
    (c_law_close : PySem.W.codeIn K cd_law_close "_law_close" = true) (k_law_close : PySem.W.keepIn K (.ref f_law_close) = true)
    {od_law_inside an_law_inside : Option Addr} {sl_law_inside : Array (Option Value)} {oc_law_inside kV_law_inside dc_law_inside pm_law_inside cd_law_inside ct_law_inside : Value} {f_law_inside : Addr}
    (a_law_inside : PySem.W.nsIn K mainGlobals "_law_inside" = some (some (.ref f_law_inside))) (l_law_inside : K.lookup f_law_inside = some ⟨oc_law_inside, od_law_inside, .func (PySem.W.fnOf "_law_inside" "_law_inside" (defArgs s_law_inside) (defBody s_law_inside) (defScope s_law_inside) .none kV_law_inside dc_law_inside pm_law_inside an_law_inside cd_law_inside ct_law_inside), sl_law_inside⟩)
    (c_law_inside : PySem.W.codeIn K cd_law_inside "_law_inside" = true) (k_law_inside : PySem.W.keepIn K (.ref f_law_inside) = true)
    {od_law_walks_hold an_law_walks_hold : Option Addr} {sl_law_walks_hold : Array (Option Value)} {oc_law_walks_hold kV_law_walks_hold dc_law_walks_hold pm_law_walks_hold cd_law_walks_hold ct_law_walks_hold : Value} {f_law_walks_hold : Addr}
    (a_law_walks_hold : PySem.W.nsIn K mainGlobals "_law_walks_hold" = some (some (.ref f_law_walks_hold))) (l_law_walks_hold : K.lookup f_law_walks_hold = some ⟨oc_law_walks_hold, od_law_walks_hold, .func (PySem.W.fnOf "_law_walks_hold" "_law_walks_hold" (defArgs s_law_walks_hold) (defBody s_law_walks_hold) (defScope s_law_walks_hold) .none kV_law_walks_hold dc_law_walks_hold pm_law_walks_hold an_law_walks_hold cd_law_walks_hold ct_law_walks_hold), sl_law_walks_hold⟩)
    (c_law_walks_hold : PySem.W.codeIn K cd_law_walks_hold "_law_walks_hold" = true) (k_law_walks_hold : PySem.W.keepIn K (.ref f_law_walks_hold) = true)
    {od_law an_law : Option Addr} {sl_law : Array (Option Value)} {oc_law kV_law dc_law pm_law cd_law ct_law : Value} {f_law : Addr}
    (a_law : PySem.W.nsIn K mainGlobals "law" = some (some (.ref f_law))) (l_law : K.lookup f_law = some ⟨oc_law, od_law, .func (PySem.W.fnOf "law" "law" (defArgs s_law) (defBody s_law) (defScope s_law) .none kV_law dc_law pm_law an_law cd_law ct_law), sl_law⟩)
    (c_law : PySem.W.codeIn K cd_law "law" = true) (k_law : PySem.W.keepIn K (.ref f_law) = true)
    (z_all : PySem.W.nsIn K mainGlobals "all" = some none)
    (z_bool : PySem.W.nsIn K mainGlobals "bool" = some none)
    (z_enumerate : PySem.W.nsIn K mainGlobals "enumerate" = some none)
    (z_int : PySem.W.nsIn K mainGlobals "int" = some none)
    (z_isinstance : PySem.W.nsIn K mainGlobals "isinstance" = some none)
    (z_len : PySem.W.nsIn K mainGlobals "len" = some none)
    (z_list : PySem.W.nsIn K mainGlobals "list" = some none)
    (z_min : PySem.W.nsIn K mainGlobals "min" = some none)
    (z_range : PySem.W.nsIn K mainGlobals "range" = some none)
    (z_sorted : PySem.W.nsIn K mainGlobals "sorted" = some none)
    (z_str : PySem.W.nsIn K mainGlobals "str" = some none)
    (z_sum : PySem.W.nsIn K mainGlobals "sum" = some none)
    (z_tuple : PySem.W.nsIn K mainGlobals "tuple" = some none)
    (z_zip : PySem.W.nsIn K mainGlobals "zip" = some none) :
    ∃ fd : FuncData, (∀ (s : Shared) (v : Value), BindsTo s fd ⟨[v], []⟩ [("script", v)]) ∧ ∀ base : Heap, K.In base → base.Ns mainGlobals mg → FnOk l.prog w K mg base CX0 9 fa fd ["script"] (SpF K den_law) := by
  have e := hfa.symm.trans (PySem.W.mg_of X G a_law)
  cases e
  have F_is_whole := fun_mk (st := s_is_whole) l_is_whole c_is_whole k_is_whole
  have b_is_whole : Binds K _ ["value"] [] := F_is_whole.binds (ps := ["value"]) fun _ _ _ _ _ _ us hl => match us, hl with | [_], _ => rfl
  have F_least_of := fun_mk (st := s_least_of) l_least_of c_least_of k_least_of
  have b_least_of : Binds K _ ["one", "other"] [] := F_least_of.binds (ps := ["one", "other"]) fun _ _ _ _ _ _ us hl => match us, hl with | [_, _], _ => rfl
  have F_less_by := fun_mk (st := s_less_by) l_less_by c_less_by k_less_by
  have b_less_by : Binds K _ ["value", "amount"] [] := F_less_by.binds (ps := ["value", "amount"]) fun _ _ _ _ _ _ us hl => match us, hl with | [_, _], _ => rfl
  have F_node_names := fun_mk (st := s_node_names) l_node_names c_node_names k_node_names
  have b_node_names : Binds K _ ["net"] [] := F_node_names.binds (ps := ["net"]) fun _ _ _ _ _ _ us hl => match us, hl with | [_], _ => rfl
  have F_ends_by_place := fun_mk (st := s_ends_by_place) l_ends_by_place c_ends_by_place k_ends_by_place
  have b_ends_by_place : Binds K _ ["net"] [] := F_ends_by_place.binds (ps := ["net"]) fun _ _ _ _ _ _ us hl => match us, hl with | [_], _ => rfl
  have F_turned_net := fun_mk (st := s_turned_net) l_turned_net c_turned_net k_turned_net
  have b_turned_net : Binds K _ ["net"] [] := F_turned_net.binds (ps := ["net"]) fun _ _ _ _ _ _ us hl => match us, hl with | [_], _ => rfl
  have F_left_over := fun_mk (st := s_left_over) l_left_over c_left_over k_left_over
  have b_left_over : Binds K _ ["net", "flow"] [] := F_left_over.binds (ps := ["net", "flow"]) fun _ _ _ _ _ _ us hl => match us, hl with | [_, _], _ => rfl
  have F_flow_fault := fun_mk (st := s_flow_fault) l_flow_fault c_flow_fault k_flow_fault
  have b_flow_fault : Binds K _ ["net", "value"] [] := F_flow_fault.binds (ps := ["net", "value"]) fun _ _ _ _ _ _ us hl => match us, hl with | [_, _], _ => rfl
  have F_is_flow := fun_mk (st := s_is_flow) l_is_flow c_is_flow k_is_flow
  have b_is_flow : Binds K _ ["net", "value"] [] := F_is_flow.binds (ps := ["net", "value"]) fun _ _ _ _ _ _ us hl => match us, hl with | [_, _], _ => rfl
  have F_least_amounts := fun_mk (st := s_least_amounts) l_least_amounts c_least_amounts k_least_amounts
  have b_least_amounts : Binds K _ ["net"] [] := F_least_amounts.binds (ps := ["net"]) fun _ _ _ _ _ _ us hl => match us, hl with | [_], _ => rfl
  have F_steps_of := fun_mk (st := s_steps_of) l_steps_of c_steps_of k_steps_of
  have b_steps_of : Binds K _ ["net", "flow"] [] := F_steps_of.binds (ps := ["net", "flow"]) fun _ _ _ _ _ _ us hl => match us, hl with | [_, _], _ => rfl
  have F_steps_by_start := fun_mk (st := s_steps_by_start) l_steps_by_start c_steps_by_start k_steps_by_start
  have b_steps_by_start : Binds K _ ["net", "flow"] [] := F_steps_by_start.binds (ps := ["net", "flow"]) fun _ _ _ _ _ _ us hl => match us, hl with | [_, _], _ => rfl
  have F_reached_from := fun_mk (st := s_reached_from) l_reached_from c_reached_from k_reached_from
  have b_reached_from : Binds K _ ["net", "flow", "starts"] [] := F_reached_from.binds (ps := ["net", "flow", "starts"]) fun _ _ _ _ _ _ us hl => match us, hl with | [_, _, _], _ => rfl
  have F_reaching := fun_mk (st := s_reaching) l_reaching c_reaching k_reaching
  have b_reaching : Binds K _ ["net", "flow", "goals"] [] := F_reaching.binds (ps := ["net", "flow", "goals"]) fun _ _ _ _ _ _ us hl => match us, hl with | [_, _, _], _ => rfl
  have F_way_to := fun_mk (st := s_way_to) l_way_to c_way_to k_way_to
  have b_way_to : Binds K _ ["met", "goal"] [] := F_way_to.binds (ps := ["met", "goal"]) fun _ _ _ _ _ _ us hl => match us, hl with | [_, _], _ => rfl
  have F_room_along := fun_mk (st := s_room_along) l_room_along c_room_along k_room_along
  have b_room_along : Binds K _ ["steps"] [] := F_room_along.binds (ps := ["steps"]) fun _ _ _ _ _ _ us hl => match us, hl with | [_], _ => rfl
  have F_price_along := fun_mk (st := s_price_along) l_price_along c_price_along k_price_along
  have b_price_along : Binds K _ ["steps"] [] := F_price_along.binds (ps := ["steps"]) fun _ _ _ _ _ _ us hl => match us, hl with | [_], _ => rfl
  have F_pushed := fun_mk (st := s_pushed) l_pushed c_pushed k_pushed
  have b_pushed : Binds K _ ["flow", "steps", "amount"] [] := F_pushed.binds (ps := ["flow", "steps", "amount"]) fun _ _ _ _ _ _ us hl => match us, hl with | [_, _, _], _ => rfl
  have F_filled := fun_mk (st := s_filled) l_filled c_filled k_filled
  have b_filled : Binds K _ ["net", "flow"] [] := F_filled.binds (ps := ["net", "flow"]) fun _ _ _ _ _ _ us hl => match us, hl with | [_, _], _ => rfl
  have F_lacking := fun_mk (st := s_lacking) l_lacking c_lacking k_lacking
  have b_lacking : Binds K _ ["net", "flow"] [] := F_lacking.binds (ps := ["net", "flow"]) fun _ _ _ _ _ _ us hl => match us, hl with | [_, _], _ => rfl
  have F_first_flow := fun_mk (st := s_first_flow) l_first_flow c_first_flow k_first_flow
  have b_first_flow : Binds K _ ["net"] [] := F_first_flow.binds (ps := ["net"]) fun _ _ _ _ _ _ us hl => match us, hl with | [_], _ => rfl
  have F_gap_over := fun_mk (st := s_gap_over) l_gap_over c_gap_over k_gap_over
  have b_gap_over : Binds K _ ["net", "nodes"] [] := F_gap_over.binds (ps := ["net", "nodes"]) fun _ _ _ _ _ _ us hl => match us, hl with | [_, _], _ => rfl
  have F_gap_under := fun_mk (st := s_gap_under) l_gap_under c_gap_under k_gap_under
  have b_gap_under : Binds K _ ["net", "nodes"] [] := F_gap_under.binds (ps := ["net", "nodes"]) fun _ _ _ _ _ _ us hl => match us, hl with | [_, _], _ => rfl
  have F_judge_never := fun_mk (st := s_judge_never) l_judge_never c_judge_never k_judge_never
  have b_judge_never : Binds K _ ["net", "paper"] [] := F_judge_never.binds (ps := ["net", "paper"]) fun _ _ _ _ _ _ us hl => match us, hl with | [_, _], _ => rfl
  have F_has_flow := fun_mk (st := s_has_flow) l_has_flow c_has_flow k_has_flow
  have b_has_flow : Binds K _ ["net"] [] := F_has_flow.binds (ps := ["net"]) fun _ _ _ _ _ _ us hl => match us, hl with | [_], _ => rfl
  have F_law_state := fun_mk (st := s_law_state) l_law_state c_law_state k_law_state
  have b_law_state : Binds K _ ["script"] [] := F_law_state.binds (ps := ["script"]) fun _ _ _ _ _ _ us hl => match us, hl with | [_], _ => rfl
  have F_law_draw := fun_mk (st := s_law_draw) l_law_draw c_law_draw k_law_draw
  have b_law_draw : Binds K _ ["state", "limit"] [] := F_law_draw.binds (ps := ["state", "limit"]) fun _ _ _ _ _ _ us hl => match us, hl with | [_, _], _ => rfl
  have F_law_truth := fun_mk (st := s_law_truth) l_law_truth c_law_truth k_law_truth
  have b_law_truth : Binds K _ ["told", "due"] [] := F_law_truth.binds (ps := ["told", "due"]) fun _ _ _ _ _ _ us hl => match us, hl with | [_, _], _ => rfl
  have F_law_net := fun_mk (st := s_law_net) l_law_net c_law_net k_law_net
  have b_law_net : Binds K _ ["state", "most", "wide"] [] := F_law_net.binds (ps := ["state", "most", "wide"]) fun _ _ _ _ _ _ us hl => match us, hl with | [_, _, _], _ => rfl
  have F_law_rest := fun_mk (st := s_law_rest) l_law_rest c_law_rest k_law_rest
  have b_law_rest : Binds K _ ["net", "flow"] [] := F_law_rest.binds (ps := ["net", "flow"]) fun _ _ _ _ _ _ us hl => match us, hl with | [_, _], _ => rfl
  have F_law_sets := fun_mk (st := s_law_sets) l_law_sets c_law_sets k_law_sets
  have b_law_sets : Binds K _ ["net"] [] := F_law_sets.binds (ps := ["net"]) fun _ _ _ _ _ _ us hl => match us, hl with | [_], _ => rfl
  have F_law_gap := fun_mk (st := s_law_gap) l_law_gap c_law_gap k_law_gap
  have b_law_gap : Binds K _ ["net", "nodes", "sign"] [] := F_law_gap.binds (ps := ["net", "nodes", "sign"]) fun _ _ _ _ _ _ us hl => match us, hl with | [_, _, _], _ => rfl
  have F_law_never := fun_mk (st := s_law_never) l_law_never c_law_never k_law_never
  have b_law_never : Binds K _ ["net"] [] := F_law_never.binds (ps := ["net"]) fun _ _ _ _ _ _ us hl => match us, hl with | [_], _ => rfl
  have F_law_steps := fun_mk (st := s_law_steps) l_law_steps c_law_steps k_law_steps
  have b_law_steps : Binds K _ ["net", "flow"] [] := F_law_steps.binds (ps := ["net", "flow"]) fun _ _ _ _ _ _ us hl => match us, hl with | [_, _], _ => rfl
  have F_law_close := fun_mk (st := s_law_close) l_law_close c_law_close k_law_close
  have b_law_close : Binds K _ ["steps", "starts", "back"] [] := F_law_close.binds (ps := ["steps", "starts", "back"]) fun _ _ _ _ _ _ us hl => match us, hl with | [_, _, _], _ => rfl
  have F_law_inside := fun_mk (st := s_law_inside) l_law_inside c_law_inside k_law_inside
  have b_law_inside : Binds K _ ["state", "net"] [] := F_law_inside.binds (ps := ["state", "net"]) fun _ _ _ _ _ _ us hl => match us, hl with | [_, _], _ => rfl
  have F_law_walks_hold := fun_mk (st := s_law_walks_hold) l_law_walks_hold c_law_walks_hold k_law_walks_hold
  have b_law_walks_hold : Binds K _ ["state", "net"] [] := F_law_walks_hold.binds (ps := ["state", "net"]) fun _ _ _ _ _ _ us hl => match us, hl with | [_, _], _ => rfl
  have F_law := fun_mk (st := s_law) l_law c_law k_law
  have b_law : Binds K _ ["script"] [] := F_law.binds (ps := ["script"]) fun _ _ _ _ _ _ us hl => match us, hl with | [_], _ => rfl
  exact ⟨PySem.W.fnOf "law" "law" (defArgs s_law) (defBody s_law) (defScope s_law) .none kV_law dc_law pm_law an_law cd_law ct_law, fun s v => .of_eq rfl, fun base _ _ =>
    ok_law (base := base) (T := { a_is_whole := _, fd_is_whole := _, F_is_whole := F_is_whole, m_is_whole := PySem.W.mg_of X G a_is_whole, b_is_whole := b_is_whole, a_least_of := _, fd_least_of := _, F_least_of := F_least_of, m_least_of := PySem.W.mg_of X G a_least_of, b_least_of := b_least_of, a_less_by := _, fd_less_by := _, F_less_by := F_less_by, m_less_by := PySem.W.mg_of X G a_less_by, b_less_by := b_less_by, a_node_names := _, fd_node_names := _, F_node_names := F_node_names, m_node_names := PySem.W.mg_of X G a_node_names, b_node_names := b_node_names, a_ends_by_place := _, fd_ends_by_place := _, F_ends_by_place := F_ends_by_place, m_ends_by_place := PySem.W.mg_of X G a_ends_by_place, b_ends_by_place := b_ends_by_place, a_turned_net := _, fd_turned_net := _, F_turned_net := F_turned_net, m_turned_net := PySem.W.mg_of X G a_turned_net, b_turned_net := b_turned_net, a_left_over := _, fd_left_over := _, F_left_over := F_left_over, m_left_over := PySem.W.mg_of X G a_left_over, b_left_over := b_left_over, a_flow_fault := _, fd_flow_fault := _, F_flow_fault := F_flow_fault, m_flow_fault := PySem.W.mg_of X G a_flow_fault, b_flow_fault := b_flow_fault, a_is_flow := _, fd_is_flow := _, F_is_flow := F_is_flow, m_is_flow := PySem.W.mg_of X G a_is_flow, b_is_flow := b_is_flow, a_least_amounts := _, fd_least_amounts := _, F_least_amounts := F_least_amounts, m_least_amounts := PySem.W.mg_of X G a_least_amounts, b_least_amounts := b_least_amounts, a_steps_of := _, fd_steps_of := _, F_steps_of := F_steps_of, m_steps_of := PySem.W.mg_of X G a_steps_of, b_steps_of := b_steps_of, a_steps_by_start := _, fd_steps_by_start := _, F_steps_by_start := F_steps_by_start, m_steps_by_start := PySem.W.mg_of X G a_steps_by_start, b_steps_by_start := b_steps_by_start, a_reached_from := _, fd_reached_from := _, F_reached_from := F_reached_from, m_reached_from := PySem.W.mg_of X G a_reached_from, b_reached_from := b_reached_from, a_reaching := _, fd_reaching := _, F_reaching := F_reaching, m_reaching := PySem.W.mg_of X G a_reaching, b_reaching := b_reaching, a_way_to := _, fd_way_to := _, F_way_to := F_way_to, m_way_to := PySem.W.mg_of X G a_way_to, b_way_to := b_way_to, a_room_along := _, fd_room_along := _, F_room_along := F_room_along, m_room_along := PySem.W.mg_of X G a_room_along, b_room_along := b_room_along, a_price_along := _, fd_price_along := _, F_price_along := F_price_along, m_price_along := PySem.W.mg_of X G a_price_along, b_price_along := b_price_along, a_pushed := _, fd_pushed := _, F_pushed := F_pushed, m_pushed := PySem.W.mg_of X G a_pushed, b_pushed := b_pushed, a_filled := _, fd_filled := _, F_filled := F_filled, m_filled := PySem.W.mg_of X G a_filled, b_filled := b_filled, a_lacking := _, fd_lacking := _, F_lacking := F_lacking, m_lacking := PySem.W.mg_of X G a_lacking, b_lacking := b_lacking, a_first_flow := _, fd_first_flow := _, F_first_flow := F_first_flow, m_first_flow := PySem.W.mg_of X G a_first_flow, b_first_flow := b_first_flow, a_gap_over := _, fd_gap_over := _, F_gap_over := F_gap_over, m_gap_over := PySem.W.mg_of X G a_gap_over, b_gap_over := b_gap_over, a_gap_under := _, fd_gap_under := _, F_gap_under := F_gap_under, m_gap_under := PySem.W.mg_of X G a_gap_under, b_gap_under := b_gap_under, a_judge_never := _, fd_judge_never := _, F_judge_never := F_judge_never, m_judge_never := PySem.W.mg_of X G a_judge_never, b_judge_never := b_judge_never, a_has_flow := _, fd_has_flow := _, F_has_flow := F_has_flow, m_has_flow := PySem.W.mg_of X G a_has_flow, b_has_flow := b_has_flow, a_law_state := _, fd_law_state := _, F_law_state := F_law_state, m_law_state := PySem.W.mg_of X G a_law_state, b_law_state := b_law_state, a_law_draw := _, fd_law_draw := _, F_law_draw := F_law_draw, m_law_draw := PySem.W.mg_of X G a_law_draw, b_law_draw := b_law_draw, a_law_truth := _, fd_law_truth := _, F_law_truth := F_law_truth, m_law_truth := PySem.W.mg_of X G a_law_truth, b_law_truth := b_law_truth, a_law_net := _, fd_law_net := _, F_law_net := F_law_net, m_law_net := PySem.W.mg_of X G a_law_net, b_law_net := b_law_net, a_law_rest := _, fd_law_rest := _, F_law_rest := F_law_rest, m_law_rest := PySem.W.mg_of X G a_law_rest, b_law_rest := b_law_rest, a_law_sets := _, fd_law_sets := _, F_law_sets := F_law_sets, m_law_sets := PySem.W.mg_of X G a_law_sets, b_law_sets := b_law_sets, a_law_gap := _, fd_law_gap := _, F_law_gap := F_law_gap, m_law_gap := PySem.W.mg_of X G a_law_gap, b_law_gap := b_law_gap, a_law_never := _, fd_law_never := _, F_law_never := F_law_never, m_law_never := PySem.W.mg_of X G a_law_never, b_law_never := b_law_never, a_law_steps := _, fd_law_steps := _, F_law_steps := F_law_steps, m_law_steps := PySem.W.mg_of X G a_law_steps, b_law_steps := b_law_steps, a_law_close := _, fd_law_close := _, F_law_close := F_law_close, m_law_close := PySem.W.mg_of X G a_law_close, b_law_close := b_law_close, a_law_inside := _, fd_law_inside := _, F_law_inside := F_law_inside, m_law_inside := PySem.W.mg_of X G a_law_inside, b_law_inside := b_law_inside, a_law_walks_hold := _, fd_law_walks_hold := _, F_law_walks_hold := F_law_walks_hold, m_law_walks_hold := PySem.W.mg_of X G a_law_walks_hold, b_law_walks_hold := b_law_walks_hold, a_law := _, fd_law := _, F_law := F_law, m_law := PySem.W.mg_of X G a_law, b_law := b_law, n_all := PySem.W.mg_none_of X G z_all, n_bool := PySem.W.mg_none_of X G z_bool, n_enumerate := PySem.W.mg_none_of X G z_enumerate, n_int := PySem.W.mg_none_of X G z_int, n_isinstance := PySem.W.mg_none_of X G z_isinstance, n_len := PySem.W.mg_none_of X G z_len, n_list := PySem.W.mg_none_of X G z_list, n_min := PySem.W.mg_none_of X G z_min, n_range := PySem.W.mg_none_of X G z_range, n_sorted := PySem.W.mg_none_of X G z_sorted, n_str := PySem.W.mg_none_of X G z_str, n_sum := PySem.W.mg_none_of X G z_sum, n_tuple := PySem.W.mg_none_of X G z_tuple, n_zip := PySem.W.mg_none_of X G z_zip })⟩
theorem sp_in {K : PySem.W.Frag} {H : Hp} {a : Addr} {ns : List Int} (e : den_law [.list (ns.map .int)] = some (.va (.bool true))) (hS : SqL K H a (ns.map V.int)) : SpF K den_law [.ref a] H (fun v _ => v = .bl true) fun _ _ _ => False := by
  have m : mask H (fun _ => False) = H := by funext b; unfold mask; simp
  refine ⟨fun _ => False, [.list (ns.map .int)], .va (.bool true), fun a h => h.elim, .cons (.lst (by rw [m]; exact hS) (dpa_of_ints ns)) .nil, e, fun v H1 e1 hr => ?_⟩
  cases hr
  rfl
theorem walk {l : PySem.W.OpenLaw} {q : Program} {loose : List Str} {XP : (Str → Option Value) → Heap → Prop} {YP : World → Heap → Prop} {d : DefRec} {K : Params → PySem.W.Frag} (hn : l.most = some 63) (hdf : d.params.defaults = [])
    (hY : ∀ (w : World) (h : Heap), YP w h → (K w.params).In h)
    (F : ∀ (w : World) (mg : Str → Option Value) (fa : Addr) (h : Heap), (K w.params).In h → h.Ns mainGlobals mg → mg d.name = some (.ref fa) →
      ∃ fd : FuncData, (∀ (s : Shared) (u : Value), BindsTo s fd ⟨[u], []⟩ [("script", u)]) ∧ ∀ base : Heap, (K w.params).In base → base.Ns mainGlobals mg → FnOk l.prog w (K w.params) mg base CX0 9 fa fd ["script"] (SpF (K w.params) den_law)) :
    PySem.W.WalkO q loose XP YP l.row.toRowW d [] (fun f vs => PySem.call f vs) :=
  L2.walk_of (n := 63) (k := 9) (x := "script") (CX := fun _ => CX0) (sp := fun w => SpF (K w.params) den_law) hn (by decide) hdf ⟨rfl, by decide, by decide⟩ hY F (fun _ _ a ns hl _ hS => sp_in (law_true ns hl) hS) fun _ _ _ _ _ z => z
end K04
open PySem PySem.W PyProof.Rows in
set_option maxRecDepth 100000 in
set_option maxHeartbeats 0 in
theorem PySem.Challenge.cw_ebbledger_k04_whole_steps_filling_and_se_holds : PySem.Challenge.rw_ebbledger_k04_whole_steps_filling_and_se.Holds := by
  w_on; o_law; k_head; (case hw => w_witness2)
  k_fill
  refine K04.walk (l := PySem.Challenge.rw_ebbledger_k04_whole_steps_filling_and_se) rfl rfl (fun w h Y => PySem.W.kIn_of Y) ?F
  case F =>
    intro w mg fa h KX G hmg
    refine' K04.all_mk KX G hmg ?a_is_whole ?l_is_whole ?c_is_whole ?k_is_whole ?a_least_of ?l_least_of ?c_least_of ?k_least_of ?a_less_by ?l_less_by ?c_less_by ?k_less_by ?a_node_names ?l_node_names ?c_node_names ?k_node_names ?a_ends_by_place ?l_ends_by_place ?c_ends_by_place ?k_ends_by_place ?a_turned_net ?l_turned_net ?c_turned_net ?k_turned_net ?a_left_over ?l_left_over ?c_left_over ?k_left_over ?a_flow_fault ?l_flow_fault ?c_flow_fault ?k_flow_fault ?a_is_flow ?l_is_flow ?c_is_flow ?k_is_flow ?a_least_amounts ?l_least_amounts ?c_least_amounts ?k_least_amounts ?a_steps_of ?l_steps_of ?c_steps_of ?k_steps_of ?a_steps_by_start ?l_steps_by_start ?c_steps_by_start ?k_steps_by_start ?a_reached_from ?l_reached_from ?c_reached_from ?k_reached_from ?a_reaching ?l_reaching ?c_reaching ?k_reaching ?a_way_to ?l_way_to ?c_way_to ?k_way_to ?a_room_along ?l_room_along ?c_room_along ?k_room_along ?a_price_along ?l_price_along ?c_price_along ?k_price_along ?a_pushed ?l_pushed ?c_pushed ?k_pushed ?a_filled ?l_filled ?c_filled ?k_filled ?a_lacking ?l_lacking ?c_lacking ?k_lacking ?a_first_flow ?l_first_flow ?c_first_flow ?k_first_flow ?a_gap_over ?l_gap_over ?c_gap_over ?k_gap_over ?a_gap_under ?l_gap_under ?c_gap_under ?k_gap_under ?a_judge_never ?l_judge_never ?c_judge_never ?k_judge_never ?a_has_flow ?l_has_flow ?c_has_flow ?k_has_flow ?a_law_state ?l_law_state ?c_law_state ?k_law_state ?a_law_draw ?l_law_draw ?c_law_draw ?k_law_draw ?a_law_truth ?l_law_truth ?c_law_truth ?k_law_truth ?a_law_net ?l_law_net ?c_law_net ?k_law_net ?a_law_rest ?l_law_rest ?c_law_rest ?k_law_rest ?a_law_sets ?l_law_sets ?c_law_sets ?k_law_sets ?a_law_gap ?l_law_gap ?c_law_gap ?k_law_gap ?a_law_never ?l_law_never ?c_law_never ?k_law_never ?a_law_steps ?l_law_steps ?c_law_steps ?k_law_steps ?a_law_close ?l_law_close ?c_law_close ?k_law_close ?a_law_inside ?l_law_inside ?c_law_inside ?k_law_inside ?a_law_walks_hold ?l_law_walks_hold ?c_law_walks_hold ?k_law_walks_hold ?a_law ?l_law ?c_law ?k_law ?z_all ?z_bool ?z_enumerate ?z_int ?z_isinstance ?z_len ?z_list ?z_min ?z_range ?z_sorted ?z_str ?z_sum ?z_tuple ?z_zip
    (case a_is_whole => k_is)
    (case l_is_whole => k_is)
    (case c_is_whole => k_is)
    (case k_is_whole => k_is)
    (case a_least_of => k_is)
    (case l_least_of => k_is)
    (case c_least_of => k_is)
    (case k_least_of => k_is)
    (case a_less_by => k_is)
    (case l_less_by => k_is)
    (case c_less_by => k_is)
    (case k_less_by => k_is)
    (case a_node_names => k_is)
    (case l_node_names => k_is)
    (case c_node_names => k_is)
    (case k_node_names => k_is)
    (case a_ends_by_place => k_is)
    (case l_ends_by_place => k_is)
    (case c_ends_by_place => k_is)
    (case k_ends_by_place => k_is)
    (case a_turned_net => k_is)
    (case l_turned_net => k_is)
    (case c_turned_net => k_is)
    (case k_turned_net => k_is)
    (case a_left_over => k_is)
    (case l_left_over => k_is)
    (case c_left_over => k_is)
    (case k_left_over => k_is)
    (case a_flow_fault => k_is)
    (case l_flow_fault => k_is)
    (case c_flow_fault => k_is)
    (case k_flow_fault => k_is)
    (case a_is_flow => k_is)
    (case l_is_flow => k_is)
    (case c_is_flow => k_is)
    (case k_is_flow => k_is)
    (case a_least_amounts => k_is)
    (case l_least_amounts => k_is)
    (case c_least_amounts => k_is)
    (case k_least_amounts => k_is)
    (case a_steps_of => k_is)
    (case l_steps_of => k_is)
    (case c_steps_of => k_is)
    (case k_steps_of => k_is)
    (case a_steps_by_start => k_is)
    (case l_steps_by_start => k_is)
    (case c_steps_by_start => k_is)
    (case k_steps_by_start => k_is)
    (case a_reached_from => k_is)
    (case l_reached_from => k_is)
    (case c_reached_from => k_is)
    (case k_reached_from => k_is)
    (case a_reaching => k_is)
    (case l_reaching => k_is)
    (case c_reaching => k_is)
    (case k_reaching => k_is)
    (case a_way_to => k_is)
    (case l_way_to => k_is)
    (case c_way_to => k_is)
    (case k_way_to => k_is)
    (case a_room_along => k_is)
    (case l_room_along => k_is)
    (case c_room_along => k_is)
    (case k_room_along => k_is)
    (case a_price_along => k_is)
    (case l_price_along => k_is)
    (case c_price_along => k_is)
    (case k_price_along => k_is)
    (case a_pushed => k_is)
    (case l_pushed => k_is)
    (case c_pushed => k_is)
    (case k_pushed => k_is)
    (case a_filled => k_is)
    (case l_filled => k_is)
    (case c_filled => k_is)
    (case k_filled => k_is)
    (case a_lacking => k_is)
    (case l_lacking => k_is)
    (case c_lacking => k_is)
    (case k_lacking => k_is)
    (case a_first_flow => k_is)
    (case l_first_flow => k_is)
    (case c_first_flow => k_is)
    (case k_first_flow => k_is)
    (case a_gap_over => k_is)
    (case l_gap_over => k_is)
    (case c_gap_over => k_is)
    (case k_gap_over => k_is)
    (case a_gap_under => k_is)
    (case l_gap_under => k_is)
    (case c_gap_under => k_is)
    (case k_gap_under => k_is)
    (case a_judge_never => k_is)
    (case l_judge_never => k_is)
    (case c_judge_never => k_is)
    (case k_judge_never => k_is)
    (case a_has_flow => k_is)
    (case l_has_flow => k_is)
    (case c_has_flow => k_is)
    (case k_has_flow => k_is)
    (case a_law_state => k_is)
    (case l_law_state => k_is)
    (case c_law_state => k_is)
    (case k_law_state => k_is)
    (case a_law_draw => k_is)
    (case l_law_draw => k_is)
    (case c_law_draw => k_is)
    (case k_law_draw => k_is)
    (case a_law_truth => k_is)
    (case l_law_truth => k_is)
    (case c_law_truth => k_is)
    (case k_law_truth => k_is)
    (case a_law_net => k_is)
    (case l_law_net => k_is)
    (case c_law_net => k_is)
    (case k_law_net => k_is)
    (case a_law_rest => k_is)
    (case l_law_rest => k_is)
    (case c_law_rest => k_is)
    (case k_law_rest => k_is)
    (case a_law_sets => k_is)
    (case l_law_sets => k_is)
    (case c_law_sets => k_is)
    (case k_law_sets => k_is)
    (case a_law_gap => k_is)
    (case l_law_gap => k_is)
    (case c_law_gap => k_is)
    (case k_law_gap => k_is)
    (case a_law_never => k_is)
    (case l_law_never => k_is)
    (case c_law_never => k_is)
    (case k_law_never => k_is)
    (case a_law_steps => k_is)
    (case l_law_steps => k_is)
    (case c_law_steps => k_is)
    (case k_law_steps => k_is)
    (case a_law_close => k_is)
    (case l_law_close => k_is)
    (case c_law_close => k_is)
    (case k_law_close => k_is)
    (case a_law_inside => k_is)
    (case l_law_inside => k_is)
    (case c_law_inside => k_is)
    (case k_law_inside => k_is)
    (case a_law_walks_hold => k_is)
    (case l_law_walks_hold => k_is)
    (case c_law_walks_hold => k_is)
    (case k_law_walks_hold => k_is)
    (case a_law => k_is)
    (case l_law => k_is)
    (case c_law => k_is)
    (case k_law => k_is)
    (case z_all => k_is)
    (case z_bool => k_is)
    (case z_enumerate => k_is)
    (case z_int => k_is)
    (case z_isinstance => k_is)
    (case z_len => k_is)
    (case z_list => k_is)
    (case z_min => k_is)
    (case z_range => k_is)
    (case z_sorted => k_is)
    (case z_str => k_is)
    (case z_sum => k_is)
    (case z_tuple => k_is)
    (case z_zip => k_is)
end
