import PyProof.Rows.All
import Wide.All
import OpenK.AllK
import Wide.FinOn
import HandS.ForMost
import HandS.SortKw
import HandS.IsInst
import HandS.Nested
import HandS.Conv
import HandS.Style
import HandS.Gcd
import HandS.Defaults
import HandS.EndTab
import KE.KMathGC
import KE.GoesNew
import KE.GoesEnumKw
import HandS.TupAny
import KE.KTupSum
import KE.DataMinMax
import KE.KRevSl
import PyProof.SliceStr2
import KE.DatumOrd
import PySem.Challenge.RW_sincemarks_k70_whole_sorted_counts_as_bo
import PyProof.AutoSeq1
set_option Elab.async false
set_option linter.all false
set_option maxRecDepth 100000
set_option maxHeartbeats 2000000
namespace DL
open PySem PySem.Spec PyProof.Rows L2 LamX NdefX

/-! ### data by value -/
inductive D where
  | non
  | bl (b : Bool)
  | int (i : Int)
  | str (s : Str)
  | adr (p : Addr)
  | tup (l : List D)
  | lst (l : List D)
mutual
/-- v stands for the datum d in the heap H -/
def Rep (H : Hp) : D → V → Prop
  | .non, v => v = .non
  | .bl b, v => v = .bl b
  | .int i, v => v = .int i
  | .str s, v => v = .str s
  | .adr p, v => v = .ref p
  | .tup ds, v => ∃ p xs, v = .ref p ∧ H p = some (.tup xs) ∧ Reps H ds xs
  | .lst ds, v => ∃ p xs, v = .ref p ∧ H p = some (.lst xs) ∧ Reps H ds xs
def Reps (H : Hp) : List D → List V → Prop
  | [], xs => xs = []
  | d :: ds, xs => ∃ x r, xs = x :: r ∧ Rep H d x ∧ Reps H ds r
end
/-- what S has H has; S has no table -/
structure Same (H H' : Hp) : Prop where
  k : ∀ b o, H b = some o → H' b = some o
  z : ∀ b ps, H b ≠ some (.tbl ps)
instance {H H' : Hp} : CoeFun (Same H H') (fun _ => ∀ b o, H b = some o → H' b = some o) := ⟨Same.k⟩
theorem Same.rf {H H' : Hp} (a : Same H H') : Same H H := ⟨fun _ _ h => h, a.z⟩
theorem Same.rf2 {H H' : Hp} (z : ∀ b ps, H' b ≠ some (.tbl ps)) : Same H' H' := ⟨fun _ _ h => h, z⟩
theorem Same.trans {A B C : Hp} (a : Same A B) (b : Same B C) : Same A C := ⟨fun x o h => b x o (a x o h), a.z⟩
theorem noTb_upd {S : Hp} {p : Addr} {o : HO} (h : ∀ b ps, S b ≠ some (.tbl ps)) (ho : ∀ ps, o ≠ .tbl ps) : ∀ b ps, upd S p o b ≠ some (.tbl ps) := fun b ps e => by
  by_cases z : b = p
  · rw [z, upd_same] at e
    exact ho ps (Option.some.inj e)
  · rw [upd_ne z] at e
    exact h b ps e
mutual
theorem Rep.mono {H H' : Hp} (e : Same H H') : ∀ {d : D} {v : V}, Rep H d v → Rep H' d v
  | .non, _, h => h
  | .bl _, _, h => h
  | .int _, _, h => h
  | .str _, _, h => h
  | .adr _, _, h => h
  | .tup ds, v, h => by
    obtain ⟨p, xs, e1, e2, r⟩ := (show ∃ p xs, v = .ref p ∧ H p = some (.tup xs) ∧ Reps H ds xs from h)
    exact ⟨p, xs, e1, e p _ e2, Reps.mono e r⟩
  | .lst ds, v, h => by
    obtain ⟨p, xs, e1, e2, r⟩ := (show ∃ p xs, v = .ref p ∧ H p = some (.lst xs) ∧ Reps H ds xs from h)
    exact ⟨p, xs, e1, e p _ e2, Reps.mono e r⟩
theorem Reps.mono {H H' : Hp} (e : Same H H') : ∀ {ds : List D} {xs : List V}, Reps H ds xs → Reps H' ds xs
  | [], _, h => h
  | d :: ds, xs, h => by
    obtain ⟨x, r, e1, h1, h2⟩ := (show ∃ x r, xs = x :: r ∧ Rep H d x ∧ Reps H ds r from h)
    exact ⟨x, r, e1, Rep.mono e h1, Reps.mono e h2⟩
end
section
variable {H : Hp} {ds es : List D} {xs ys : List V} {d : D} {v : V}
theorem Reps.nil : Reps H [] [] := rfl
theorem Reps.cons (h : Rep H d v) (t : Reps H ds xs) : Reps H (d :: ds) (v :: xs) := ⟨v, xs, rfl, h, t⟩
theorem Reps.one (h : Rep H d v) : Reps H [d] [v] := .cons h rfl
theorem Reps.len : ∀ {ds : List D} {xs : List V}, Reps H ds xs → xs.length = ds.length
  | [], xs, h => by
    have h : xs = [] := h
    rw [h] <;> rfl
  | d :: ds, xs, h => by
    obtain ⟨x, r, e, _, t⟩ := (show ∃ x r, xs = x :: r ∧ Rep H d x ∧ Reps H ds r from h)
    rw [e, List.length_cons, List.length_cons, Reps.len t]
theorem Reps.get : ∀ {ds : List D} {xs : List V} {i : Nat} {d : D}, Reps H ds xs → ds[i]? = some d → ∃ x, xs[i]? = some x ∧ Rep H d x
  | [], _, _, _, _, e => by simp at e
  | d :: ds, xs, 0, d', h, e => by
    obtain ⟨x, r, e1, h1, _⟩ := (show ∃ x r, xs = x :: r ∧ Rep H d x ∧ Reps H ds r from h)
    have e : d = d' := Option.some.inj e
    exact ⟨x, by rw [e1] <;> rfl, e ▸ h1⟩
  | d :: ds, xs, i + 1, d', h, e => by
    obtain ⟨x, r, e1, _, t⟩ := (show ∃ x r, xs = x :: r ∧ Rep H d x ∧ Reps H ds r from h)
    obtain ⟨y, e2, h2⟩ := Reps.get (i := i) t e
    exact ⟨y, by rw [e1]; exact e2, h2⟩
theorem Reps.append : ∀ {ds : List D} {xs : List V}, Reps H ds xs → Reps H es ys → Reps H (ds ++ es) (xs ++ ys)
  | [], xs, h, t => by
    have h : xs = [] := h
    rw [h]
    exact t
  | d :: ds, xs, h, t => by
    obtain ⟨x, r, e1, h1, h2⟩ := (show ∃ x r, xs = x :: r ∧ Rep H d x ∧ Reps H ds r from h)
    rw [e1]
    exact .cons h1 (Reps.append h2 t)
theorem Reps.drop : ∀ {ds : List D} {xs : List V} (n : Nat), Reps H ds xs → Reps H (ds.drop n) (xs.drop n)
  | _, _, 0, h => h
  | [], xs, n + 1, h => by
    have h : xs = [] := h
    rw [h]
    exact rfl
  | d :: ds, xs, n + 1, h => by
    obtain ⟨x, r, e1, _, h2⟩ := (show ∃ x r, xs = x :: r ∧ Rep H d x ∧ Reps H ds r from h)
    rw [e1]
    exact Reps.drop n h2
theorem Reps.take : ∀ {ds : List D} {xs : List V} (n : Nat), Reps H ds xs → Reps H (ds.take n) (xs.take n)
  | _, _, 0, h => by
    simp only [List.take_zero]
    exact rfl
  | [], xs, n + 1, h => by
    have h : xs = [] := h
    rw [h]
    exact rfl
  | d :: ds, xs, n + 1, h => by
    obtain ⟨x, r, e1, h1, h2⟩ := (show ∃ x r, xs = x :: r ∧ Rep H d x ∧ Reps H ds r from h)
    rw [e1]
    exact .cons h1 (Reps.take n h2)
theorem Reps.reverse : ∀ {ds : List D} {xs : List V}, Reps H ds xs → Reps H ds.reverse xs.reverse
  | [], xs, h => by
    have h : xs = [] := h
    rw [h]
    exact rfl
  | d :: ds, xs, h => by
    obtain ⟨x, r, e1, h1, h2⟩ := (show ∃ x r, xs = x :: r ∧ Rep H d x ∧ Reps H ds r from h)
    rw [e1, List.reverse_cons, List.reverse_cons]
    exact Reps.append (Reps.reverse h2) (.one h1)
theorem Reps.set : ∀ {ds : List D} {xs : List V} (i : Nat), Reps H ds xs → Rep H d v → Reps H (ds.set i d) (xs.set i v)
  | [], xs, _, h, _ => by
    have h : xs = [] := h
    rw [h]
    exact rfl
  | _ :: ds, xs, 0, h, q => by
    obtain ⟨x, r, e1, _, h2⟩ := (show ∃ x r, xs = x :: r ∧ Rep H _ x ∧ Reps H ds r from h)
    rw [e1]
    exact .cons q h2
  | _ :: ds, xs, i + 1, h, q => by
    obtain ⟨x, r, e1, h1, h2⟩ := (show ∃ x r, xs = x :: r ∧ Rep H _ x ∧ Reps H ds r from h)
    rw [e1]
    exact .cons h1 (Reps.set i h2 q)
theorem Reps.dropLast : ∀ {ds : List D} {xs : List V}, Reps H ds xs → Reps H ds.dropLast xs.dropLast := fun {ds xs} h => by
  rw [List.dropLast_eq_take, List.dropLast_eq_take, Reps.len h]
  exact Reps.take _ h
theorem Reps.replicate (h : Reps H ds xs) : ∀ n : Nat, Reps H (List.replicate n ds).flatten (List.replicate n xs).flatten
  | 0 => rfl
  | n + 1 => by
    rw [List.replicate_succ, List.replicate_succ, List.flatten_cons, List.flatten_cons]
    exact Reps.append h (Reps.replicate h n)
/-- ints -/
theorem Reps.ofInts : ∀ ns : List Int, Reps H (ns.map D.int) (ns.map V.int)
  | [] => rfl
  | n :: ns => .cons rfl (Reps.ofInts ns)
theorem Reps.ints : ∀ {ns : List Int} {xs : List V}, Reps H (ns.map D.int) xs → xs = ns.map V.int
  | [], xs, h => h
  | n :: ns, xs, h => by
    obtain ⟨x, r, e1, h1, h2⟩ := (show ∃ x r, xs = x :: r ∧ Rep H (.int n) x ∧ Reps H (ns.map D.int) r from h)
    have h1 : x = .int n := h1
    rw [e1, h1, Reps.ints h2] <;> rfl
end
/-- the ints of a list of data -/
def intsOf : List D → Option (List Int)
  | [] => some []
  | .int i :: r => match intsOf r with
    | some l => some (i :: l)
    | none => none
  | _ => none
theorem intsOf_eq : ∀ {ds : List D} {ns : List Int}, intsOf ds = some ns → ds = ns.map D.int
  | [], ns, h => by
    have h : some [] = some ns := h
    cases h
    rfl
  | .int i :: r, ns, h => by
    unfold intsOf at h
    cases e : intsOf r with
    | none => rw [e] at h; cases h
    | some l =>
      rw [e] at h
      cases h
      rw [List.map_cons, ← intsOf_eq e]
  | .non :: r, _, h => by simp [intsOf] at h
  | .adr _ :: r, _, h => by simp [intsOf] at h
  | .bl _ :: r, _, h => by simp [intsOf] at h
  | .str _ :: r, _, h => by simp [intsOf] at h
  | .tup _ :: r, _, h => by simp [intsOf] at h
  | .lst _ :: r, _, h => by simp [intsOf] at h
theorem intsOf_map (ns : List Int) : intsOf (ns.map D.int) = some ns := by
  induction ns with
  | nil => rfl
  | cons n ns ih =>
    rw [List.map_cons]
    unfold intsOf
    rw [ih]
def blsOf : List D → Option (List Bool)
  | [] => some []
  | .bl i :: r => match blsOf r with
    | some l => some (i :: l)
    | none => none
  | _ => none
theorem blsOf_reps {H : Hp} : ∀ {ds : List D} {bs : List Bool} {xs : List V}, blsOf ds = some bs → Reps H ds xs → xs = bs.map V.bl
  | [], bs, xs, h, r => by
    have h : some [] = some bs := h
    cases h
    exact r
  | .bl i :: ds, bs, xs, h, r => by
    obtain ⟨x, q, e1, h1, h2⟩ := (show ∃ x q, xs = x :: q ∧ Rep H (.bl i) x ∧ Reps H ds q from r)
    unfold blsOf at h
    cases e : blsOf ds with
    | none => rw [e] at h; cases h
    | some l =>
      rw [e] at h
      cases h
      have h1 : x = .bl i := h1
      rw [e1, h1, blsOf_reps e h2] <;> rfl
  | .non :: r, _, _, h, _ => by simp [blsOf] at h
  | .adr _ :: r, _, _, h, _ => by simp [blsOf] at h
  | .int _ :: r, _, _, h, _ => by simp [blsOf] at h
  | .str _ :: r, _, _, h, _ => by simp [blsOf] at h
  | .tup _ :: r, _, _, h, _ => by simp [blsOf] at h
  | .lst _ :: r, _, _, h, _ => by simp [blsOf] at h
def strsOf : List D → Option (List Str)
  | [] => some []
  | .str i :: r => match strsOf r with
    | some l => some (i :: l)
    | none => none
  | _ => none
theorem strsOf_reps {H : Hp} : ∀ {ds : List D} {bs : List Str} {xs : List V}, strsOf ds = some bs → Reps H ds xs → xs = bs.map V.str
  | [], bs, xs, h, r => by
    have h : some [] = some bs := h
    cases h
    exact r
  | .str i :: ds, bs, xs, h, r => by
    obtain ⟨x, q, e1, h1, h2⟩ := (show ∃ x q, xs = x :: q ∧ Rep H (.str i) x ∧ Reps H ds q from r)
    unfold strsOf at h
    cases e : strsOf ds with
    | none => rw [e] at h; cases h
    | some l =>
      rw [e] at h
      cases h
      have h1 : x = .str i := h1
      rw [e1, h1, strsOf_reps e h2] <;> rfl
  | .non :: r, _, _, h, _ => by simp [strsOf] at h
  | .adr _ :: r, _, _, h, _ => by simp [strsOf] at h
  | .int _ :: r, _, _, h, _ => by simp [strsOf] at h
  | .bl _ :: r, _, _, h, _ => by simp [strsOf] at h
  | .tup _ :: r, _, _, h, _ => by simp [strsOf] at h
  | .lst _ :: r, _, _, h, _ => by simp [strsOf] at h

/-! ### heaps that grow -/
/-- what may change: the code tables, one hand (its list, the list of its cells, the cells); fx: what stands for good -/
structure Tx where
  tabs : List NTab
  hand : Option (Addr × Addr × List Int) := none
  fx : Hp := fun _ => none
def HandAt (H : Hp) (p q : Addr) (cs : List Int) : Prop := ∃ i b g u : Int, H p = some (.lst [.ref q, .int i, .int b, .int g, .int u]) ∧ H q = some (.lst (cs.map V.int)) ∧ 0 ≤ i ∧ 0 ≤ b
def HandOk (T : Tx) (H : Hp) : Prop := (∀ p q cs, T.hand = some (p, q, cs) → HandAt H p q cs) ∧ Same T.fx H
def Tx.is (T : Tx) (b : Addr) : Prop := ∃ q cs, T.hand = some (b, q, cs)
structure Tb (T : Tx) (H : Hp) : Prop where
  t : TabsN T.tabs H
  h : HandOk T H
theorem Tb.not {T : Tx} {H : Hp} {b : Addr} (t : Tb T H) (h : H b = none) : ¬T.is b := fun ⟨q, cs, e⟩ => by
  obtain ⟨_, _, _, _, e1, _⟩ := t.h.1 b q cs e
  rw [h] at e1
  cases e1
/-- all but tables and the hand stand; nothing that was tracked is gone -/
structure Sm (T : Tx) (H H' : Hp) : Prop where
  k : ∀ b o, H b = some o → (∀ ps, o ≠ .tbl ps) → ¬T.is b → H' b = some o
  n : ∀ b, H' b = none → H b = none
section
variable {T : Tx}
theorem Sm.refl (H : Hp) : Sm T H H := ⟨fun _ _ h _ _ => h, fun _ h => h⟩
theorem Sm.trans {A B C : Hp} (a : Sm T A B) (b : Sm T B C) : Sm T A C := ⟨fun x o h q n => b.k x o (a.k x o h q n) q n, fun x h => a.n x (b.n x h)⟩
theorem Sm.new {H : Hp} {p : Addr} {o : HO} (h : H p = none) : Sm T H (upd H p o) := ⟨fun b u e _ _ => by
  rw [upd_ne (ne_of_none e h)]
  exact e, fun b e => by
  by_cases z : b = p
  · rw [z]; exact h
  · rw [upd_ne z] at e; exact e⟩
theorem Sm.lst {H : Hp} {a : Addr} {xs : List V} {H' : Hp} (e : Sm T H H') (h : H a = some (.lst xs)) (n : ¬T.is a) : H' a = some (.lst xs) := e.k a _ h (fun _ z => by cases z) n
end
theorem hand_same {T : Tx} {H H' : Hp} (h : HandOk T H) (k : ∀ b xs, H b = some (.lst xs) → (T.is b ∨ ∃ p cs, T.hand = some (p, b, cs)) → H' b = some (.lst xs)) (f : Same T.fx H') : HandOk T H' := ⟨fun p q cs e => by
  obtain ⟨i, b, g, u, e1, e2, e3⟩ := h.1 p q cs e
  exact ⟨i, b, g, u, k p _ e1 (.inl ⟨q, cs, e⟩), k q _ e2 (.inr ⟨p, cs, e⟩), e3⟩, f⟩
theorem tabs_new {T : Tx} {H : Hp} {p : Addr} {o : HO} (t : Tb T H) (h : H p = none) : Tb T (upd H p o) := ⟨t.t.ext fun b u e => by
  rw [upd_ne (ne_of_none e h)]
  exact e, hand_same t.h (fun b xs e _ => by
  rw [upd_ne (ne_of_none e h)]
  exact e) ⟨fun b u e => by
  rw [upd_ne (ne_of_none (t.h.2 b u e) h)]
  exact t.h.2 b u e, t.h.2.z⟩⟩
theorem tabs_upd {T : Tx} {B H : Hp} {p : Addr} {xs : List V} {o : HO} (t : Tb T H) (tb : HandOk T B) (hb : B p = none) (h : H p = some (.lst xs)) : Tb T (upd H p o) := ⟨fun q hq => by
  obtain ⟨ps, e1, e2, e3⟩ := t.t q hq
  refine ⟨ps, ?_, e2, fun pos cv hc => ?_⟩
  · rw [upd_ne (ne_of e1 h (fun z => by cases z))]
    exact e1
  · obtain ⟨c, e4, e5⟩ := e3 pos cv hc
    refine ⟨c, e4, ?_⟩
    rw [upd_ne (ne_of e5 h (fun z => by unfold CodeO at z; cases z))]
    exact e5, hand_same t.h (fun b ys e w => by
  rw [upd_ne]
  · exact e
  · intro z
    rw [z] at w
    rcases w with ⟨q, cs, e'⟩ | ⟨q, cs, e'⟩
    · obtain ⟨_, _, _, _, e1, _⟩ := tb.1 _ _ _ e'
      rw [hb] at e1
      cases e1
    · obtain ⟨_, _, _, _, _, e1, _⟩ := tb.1 _ _ _ e'
      rw [hb] at e1
      cases e1) ⟨fun b u e => by
  rw [upd_ne (ne_of_none (tb.2 b u e) hb)]
  exact t.h.2 b u e, t.h.2.z⟩⟩
/-- from (S, H) to (S', H'): S what is fixed for good, H all -/
structure Ext (T : Tx) (S H S' H' : Hp) : Prop where
  s : Same S S'
  h : Sm T H H'
  c : Same S' H'
  f : ∀ p o, S' p = some o → S p = some o ∨ H p = none
  t : Tb T H'
  b : HandOk T H
section
variable {T : Tx} {S H S' H' S2 H2 : Hp}
theorem Ext.refl (c : Same S H) (t : Tb T H) : Ext T S H S H := ⟨c.rf, Sm.refl H, c, fun _ _ h => .inl h, t, t.h⟩
theorem Ext.trans (a : Ext T S H S' H') (b : Ext T S' H' S2 H2) : Ext T S H S2 H2 := ⟨a.s.trans b.s, a.h.trans b.h, b.c, fun p o h => by
  rcases b.f p o h with z | z
  · exact a.f p o z
  · exact .inr (a.h.n p z), b.t, a.b⟩
/-- an object that was not there is not the hand -/
theorem Ext.no (a : Ext T S H S' H') {p : Addr} (h : H p = none) : ¬T.is p := fun ⟨q, cs, e⟩ => by
  obtain ⟨_, _, _, _, e1, _⟩ := a.b.1 p q cs e
  rw [h] at e1
  cases e1
/-- a new object, fixed -/
theorem Ext.new {p : Addr} {o : HO} (c : Same S H) (t : Tb T H) (h : H p = none) (ho : ∀ ps, o ≠ .tbl ps := by intro _ z; cases z) : Ext T S H (upd S p o) (upd H p o) := by
  have n : S p = none := by
    cases e : S p with
    | none => rfl
    | some u => rw [c p u e] at h; cases h
  refine ⟨⟨fun b u e => ?_, c.z⟩, Sm.new h, ⟨fun b u e => ?_, noTb_upd c.z ho⟩, fun b u e => ?_, tabs_new t h, t.h⟩
  · rw [upd_ne (ne_of_none e n)]; exact e
  · by_cases z : b = p
    · rw [z, upd_same] at e ⊢; exact e
    · rw [upd_ne z] at e ⊢; exact c b u e
  · by_cases z : b = p
    · rw [z]; exact .inr h
    · rw [upd_ne z] at e; exact .inl e
/-- a new object, not fixed -/
theorem Ext.newO {p : Addr} {o : HO} (c : Same S H) (t : Tb T H) (h : H p = none) : Ext T S H S (upd H p o) :=
  ⟨c.rf, Sm.new h, ⟨fun b u e => by rw [upd_ne (ne_of_none (c b u e) h)]; exact c b u e, c.z⟩, fun _ _ e => .inl e, tabs_new t h, t.h⟩
/-- one that stands is fixed -/
theorem Ext.fix {p : Addr} {o : HO} (a : Ext T S H S' H') (hp : H' p = some o) (hs : S' p = none) (hf : H p = none) (ho : ∀ ps, o ≠ .tbl ps := by intro _ z; cases z) : Ext T S H (upd S' p o) H' := by
  refine ⟨⟨fun b u e => ?_, a.s.z⟩, a.h, ⟨fun b u e => ?_, noTb_upd a.c.z ho⟩, fun b u e => ?_, a.t, a.b⟩
  · rw [upd_ne (ne_of_none (a.s b u e) hs)]; exact a.s b u e
  · by_cases z : b = p
    · rw [z, upd_same] at e; rw [z, ← Option.some.inj e]; exact hp
    · rw [upd_ne z] at e; exact a.c b u e
  · by_cases z : b = p
    · rw [z]; exact .inr hf
    · rw [upd_ne z] at e; exact a.f b u e
theorem same_fix {p : Addr} {o : HO} (c : Same S H) (hs : S p = none) : Same S (upd S p o) := ⟨fun b u e => by
  rw [upd_ne (ne_of_none e hs)]; exact e, c.z⟩
end

/-! ### environments -/
inductive Sl where
  | no
  | pu (d : D)
  | ow (l : List D)
abbrev Env := List Sl
def SlOk (B S H : Hp) : Sl → Option V → Prop
  | .no, _ => True
  | .pu d, x => ∃ v, x = some v ∧ Rep S d v
  | .ow ds, x => ∃ p xs, x = some (.ref p) ∧ H p = some (.lst xs) ∧ S p = none ∧ B p = none ∧ Reps S ds xs
structure Ok (T : Tx) (B S0 S H : Hp) (σ : L2.St) (ρ : Env) : Prop where
  e : Ext T S0 B S H
  len : σ.length = ρ.length
  sl : ∀ (i : Nat) s x, ρ[i]? = some s → σ[i]? = some x → SlOk B S H s x
  di : ∀ (i j : Nat) p ds es, i ≠ j → ρ[i]? = some (.ow ds) → ρ[j]? = some (.ow es) → σ[i]? = some (some (.ref p)) → σ[j]? = some (some (.ref p)) → False
section
variable {T : Tx} {B S0 S H S' H' : Hp} {σ : L2.St} {ρ : Env} {i : Nat} {d : D} {v : V} {ds : List D}
theorem Ok.c (k : Ok T B S0 S H σ ρ) : Same S H := k.e.c
theorem Ok.t (k : Ok T B S0 S H σ ρ) : Tb T H := k.e.t
theorem Ok.rf (k : Ok T B S0 S H σ ρ) : Ext T S H S H := .refl k.e.c k.e.t
theorem Ok.ext (k : Ok T B S0 S H σ ρ) (a : Ext T S H S' H') : Ok T B S0 S' H' σ ρ := by
  refine ⟨k.e.trans a, k.len, fun i s x e1 e2 => ?_, k.di⟩
  have q := k.sl i s x e1 e2
  cases s with
  | no => exact True.intro
  | pu d =>
    obtain ⟨v, e, r⟩ := q
    exact ⟨v, e, Rep.mono a.s r⟩
  | ow ds =>
    obtain ⟨p, xs, e, h1, h2, h3, r⟩ := q
    refine ⟨p, xs, e, a.h.lst h1 (k.e.no h3), ?_, h3, Reps.mono a.s r⟩
    cases z : S' p with
    | none => rfl
    | some o =>
      rcases a.f p o z with y | y
      · rw [h2] at y; cases y
      · rw [h1] at y; cases y
theorem Ok.at (k : Ok T B S0 S H σ ρ) {s : Sl} (e : ρ[i]? = some s) : ∃ x, σ[i]? = some x ∧ SlOk B S H s x := by
  have hi : i < σ.length := by
    rw [k.len]
    exact (List.getElem?_eq_some_iff.mp e).1
  exact ⟨σ[i], List.getElem?_eq_getElem hi, k.sl i s _ e (List.getElem?_eq_getElem hi)⟩
theorem Ok.pu (k : Ok T B S0 S H σ ρ) (e : ρ[i]? = some (.pu d)) : ∃ v, σ[i]? = some (some v) ∧ Rep S d v := by
  obtain ⟨x, e1, v, e2, r⟩ := k.at e
  exact ⟨v, by rw [e1, e2], r⟩
theorem Ok.ow (k : Ok T B S0 S H σ ρ) (e : ρ[i]? = some (.ow ds)) : ∃ p xs, σ[i]? = some (some (.ref p)) ∧ H p = some (.lst xs) ∧ S p = none ∧ B p = none ∧ Reps S ds xs := by
  obtain ⟨x, e1, p, xs, e2, r⟩ := k.at e
  exact ⟨p, xs, by rw [e1, e2], r⟩
theorem getSet {α : Type} {l : List α} {i j : Nat} {a x : α} (h : (l.set i a)[j]? = some x) : (j = i ∧ x = a) ∨ (j ≠ i ∧ l[j]? = some x) := by
  by_cases z : j = i
  · subst z
    by_cases y : j < l.length
    · rw [List.getElem?_set_self y] at h
      exact .inl ⟨rfl, (Option.some.inj h).symm⟩
    · rw [List.getElem?_eq_none (by simpa using y)] at h
      cases h
  · rw [List.getElem?_set_ne (Ne.symm z)] at h
    exact .inr ⟨z, h⟩
theorem Ok.set (k : Ok T B S0 S H σ ρ) (r : Rep S d v) : Ok T B S0 S H (σ.set i (some v)) (ρ.set i (.pu d)) := by
  refine ⟨k.e, by rw [List.length_set, List.length_set, k.len], fun j s x e1 e2 => ?_, fun a b p xs ys hn e1 e2 e3 e4 => ?_⟩
  · rcases getSet e1 with ⟨z, e⟩ | ⟨z, e⟩
    · rcases getSet e2 with ⟨_, e'⟩ | ⟨z', _⟩
      · rw [e, e']; exact ⟨v, rfl, r⟩
      · exact absurd z z'
    · rcases getSet e2 with ⟨z', _⟩ | ⟨_, e'⟩
      · exact absurd z' z
      · exact k.sl j s x e e'
  · rcases getSet e1 with ⟨_, e⟩ | ⟨z1, e1'⟩
    · cases e
    · rcases getSet e2 with ⟨_, e⟩ | ⟨z2, e2'⟩
      · cases e
      · rcases getSet e3 with ⟨z, _⟩ | ⟨_, e3'⟩
        · exact z1 z
        · rcases getSet e4 with ⟨z, _⟩ | ⟨_, e4'⟩
          · exact z2 z
          · exact k.di a b p xs ys hn e1' e2' e3' e4'
/-- a slot forgotten -/
theorem Ok.forget (k : Ok T B S0 S H σ ρ) {x : Option V} : Ok T B S0 S H (σ.set i x) (ρ.set i .no) := by
  refine ⟨k.e, by rw [List.length_set, List.length_set, k.len], fun j s y e1 e2 => ?_, fun a b p xs ys hn e1 e2 e3 e4 => ?_⟩
  · rcases getSet e1 with ⟨z, e⟩ | ⟨z, e⟩
    · rw [e]; exact True.intro
    · rcases getSet e2 with ⟨z', _⟩ | ⟨_, e'⟩
      · exact absurd z' z
      · exact k.sl j s y e e'
  · rcases getSet e1 with ⟨_, e⟩ | ⟨z1, e1'⟩
    · cases e
    · rcases getSet e2 with ⟨_, e⟩ | ⟨z2, e2'⟩
      · cases e
      · rcases getSet e3 with ⟨z, _⟩ | ⟨_, e3'⟩
        · exact z1 z
        · rcases getSet e4 with ⟨z, _⟩ | ⟨_, e4'⟩
          · exact z2 z
          · exact k.di a b p xs ys hn e1' e2' e3' e4'
/-- a new list of one's own -/
theorem Ok.own (k : Ok T B S0 S H σ ρ) {p : Addr} {xs : List V} (a : Ext T S H S' H') (hp : H' p = some (.lst xs)) (hs : S' p = none) (hf : H p = none) (r : Reps S' ds xs) :
    Ok T B S0 S' H' (σ.set i (some (.ref p))) (ρ.set i (.ow ds)) := by
  have k' := k.ext a
  have new : ∀ (j : Nat) ys q, ρ[j]? = some (.ow ys) → σ[j]? = some (some (.ref q)) → q ≠ p := fun j ys q e1 e2 z => by
    obtain ⟨q', zs, e3, h1, _⟩ := k.ow e1
    rw [e2] at e3
    cases e3
    rw [z, hf] at h1
    cases h1
  have hb : B p = none := k.e.h.n p hf
  refine ⟨k'.e, by rw [List.length_set, List.length_set, k.len], fun j s x e1 e2 => ?_, fun a b q ys zs hn e1 e2 e3 e4 => ?_⟩
  · rcases getSet e1 with ⟨z, e⟩ | ⟨z, e⟩
    · rcases getSet e2 with ⟨_, e'⟩ | ⟨z', _⟩
      · rw [e, e']; exact ⟨p, xs, rfl, hp, hs, hb, r⟩
      · exact absurd z z'
    · rcases getSet e2 with ⟨z', _⟩ | ⟨_, e'⟩
      · exact absurd z' z
      · exact k'.sl j s x e e'
  · rcases getSet e1 with ⟨z1, e1'⟩ | ⟨z1, e1'⟩
    · rcases getSet e2 with ⟨z2, _⟩ | ⟨z2, e2'⟩
      · exact hn (z1.trans z2.symm)
      · rcases getSet e4 with ⟨z, _⟩ | ⟨_, e4'⟩
        · exact z2 z
        · rcases getSet e3 with ⟨_, e3'⟩ | ⟨z, _⟩
          · cases e3'
            exact new b zs p e2' e4' rfl
          · exact z z1
    · rcases getSet e3 with ⟨z, _⟩ | ⟨_, e3'⟩
      · exact z1 z
      · rcases getSet e2 with ⟨z2, _⟩ | ⟨z2, e2'⟩
        · rcases getSet e4 with ⟨_, e4'⟩ | ⟨z, _⟩
          · cases e4'
            exact new a ys p e1' e3' rfl
          · exact z z2
        · rcases getSet e4 with ⟨z, _⟩ | ⟨_, e4'⟩
          · exact z2 z
          · exact k.di a b q ys zs hn e1' e2' e3' e4'
/-- one's own list is written -/
theorem Ok.write (k : Ok T B S0 S H σ ρ) {p : Addr} {ys : List V} {es : List D} (e : ρ[i]? = some (.ow ds)) (e' : σ[i]? = some (some (.ref p))) (r : Reps S es ys) :
    Ok T B S0 S (upd H p (.lst ys)) σ (ρ.set i (.ow es)) := by
  obtain ⟨q, zs, e2, h1, h2, h3, _⟩ := k.ow e
  rw [e'] at e2
  cases e2
  have hi : i < ρ.length := (List.getElem?_eq_some_iff.mp e).1
  have upd' : ∀ b o, H b = some o → b ≠ p → upd H p (.lst ys) b = some o := fun b o z n => by rw [upd_ne n]; exact z
  refine ⟨⟨k.e.s, ⟨fun b o z n m => ?_, fun b z => ?_⟩, ⟨fun b o z => ?_, k.e.c.z⟩, k.e.f, tabs_upd k.e.t k.e.b h3 h1, k.e.b⟩, by rw [List.length_set, k.len], fun j s x e1 e2 => ?_, fun a b q us vs hn e1 e2 e3 e4 => ?_⟩
  · exact upd' b o (k.e.h.k b o z n m) (ne_of_none z h3)
  · by_cases y : b = p
    · rw [y]; exact h3
    · rw [upd_ne y] at z; exact k.e.h.n b z
  · exact upd' b o (k.e.c b o z) (ne_of_none z h2)
  · rcases getSet e1 with ⟨z, y⟩ | ⟨z, y⟩
    · rw [z, e'] at e2
      cases e2
      rw [y]
      exact ⟨p, ys, rfl, upd_same, h2, h3, r⟩
    · have w := k.sl j s x y e2
      cases s with
      | no => exact True.intro
      | pu d => exact w
      | ow us =>
        obtain ⟨q, zs, e3, h4, h5, h6, r'⟩ := w
        refine ⟨q, zs, e3, upd' q _ h4 fun w => ?_, h5, h6, r'⟩
        rw [e3, w] at e2
        exact k.di j i p us ds z y e e2 e'
  · rcases getSet e1 with ⟨z1, _⟩ | ⟨_, e1'⟩
    · rcases getSet e2 with ⟨z2, _⟩ | ⟨_, e2'⟩
      · exact hn (z1.trans z2.symm)
      · exact k.di a b q ds vs hn (z1 ▸ e) e2' e3 e4
    · rcases getSet e2 with ⟨z2, _⟩ | ⟨_, e2'⟩
      · exact k.di a b q us ds hn e1' (z2 ▸ e) e3 e4
      · exact k.di a b q us vs hn e1' e2' e3 e4
/-- one's own list is fixed for good -/
theorem Ok.frz (k : Ok T B S0 S H σ ρ) (e : ρ[i]? = some (.ow ds)) : ∃ S', Ok T B S0 S' H σ (ρ.set i (.pu (.lst ds))) := by
  obtain ⟨p, xs, e', h1, h2, h3, r⟩ := k.ow e
  refine ⟨upd S p (.lst xs), ⟨k.e.fix h1 h2 h3, by rw [List.length_set, k.len], fun j s x e1 e2 => ?_, fun a b q us vs hn e1 e2 e3 e4 => ?_⟩⟩
  · rcases getSet e1 with ⟨z, y⟩ | ⟨z, y⟩
    · rw [z, e'] at e2
      cases e2
      rw [y]
      exact ⟨_, rfl, p, xs, rfl, upd_same, Reps.mono (same_fix k.e.c h2) r⟩
    · have w := k.sl j s x y e2
      cases s with
      | no => exact True.intro
      | pu d =>
        obtain ⟨v, e3, r'⟩ := w
        exact ⟨v, e3, Rep.mono (same_fix k.e.c h2) r'⟩
      | ow us =>
        obtain ⟨q, zs, e3, h4, h5, h6, r'⟩ := w
        refine ⟨q, zs, e3, h4, ?_, h6, Reps.mono (same_fix k.e.c h2) r'⟩
        rw [upd_ne]
        · exact h5
        · intro w
          rw [e3, w] at e2
          exact k.di j i p us ds z y e e2 e'
  · rcases getSet e1 with ⟨_, z⟩ | ⟨_, e1'⟩
    · cases z
    · rcases getSet e2 with ⟨_, z⟩ | ⟨_, e2'⟩
      · cases z
      · exact k.di a b q us vs hn e1' e2' e3 e4
end
end DL

set_option Elab.async false
set_option linter.all false
set_option maxRecDepth 100000
set_option maxHeartbeats 2000000
namespace DL
open PySem PySem.Spec PyProof.Rows L2 LamX NdefX

/-! ### readings made weaker -/
section
variable {X : Cx}
theorem peI {e : Expr} {t t' : TE} (h : PE X e t) (w : ∀ σ H Q, t' σ H Q → t σ H Q) : PE X e t' := ⟨fun pins s σ H Q I q => h.run pins s σ H Q I (w σ H Q q)⟩
theorem ptI {e : Expr} {t t' : TT} (h : PT X e t) (w : ∀ σ H Q, t' σ H Q → t σ H Q) : PT X e t' := ⟨fun pins s σ H Q I q => h.run pins s σ H Q I (w σ H Q q)⟩
theorem pwI {e : Expr} {t t' : TT} (h : PW X e t) (w : ∀ σ H Q, t' σ H Q → t σ H Q) : PW X e t' := ⟨fun wh pins s σ H Q I q => h.run wh pins s σ H Q I (w σ H Q q)⟩
theorem paI {e : List Expr} {t t' : TA} (h : PA X e t) (w : ∀ σ H Q, t' σ H Q → t σ H Q) : PA X e t' := ⟨fun pos pins s σ H Q I q => h.run pos pins s σ H Q I (w σ H Q q)⟩
theorem poI {e : Option Expr} {t t' : TO} (h : PO X e t) (w : ∀ σ H Q, t' σ H Q → t σ H Q) : PO X e t' := ⟨fun pins s σ H Q I q => h.run pins s σ H Q I (w σ H Q q)⟩
theorem psI {e : Stmt} {t t' : TS} (h : PS X e t) (w : ∀ D σ H, t' D σ H → t D σ H) : PS X e t' := ⟨fun pins s σ H D I q => h.run pins s σ H D I (w D σ H q)⟩
theorem pssI {e : List Stmt} {t t' : TS} (h : PSs X e t) (w : ∀ D σ H, t' D σ H → t D σ H) : PSs X e t' := ⟨fun pins s σ H D I q => h.run pins s σ H D I (w D σ H q)⟩
theorem piI {tg e : Expr} {t t' : TI} (h : PI X tg e t) (w : ∀ σ H R, t' σ H R → t σ H R) : PI X tg e t' := ⟨fun pins s σ H R I q => h.run pins s σ H R I (w σ H R q)⟩
theorem pgI {e : Expr} {t t' : TG} (h : PG X e t) (w : ∀ v σ H Q, t' v σ H Q → t v σ H Q) : PG X e t' := ⟨fun pins s σ H v u Q I r q => h.run pins s σ H v u Q I r (w v σ H Q q)⟩
theorem pkI {e : List Keyword} {t t' : TA} (h : PK X e t) (w : ∀ σ H Q, t' σ H Q → t σ H Q) : PK X e t' := ⟨fun pos pins s σ H Q I q => h.run pos pins s σ H Q I (w σ H Q q)⟩
end

/-! ### the judgements by data -/
section
variable (T : Tx)
def tD (f : Env → Option D) : TE := fun σ H Q => ∃ ρ d B S0 S, f ρ = some d ∧ Ok T B S0 S H σ ρ ∧ ∀ v S' H', Ext T S H S' H' → Rep S' d v → Q v H'
def tL (f : Env → Option (List D)) : TE := fun σ H Q => ∃ ρ ds B S0 S, f ρ = some ds ∧ Ok T B S0 S H σ ρ ∧ ∀ p xs S' H', Ext T S H S' H' → H' p = some (.lst xs) → S' p = none → H p = none → Reps S' ds xs → Q (.ref p) H'
def tT (f : Env → Option Bool) : TT := fun σ H Q => ∃ ρ b B S0 S, f ρ = some b ∧ Ok T B S0 S H σ ρ ∧ ∀ S' H', Ext T S H S' H' → Q b H'
def tA (f : Env → Option (List D)) : TA := fun σ H Q => ∃ ρ ds B S0 S, f ρ = some ds ∧ Ok T B S0 S H σ ρ ∧ ∀ vs S' H', Ext T S H S' H' → Reps S' ds vs → Q vs H'
def tO (f : Env → Option (Option Int)) : TO := fun σ H Q => ∃ ρ o B S0 S, f ρ = some o ∧ Ok T B S0 S H σ ρ ∧ ∀ S' H', Ext T S H S' H' → Q o H'
end
abbrev SE (T : Tx) (X : Cx) (e : Expr) (f : Env → Option D) : Prop := PE X e (tD T f)
abbrev SL (T : Tx) (X : Cx) (e : Expr) (f : Env → Option (List D)) : Prop := PE X e (tL T f)
abbrev ST (T : Tx) (X : Cx) (e : Expr) (f : Env → Option Bool) : Prop := PT X e (tT T f)
abbrev SW (T : Tx) (X : Cx) (e : Expr) (f : Env → Option Bool) : Prop := PW X e (tT T f)
abbrev SA (T : Tx) (X : Cx) (e : List Expr) (f : Env → Option (List D)) : Prop := PA X e (tA T f)
abbrev SO (T : Tx) (X : Cx) (e : Option Expr) (f : Env → Option (Option Int)) : Prop := PO X e (tO T f)

/-- operators by data: two places, a call's list -/
def OD (T : Tx) (X : Cx) (f : Value → Value → Sem Value) (g : D → D → Option D) : Prop :=
  ∃ r : R2, OpR X f r ∧ ∀ (S H : Hp) (a b z : D) (x y : V) (Q : VK), Same S H → Tb T H → g a b = some z → Rep S a x → Rep S b y → (∀ v S' H', Ext T S H S' H' → Rep S' z v → Q v H') → r x y H Q
def CD (T : Tx) (X : Cx) (f : Value) (g : List D → Option D) : Prop :=
  ∃ r, CallR X f r ∧ ∀ (S H : Hp) (as : List D) (z : D) (xs : List V) (Q : VK), Same S H → Tb T H → g as = some z → Reps S as xs → (∀ v S' H', Ext T S H S' H' → Rep S' z v → Q v H') → r xs H Q
/-- .. a new list -/
def CL (T : Tx) (X : Cx) (f : Value) (g : List D → Option (List D)) : Prop :=
  ∃ r, CallR X f r ∧ ∀ (S H : Hp) (as : List D) (z : List D) (xs : List V) (Q : VK), Same S H → Tb T H → g as = some z → Reps S as xs →
    (∀ p ys S' H', Ext T S H S' H' → H' p = some (.lst ys) → S' p = none → H p = none → Reps S' z ys → Q (.ref p) H') → r xs H Q
def OL (T : Tx) (X : Cx) (f : Value → Value → Sem Value) (g : D → D → Option (List D)) : Prop :=
  ∃ r : R2, OpR X f r ∧ ∀ (S H : Hp) (a b : D) (z : List D) (x y : V) (Q : VK), Same S H → Tb T H → g a b = some z → Rep S a x → Rep S b y →
    (∀ p ys S' H', Ext T S H S' H' → H' p = some (.lst ys) → S' p = none → H p = none → Reps S' z ys → Q (.ref p) H') → r x y H Q

/-! ### combinators -/
def eVar (i : Nat) : Env → Option D := fun ρ => match ρ[i]? with
  | some (.pu d) => some d
  | _ => none
def eC (d : D) : Env → Option D := fun _ => some d
def eOp (g : D → D → Option D) (fa fb : Env → Option D) : Env → Option D := fun ρ => match fa ρ with
  | some a => match fb ρ with
    | some b => g a b
    | none => none
  | none => none
def eOpL (g : D → D → Option (List D)) (fa fb : Env → Option D) : Env → Option (List D) := fun ρ => match fa ρ with
  | some a => match fb ρ with
    | some b => g a b
    | none => none
  | none => none
def eUn (g : D → Option D) (fa : Env → Option D) : Env → Option D := fun ρ => match fa ρ with
  | some a => g a
  | none => none
def eNot (fa : Env → Option D) : Env → Option D := fun ρ => match fa ρ with
  | some (.bl b) => some (.bl (!b))
  | _ => none
def eAnd (fa fb : Env → Option D) : Env → Option D := fun ρ => match fa ρ with
  | some (.bl true) => fb ρ
  | some (.bl false) => some (.bl false)
  | _ => none
def eOr (fa fb : Env → Option D) : Env → Option D := fun ρ => match fa ρ with
  | some (.bl true) => some (.bl true)
  | some (.bl false) => fb ρ
  | _ => none
def bOf (fa : Env → Option D) : Env → Option Bool := fun ρ => match fa ρ with
  | some (.bl b) => some b
  | _ => none
def bNot (fa : Env → Option Bool) : Env → Option Bool := fun ρ => match fa ρ with
  | some b => some (!b)
  | none => none
def bAnd (fa fb : Env → Option Bool) : Env → Option Bool := fun ρ => match fa ρ with
  | some true => fb ρ
  | some false => some false
  | none => none
def bOr (fa fb : Env → Option Bool) : Env → Option Bool := fun ρ => match fa ρ with
  | some true => some true
  | some false => fb ρ
  | none => none
def aNil : Env → Option (List D) := fun _ => some []
def aCons (fa : Env → Option D) (fr : Env → Option (List D)) : Env → Option (List D) := fun ρ => match fa ρ with
  | some a => match fr ρ with
    | some r => some (a :: r)
    | none => none
  | none => none
def eTup (fa : Env → Option (List D)) : Env → Option D := fun ρ => match fa ρ with
  | some l => some (.tup l)
  | none => none
/-- a new list taken as data -/
def eFz (fa : Env → Option (List D)) : Env → Option D := fun ρ => match fa ρ with
  | some l => some (.lst l)
  | none => none
def eCall (F : List D → Option D) (fa : Env → Option (List D)) : Env → Option D := fun ρ => match fa ρ with
  | some l => F l
  | none => none
def eCallL (F : List D → Option (List D)) (fa : Env → Option (List D)) : Env → Option (List D) := fun ρ => match fa ρ with
  | some l => F l
  | none => none
def eIf (c : Env → Option Bool) (fa fb : Env → Option D) : Env → Option D := fun ρ => match c ρ with
  | some true => fa ρ
  | some false => fb ρ
  | none => none

section
variable {T : Tx} {X : Cx} {a b : Expr} {fa fb : Env → Option D} {pos : Pos}
theorem se_var {i : Nat} {x : Str} (hN : X.N[i]? = some x := by rfl) (hv : Vis X.env.scope x := by first | exact Or.inl rfl | exact Or.inr (Or.inl rfl) | exact Or.inr (Or.inr rfl)) (hd : (x == ("__debug__" : Str)) = false := by decide)
    (hcd : (x == ("__classdict__" : Str)) = false := by decide) : SE T X (.Name x pos) (eVar i) := peI (pe_var hN hv hd hcd) fun σ H Q ⟨ρ, d, B, S0, S, e, k, q⟩ => by
  unfold eVar at e
  split at e
  · rename_i d' h
    obtain ⟨v, e1, r⟩ := k.pu h
    cases e
    exact ⟨v, e1, q v S H k.rf r⟩
  · cases e
theorem se_int {i : Int} {j : Nat} : SE T X (.Constant (.int i) j pos) (eC (.int i)) := peI pe_int fun σ H Q ⟨ρ, d, B, S0, S, e, k, q⟩ => by
  cases e
  exact q _ S H k.rf rfl
theorem se_bl {i : Bool} {j : Nat} : SE T X (.Constant (.bool i) j pos) (eC (.bl i)) := peI pe_bl fun σ H Q ⟨ρ, d, B, S0, S, e, k, q⟩ => by
  cases e
  exact q _ S H k.rf rfl
theorem se_non {j : Nat} : SE T X (.Constant .none j pos) (eC .non) := peI pe_non fun σ H Q ⟨ρ, d, B, S0, S, e, k, q⟩ => by
  cases e
  exact q _ S H k.rf rfl
theorem se_str {x : Str} {j : Nat} : SE T X (.Constant (.str x) j pos) (eC (.str x)) := peI pe_str fun σ H Q ⟨ρ, d, B, S0, S, e, k, q⟩ => by
  cases e
  exact q _ S H k.rf rfl
/-- a module's int -/
theorem se_glob {x : Str} {i : Int} {t : Tok} (hg : Gl X x) (hm : X.mg x = some (.int i t)) (hd : (x == ("__debug__" : Str)) = false := by decide) : SE T X (.Name x pos) (eC (.int i)) := peI (pe_glob (v := .int i) hg hm ⟨t, rfl⟩ hd) fun σ H Q ⟨ρ, d, B, S0, S, e, k, q⟩ => by
  cases e
  exact q _ S H k.rf rfl
theorem two {σ : L2.St} {H : Hp} {Q : VK} {r : R2} {g : D → D → Option D} (o : ∀ (S H : Hp) (a b z : D) (x y : V) (Q : VK), Same S H → Tb T H → g a b = some z → Rep S a x → Rep S b y → (∀ v S' H', Ext T S H S' H' → Rep S' z v → Q v H') → r x y H Q)
    (h : tD T (eOp g fa fb) σ H Q) : tOp r (tD T fa) (tD T fb) σ H Q := by
  obtain ⟨ρ, z, B, S0, S, e, k, q⟩ := h
  unfold eOp at e
  split at e
  · rename_i x hx
    split at e
    · rename_i y hy
      refine ⟨ρ, x, B, S0, S, hx, k, fun v S1 H1 e1 r1 => ⟨ρ, y, B, S0, S1, hy, k.ext e1, fun u S2 H2 e2 r2 => ?_⟩⟩
      exact o S2 H2 x y z v u Q e2.c e2.t e (Rep.mono e2.s r1) r2 fun w S3 H3 e3 r3 => q w S3 H3 ((e1.trans e2).trans e3) r3
    · cases e
  · cases e
theorem twoL {σ : L2.St} {H : Hp} {Q : VK} {r : R2} {g : D → D → Option (List D)} (o : ∀ (S H : Hp) (a b : D) (z : List D) (x y : V) (Q : VK), Same S H → Tb T H → g a b = some z → Rep S a x → Rep S b y →
      (∀ p ys S' H', Ext T S H S' H' → H' p = some (.lst ys) → S' p = none → H p = none → Reps S' z ys → Q (.ref p) H') → r x y H Q)
    (h : tL T (eOpL g fa fb) σ H Q) : tOp r (tD T fa) (tD T fb) σ H Q := by
  obtain ⟨ρ, z, B, S0, S, e, k, q⟩ := h
  unfold eOpL at e
  split at e
  · rename_i x hx
    split at e
    · rename_i y hy
      refine ⟨ρ, x, B, S0, S, hx, k, fun v S1 H1 e1 r1 => ⟨ρ, y, B, S0, S1, hy, k.ext e1, fun u S2 H2 e2 r2 => ?_⟩⟩
      exact o S2 H2 x y z v u Q e2.c e2.t e (Rep.mono e2.s r1) r2 fun p ys S3 H3 e3 h1 h2 h3 r3 => q p ys S3 H3 ((e1.trans e2).trans e3) h1 h2 ((e1.trans e2).h.n p h3) r3
    · cases e
  · cases e
theorem se_op {op : Operator} {g : D → D → Option D} (o : OD T X (binaryOp op) g) (ha : SE T X a fa) (hb : SE T X b fb) : SE T X (.BinOp a op b pos) (eOp g fa fb) := by
  obtain ⟨r, hr, o⟩ := o
  exact peI (pe_op hr ha hb) fun σ H Q h => two o h
theorem sl_op {op : Operator} {g : D → D → Option (List D)} (o : OL T X (binaryOp op) g) (ha : SE T X a fa) (hb : SE T X b fb) : SL T X (.BinOp a op b pos) (eOpL g fa fb) := by
  obtain ⟨r, hr, o⟩ := o
  exact peI (pe_op hr ha hb) fun σ H Q h => twoL o h
theorem se_cmp {op : CmpOp} {g : D → D → Option D} (o : OD T X (compareOp op) g) (ha : SE T X a fa) (hb : SE T X b fb) (hm : behindInMarks op b = false := by first | exact nomark _ | rfl) : SE T X (.Compare a [op] [b] pos) (eOp g fa fb) := by
  obtain ⟨r, hr, o⟩ := o
  exact peI (pe_cmpR hr ha hb hm) fun σ H Q h => two o h
theorem test_of {σ : L2.St} {H : Hp} {f : Env → Option D} {t : TE} {Q : Bool → Hp → Prop} (w : ∀ Q, tD T f σ H Q → t σ H Q) (h : tT T (bOf f) σ H Q) : tTest t σ H Q := by
  obtain ⟨ρ, z, B, S0, S, e, k, q⟩ := h
  refine w _ ?_
  unfold bOf at e
  split at e
  · rename_i c hc
    cases e
    exact ⟨ρ, _, B, S0, S, hc, k, fun v S' H' e1 r => ⟨_, r, q S' H' e1⟩⟩
  · cases e
theorem st_cmp {op : CmpOp} {g : D → D → Option D} (o : OD T X (compareOp op) g) (ha : SE T X a fa) (hb : SE T X b fb) (hm : behindInMarks op b = false := by first | exact nomark _ | rfl) : ST T X (.Compare a [op] [b] pos) (bOf (eOp g fa fb)) := by
  obtain ⟨r, hr, o⟩ := o
  exact ptI (pt_cmpR hr ha hb hm) fun σ H Q h => test_of (fun Q h => two o h) h
/-- a value that is a bool, as a test -/
theorem st_val (ha : SE T X a fa) (he : ∀ whole, isTrue a X.env whole = (do let v ← whole; standAt a.pos; holding [v] (truthy v)) := by intro _; rfl) : ST T X a (bOf fa) :=
  ptI (pt_val ha he) fun σ H Q h => test_of (t := tD T fa) (fun _ h => h) h
def eChain (g g' : D → D → Option D) (fa fb fc : Env → Option D) : Env → Option D := fun ρ => match fa ρ with
  | some x => match fb ρ with
    | some y => match g x y with
      | some (.bl true) => match fc ρ with
        | some z => g' y z
        | none => none
      | some (.bl false) => some (.bl false)
      | _ => none
    | none => none
  | none => none
theorem chain_of {σ : L2.St} {H : Hp} {Q : VK} {r r' : R2} {g g' : D → D → Option D} {fc : Env → Option D}
    (o : ∀ (S H : Hp) (a b z : D) (x y : V) (Q : VK), Same S H → Tb T H → g a b = some z → Rep S a x → Rep S b y → (∀ v S' H', Ext T S H S' H' → Rep S' z v → Q v H') → r x y H Q)
    (o' : ∀ (S H : Hp) (a b z : D) (x y : V) (Q : VK), Same S H → Tb T H → g' a b = some z → Rep S a x → Rep S b y → (∀ v S' H', Ext T S H S' H' → Rep S' z v → Q v H') → r' x y H Q)
    (h : tD T (eChain g g' fa fb fc) σ H Q) : tChain r r' (tD T fa) (tD T fb) (tD T fc) σ H Q := by
  obtain ⟨ρ, z, B, S0, S, e, k, q⟩ := h
  unfold eChain at e
  split at e
  · rename_i x hx
    split at e
    · rename_i y hy
      refine ⟨ρ, x, B, S0, S, hx, k, fun v S1 H1 e1 r1 => ⟨ρ, y, B, S0, S1, hy, k.ext e1, fun u S2 H2 e2 r2 => ?_⟩⟩
      split at e
      · rename_i hg
        refine o S2 H2 x y _ v u _ e2.c e2.t hg (Rep.mono e2.s r1) r2 fun w S3 H3 e3 r3 => ⟨true, r3, ?_⟩
        rw [if_pos rfl]
        split at e
        · rename_i z' hz
          exact ⟨ρ, z', B, S0, S3, hz, k.ext ((e1.trans e2).trans e3), fun w' S4 H4 e4 r4 => o' S4 H4 y z' z u w' Q e4.c e4.t e (Rep.mono (e3.trans e4).s r2) r4 fun w5 S5 H5 e5 r5 => q w5 S5 H5 (((e1.trans e2).trans e3).trans (e4.trans e5)) r5⟩
        · cases e
      · rename_i hg
        refine o S2 H2 x y _ v u _ e2.c e2.t hg (Rep.mono e2.s r1) r2 fun w S3 H3 e3 r3 => ⟨false, r3, ?_⟩
        rw [if_neg Bool.false_ne_true]
        cases e
        exact q _ S3 H3 ((e1.trans e2).trans e3) rfl
      · cases e
    · cases e
  · cases e
theorem st_chain {op op' : CmpOp} {g g' : D → D → Option D} {c : Expr} {fc : Env → Option D} (o : OD T X (compareOp op) g) (o' : OD T X (compareOp op') g') (ha : SE T X a fa) (hb : SE T X b fb) (hc : SE T X c fc)
    (hm : lastMarks [op, op'] [b, c] = false := by with_unfolding_all rfl) : ST T X (.Compare a [op, op'] [b, c] pos) (bOf (eChain g g' fa fb fc)) := by
  obtain ⟨r, hr, o⟩ := o
  obtain ⟨r', hr', o'⟩ := o'
  exact ptI (pt_chain hr hr' ha hb hc hm) fun σ H Q h => test_of (fun Q h => chain_of o o' h) h
def gNeg : D → Option D := fun x => match x with
  | .int i => some (.int (-i))
  | _ => none
theorem se_neg (ha : SE T X a fa) : SE T X (.UnaryOp .USub a pos) (eUn gNeg fa) := peI (pe_un un_neg ha) fun σ H Q ⟨ρ, z, B, S0, S, e, k, q⟩ => by
  unfold eUn at e
  split at e
  · rename_i x hx
    unfold gNeg at e
    split at e
    · rename_i i
      cases e
      exact ⟨ρ, _, B, S0, S, hx, k, fun v S1 H1 e1 r1 => ⟨i, r1, q _ S1 H1 e1 rfl⟩⟩
    · cases e
  · cases e
theorem se_not (ha : SE T X a fa) : SE T X (.UnaryOp .Not a pos) (eNot fa) := peI (pe_not ha) fun σ H Q ⟨ρ, z, B, S0, S, e, k, q⟩ => by
  unfold eNot at e
  split at e
  · rename_i c hc
    cases e
    exact ⟨ρ, _, B, S0, S, hc, k, fun v S1 H1 e1 r1 => ⟨c, r1, q _ S1 H1 e1 rfl⟩⟩
  · cases e
theorem se_one {op : BoolOp} (ha : SE T X a fa) : SE T X (.BoolOp op [a] pos) fa := pe_one ha
theorem se_and {rest : List Expr} (ha : SE T X a fa) (hb : SE T X (.BoolOp .And (b :: rest) pos) fb) : SE T X (.BoolOp .And (a :: b :: rest) pos) (eAnd fa fb) := peI (pe_and ha hb) fun σ H Q ⟨ρ, z, B, S0, S, e, k, q⟩ => by
  unfold eAnd at e
  split at e
  · rename_i hc
    refine ⟨ρ, _, B, S0, S, hc, k, fun v S1 H1 e1 r1 => ⟨true, r1, ?_⟩⟩
    rw [if_pos rfl]
    exact ⟨ρ, z, B, S0, S1, e, k.ext e1, fun w S2 H2 e2 r2 => q w S2 H2 (e1.trans e2) r2⟩
  · rename_i hc
    refine ⟨ρ, _, B, S0, S, hc, k, fun v S1 H1 e1 r1 => ⟨false, r1, ?_⟩⟩
    rw [if_neg Bool.false_ne_true]
    cases e
    exact q _ S1 H1 e1 rfl
  · cases e
theorem se_or {rest : List Expr} (ha : SE T X a fa) (hb : SE T X (.BoolOp .Or (b :: rest) pos) fb) : SE T X (.BoolOp .Or (a :: b :: rest) pos) (eOr fa fb) := peI (pe_or ha hb) fun σ H Q ⟨ρ, z, B, S0, S, e, k, q⟩ => by
  unfold eOr at e
  split at e
  · rename_i hc
    refine ⟨ρ, _, B, S0, S, hc, k, fun v S1 H1 e1 r1 => ⟨true, r1, ?_⟩⟩
    rw [if_pos rfl]
    cases e
    exact q _ S1 H1 e1 rfl
  · rename_i hc
    refine ⟨ρ, _, B, S0, S, hc, k, fun v S1 H1 e1 r1 => ⟨false, r1, ?_⟩⟩
    rw [if_neg Bool.false_ne_true]
    exact ⟨ρ, z, B, S0, S1, e, k.ext e1, fun w S2 H2 e2 r2 => q w S2 H2 (e1.trans e2) r2⟩
  · cases e
/-! tests -/
variable {ca cb : Env → Option Bool}
theorem st_not (ha : ST T X a ca) : ST T X (.UnaryOp .Not a pos) (bNot ca) := ptI (pt_not ha) fun σ H Q ⟨ρ, z, B, S0, S, e, k, q⟩ => by
  unfold bNot at e
  split at e
  · rename_i c hc
    cases e
    exact ⟨ρ, _, B, S0, S, hc, k, fun S1 H1 e1 => q S1 H1 e1⟩
  · cases e
theorem sw_and1 (ha : ST T X a ca) : SW T X (.BoolOp .And [a] pos) ca := pw_and1 ha
theorem sw_or1 (ha : ST T X a ca) : SW T X (.BoolOp .Or [a] pos) ca := pw_or1 ha
theorem sw_and {rest : List Expr} (ha : ST T X a ca) (hb : SW T X (.BoolOp .And (b :: rest) pos) cb) : SW T X (.BoolOp .And (a :: b :: rest) pos) (bAnd ca cb) := pwI (pw_and ha hb) fun σ H Q ⟨ρ, z, B, S0, S, e, k, q⟩ => by
  unfold bAnd at e
  split at e
  · rename_i hc
    refine ⟨ρ, _, B, S0, S, hc, k, fun S1 H1 e1 => ?_⟩
    dsimp only
    rw [if_pos rfl]
    exact ⟨ρ, z, B, S0, S1, e, k.ext e1, fun S2 H2 e2 => q S2 H2 (e1.trans e2)⟩
  · rename_i hc
    refine ⟨ρ, _, B, S0, S, hc, k, fun S1 H1 e1 => ?_⟩
    dsimp only
    rw [if_neg Bool.false_ne_true]
    cases e
    exact q S1 H1 e1
  · cases e
theorem sw_or {rest : List Expr} (ha : ST T X a ca) (hb : SW T X (.BoolOp .Or (b :: rest) pos) cb) : SW T X (.BoolOp .Or (a :: b :: rest) pos) (bOr ca cb) := pwI (pw_or ha hb) fun σ H Q ⟨ρ, z, B, S0, S, e, k, q⟩ => by
  unfold bOr at e
  split at e
  · rename_i hc
    refine ⟨ρ, _, B, S0, S, hc, k, fun S1 H1 e1 => ?_⟩
    dsimp only
    rw [if_pos rfl]
    cases e
    exact q S1 H1 e1
  · rename_i hc
    refine ⟨ρ, _, B, S0, S, hc, k, fun S1 H1 e1 => ?_⟩
    dsimp only
    rw [if_neg Bool.false_ne_true]
    exact ⟨ρ, z, B, S0, S1, e, k.ext e1, fun S2 H2 e2 => q S2 H2 (e1.trans e2)⟩
  · cases e
theorem st_pw (h : SW T X a ca) : ST T X a ca := h.pt
/-- the truth of a tuple -/
theorem st_tup (ha : SE T X a fa) (he : ∀ whole, isTrue a X.env whole = (do let v ← whole; standAt a.pos; holding [v] (truthy v)) := by intro _; rfl) :
    ST T X a (fun ρ => match fa ρ with | some (.tup l) => some (!l.isEmpty) | _ => none) := ptI (pt_truth ha he) fun σ H Q ⟨ρ, z, B, S0, S, e, k, q⟩ => by
  dsimp only at e
  split at e
  · rename_i l hl
    cases e
    refine ⟨ρ, _, B, S0, S, hl, k, fun v S1 H1 e1 r1 => ?_⟩
    obtain ⟨p, xs, ev, hp, rs⟩ := r1
    rw [ev]
    refine ⟨!xs.isEmpty, .inr (.inl ⟨xs, .inl (.inl (e1.c p _ hp)), rfl⟩), ?_⟩
    have e2 : xs.isEmpty = l.isEmpty := by
      rw [Bool.eq_iff_iff, List.isEmpty_iff_length_eq_zero, List.isEmpty_iff_length_eq_zero, rs.len]
    rw [e2]
    exact q S1 H1 e1
  · cases e
/-! arguments, displays -/
variable {es : List Expr} {fr : Env → Option (List D)}
theorem sa_nil : SA T X [] aNil := paI pa_nil fun σ H Q ⟨ρ, z, B, S0, S, e, k, q⟩ => by
  cases e
  exact q [] S H k.rf rfl
theorem sa_cons (ha : SE T X a fa) (hr : SA T X es fr) (hs : starEach (a :: es) X.env = (false, eval a X.env) :: starEach es X.env := by rfl) : SA T X (a :: es) (aCons fa fr) := paI (pa_cons ha hr hs) fun σ H Q ⟨ρ, z, B, S0, S, e, k, q⟩ => by
  unfold aCons at e
  split at e
  · rename_i x hx
    split at e
    · rename_i r hr
      cases e
      exact ⟨ρ, x, B, S0, S, hx, k, fun v S1 H1 e1 r1 => ⟨ρ, r, B, S0, S1, hr, k.ext e1, fun vs S2 H2 e2 r2 => q (v :: vs) S2 H2 (e1.trans e2) (.cons (Rep.mono e2.s r1) r2)⟩⟩
    · cases e
  · cases e
def szOk (l : List D) : Bool := Nat.ble l.length 4000
theorem szOk_le {l : List D} (h : szOk l = true) : l.length ≤ sizeLine := by
  have h1 : l.length ≤ 4000 := Nat.le_of_ble_eq_true h
  have : sizeLine = 16777216 := sizeLine_eq
  omega
theorem szOk_lt {l : List D} (h : szOk l = true) : l.length < sizeLine := by
  have h1 : l.length ≤ 4000 := Nat.le_of_ble_eq_true h
  have : sizeLine = 16777216 := sizeLine_eq
  omega
def gd {α : Type} (b : Bool) (x : Option α) : Option α := match b with
  | true => x
  | false => none
theorem gd_some {α : Type} {b : Bool} {x : Option α} {y : α} (h : gd b x = some y) : b = true ∧ x = some y := by
  cases b with
  | true => exact ⟨rfl, h⟩
  | false => cases h
def aSz (fr : Env → Option (List D)) : Env → Option (List D) := fun ρ => match fr ρ with
  | some l => gd (szOk l) (some l)
  | none => none
theorem se_tup {x1 : Nat} (h : SA T X es fr) : SE T X (.Tuple es x1 pos) (eTup (aSz fr)) := peI (pe_tup h) fun σ H Q ⟨ρ, z, B, S0, S, e, k, q⟩ => by
  unfold eTup at e
  split at e
  · rename_i l hl
    unfold aSz at hl
    split at hl
    · rename_i l' hl'
      obtain ⟨h1, h2⟩ := gd_some hl
      cases h2
      cases e
      refine ⟨ρ, l, B, S0, S, hl', k, fun vs S1 H1 e1 r1 => ⟨by rw [r1.len]; exact szOk_le h1, fun p hp => ?_⟩⟩
      have e2 := Ext.new (o := .tup vs) e1.c e1.t hp
      exact q _ _ _ (e1.trans e2) ⟨p, vs, rfl, upd_same, Reps.mono e2.s r1⟩
    · cases hl
  · cases e
theorem fresh_of {S H : Hp} {p : Addr} (c : Same S H) (h : H p = none) : S p = none := by
  cases e : S p with
  | none => rfl
  | some u => rw [c p u e] at h; cases h
theorem sl_lst (h : SA T X es fr) : SL T X (.List es pos) (aSz fr) := peI (pe_lst h) fun σ H Q ⟨ρ, z, B, S0, S, e, k, q⟩ => by
  unfold aSz at e
  split at e
  · rename_i l' hl'
    obtain ⟨h1, h2⟩ := gd_some e
    cases h2
    refine ⟨ρ, _, B, S0, S, hl', k, fun vs S1 H1 e1 r1 => ⟨by rw [r1.len]; exact szOk_le h1, fun p hp => ?_⟩⟩
    have e2 := Ext.newO (o := .lst vs) e1.c e1.t hp
    exact q p vs S1 _ (e1.trans e2) upd_same (fresh_of e1.c hp) (e1.h.n p hp) r1
  · cases e
/-- a new list as data -/
theorem se_fz {f : Env → Option (List D)} (h : SL T X a f) : SE T X a (eFz f) := peI h fun σ H Q ⟨ρ, z, B, S0, S, e, k, q⟩ => by
  unfold eFz at e
  split at e
  · rename_i l hl
    cases e
    refine ⟨ρ, l, B, S0, S, hl, k, fun p xs S' H' e1 h1 h2 h3 r => ?_⟩
    exact q _ _ _ (e1.fix h1 h2 h3) ⟨p, xs, rfl, upd_same, Reps.mono (same_fix e1.c h2) r⟩
  · cases e
/-! calls of built-ins -/
theorem one_call {σ : L2.St} {H : Hp} {Q : VK} {r : List V → Hp → VK → Prop} {g : List D → Option D} (o : ∀ (S H : Hp) (as : List D) (z : D) (xs : List V) (Q : VK), Same S H → Tb T H → g as = some z → Reps S as xs → (∀ v S' H', Ext T S H S' H' → Rep S' z v → Q v H') → r xs H Q)
    (h : tD T (eCall g fr) σ H Q) : tCB r (tA T fr) σ H Q := by
  obtain ⟨ρ, z, B, S0, S, e, k, q⟩ := h
  unfold eCall at e
  split at e
  · rename_i l hl
    exact ⟨ρ, l, B, S0, S, hl, k, fun vs S1 H1 e1 r1 => o S1 H1 l z vs Q e1.c e1.t e r1 fun v S2 H2 e2 r2 => q v S2 H2 (e1.trans e2) r2⟩
  · cases e
theorem one_callL {σ : L2.St} {H : Hp} {Q : VK} {r : List V → Hp → VK → Prop} {g : List D → Option (List D)} (o : ∀ (S H : Hp) (as : List D) (z : List D) (xs : List V) (Q : VK), Same S H → Tb T H → g as = some z → Reps S as xs →
      (∀ p ys S' H', Ext T S H S' H' → H' p = some (.lst ys) → S' p = none → H p = none → Reps S' z ys → Q (.ref p) H') → r xs H Q)
    (h : tL T (eCallL g fr) σ H Q) : tCB r (tA T fr) σ H Q := by
  obtain ⟨ρ, z, B, S0, S, e, k, q⟩ := h
  unfold eCallL at e
  split at e
  · rename_i l hl
    exact ⟨ρ, l, B, S0, S, hl, k, fun vs S1 H1 e1 r1 => o S1 H1 l z vs Q e1.c e1.t e r1 fun p ys S2 H2 e2 h1 h2 h3 r2 => q p ys S2 H2 (e1.trans e2) h1 h2 (e1.h.n p h3) r2⟩
  · cases e
variable {x : Str} {p : Pos} {id Ty : String}
theorem se_callB {g : List D → Option D} (c : CD T X (.builtin id) g) (hg : Gl X x) (hm : X.mg x = none) (hv : bootBuiltins x = some (.builtin id)) (ha : SA T X (a :: es) fr) (hn : x ≠ "__name__" := by decide) (hdb : (x == ("__debug__" : Str)) = false := by decide)
    (he : starEach (a :: es) X.env = (false, eval a X.env) :: starEach es X.env := by rfl) (hpl : (backTo pos (starEach es X.env)).any (·.1) = false := by rfl) : SE T X (.Call (.Name x p) (a :: es) [] pos) (eCall g fr) := by
  obtain ⟨r, hr, o⟩ := c
  exact peI (pe_callB hr hg hm hv ha hn hdb he hpl) fun σ H Q h => one_call o h
theorem se_callTy {g : List D → Option D} (c : CD T X (.type Ty) g) (hg : Gl X x) (hm : X.mg x = none) (hv : bootBuiltins x = some (.type Ty)) (ha : SA T X (a :: es) fr) (hn : x ≠ "__name__" := by decide) (hdb : (x == ("__debug__" : Str)) = false := by decide)
    (he : starEach (a :: es) X.env = (false, eval a X.env) :: starEach es X.env := by rfl) (hpl : (backTo pos (starEach es X.env)).any (·.1) = false := by rfl) : SE T X (.Call (.Name x p) (a :: es) [] pos) (eCall g fr) := by
  obtain ⟨r, hr, o⟩ := c
  exact peI (pe_callTy hr hg hm hv ha hn hdb he hpl) fun σ H Q h => one_call o h
theorem sl_callB {g : List D → Option (List D)} (c : CL T X (.builtin id) g) (hg : Gl X x) (hm : X.mg x = none) (hv : bootBuiltins x = some (.builtin id)) (ha : SA T X (a :: es) fr) (hn : x ≠ "__name__" := by decide) (hdb : (x == ("__debug__" : Str)) = false := by decide)
    (he : starEach (a :: es) X.env = (false, eval a X.env) :: starEach es X.env := by rfl) (hpl : (backTo pos (starEach es X.env)).any (·.1) = false := by rfl) : SL T X (.Call (.Name x p) (a :: es) [] pos) (eCallL g fr) := by
  obtain ⟨r, hr, o⟩ := c
  exact peI (pe_callB hr hg hm hv ha hn hdb he hpl) fun σ H Q h => one_callL o h
theorem sl_callTy {g : List D → Option (List D)} (c : CL T X (.type Ty) g) (hg : Gl X x) (hm : X.mg x = none) (hv : bootBuiltins x = some (.type Ty)) (ha : SA T X (a :: es) fr) (hn : x ≠ "__name__" := by decide) (hdb : (x == ("__debug__" : Str)) = false := by decide)
    (he : starEach (a :: es) X.env = (false, eval a X.env) :: starEach es X.env := by rfl) (hpl : (backTo pos (starEach es X.env)).any (·.1) = false := by rfl) : SL T X (.Call (.Name x p) (a :: es) [] pos) (eCallL g fr) := by
  obtain ⟨r, hr, o⟩ := c
  exact peI (pe_callTy hr hg hm hv ha hn hdb he hpl) fun σ H Q h => one_callL o h
/-- a module's name for a built-in -/
theorem se_callM {g : List D → Option D} (c : CD T X (.builtin id) g) (hg : Gl X x) (hm : X.mg x = some (.builtin id)) (ha : SA T X (a :: es) fr) (hdb : (x == ("__debug__" : Str)) = false := by decide)
    (he : starEach (a :: es) X.env = (false, eval a X.env) :: starEach es X.env := by rfl) (hpl : (backTo pos (starEach es X.env)).any (·.1) = false := by rfl) : SE T X (.Call (.Name x p) (a :: es) [] pos) (eCall g fr) := by
  obtain ⟨r, hr, o⟩ := c
  exact peI (pe_callBfun hr hg hm ha hdb he hpl) fun σ H Q h => one_call o h
/-! subscripts -/
def IxD (T : Tx) (X : Cx) (g : D → D → Option D) : Prop :=
  ∃ r : R2, IxR X r ∧ ∀ (S H : Hp) (a b z : D) (x y : V) (Q : VK), Same S H → Tb T H → g a b = some z → Rep S a x → Rep S b y → (∀ v S' H', Ext T S H S' H' → Rep S' z v → Q v H') → r x y H Q
theorem se_ix {g : D → D → Option D} (o : IxD T X g) (ha : SE T X a fa) (hb : SE T X b fb) (hs : PlainIx b := by exact fun _ _ => rfl) : SE T X (.Subscript a b pos) (eOp g fa fb) := by
  obtain ⟨r, hr, o⟩ := o
  exact peI (pe_ix hr ha hb hs) fun σ H Q h => two o h
end
end DL

set_option Elab.async false
set_option linter.all false
set_option maxRecDepth 100000
set_option maxHeartbeats 2000000
namespace DL
open PySem PySem.Spec PyProof.Rows L2 LamX NdefX

/-! ### operators by data -/
def gAdd : D → D → Option D
  | .int i, .int j => some (.int (i + j))
  | .tup a, .tup b => gd (szOk (a ++ b)) (some (.tup (a ++ b)))
  | _, _ => none
def gSub : D → D → Option D
  | .int i, .int j => some (.int (i - j))
  | _, _ => none
def gMul : D → D → Option D
  | .int i, .int j => gd (decide (-(2 ^ 64) < j) && decide (j < 2 ^ 64)) (some (.int (i * j)))
  | _, _ => none
def gDiv : D → D → Option D
  | .int i, .int j => gd (decide (0 < j) && decide (j < 1073741824)) (some (.int (i / j)))
  | _, _ => none
def gMod : D → D → Option D
  | .int i, .int j => gd (decide (0 < j)) (some (.int (i % j)))
  | _, _ => none
def gI (p : Int → Int → Bool) : D → D → Option D
  | .int i, .int j => some (.bl (p i j))
  | _, _ => none
def strB (a b : Str) : Bool := a.cps.toList == b.cps.toList
theorem strB_eq (a b : Str) : decide (V.str a = V.str b) = strB a b := by
  rw [Bool.eq_iff_iff, decide_eq_true_iff]
  unfold strB
  rw [beq_iff_eq]
  constructor
  · intro h
    rw [V.str.inj h]
  · intro h
    obtain ⟨⟨x⟩⟩ := a
    obtain ⟨⟨y⟩⟩ := b
    have h : x = y := h
    rw [h]
def gEq : D → D → Option D
  | .int i, .int j => some (.bl (decide (i = j)))
  | .bl i, .bl j => some (.bl (i == j))
  | .str i, .str j => some (.bl (strB i j))
  | _, _ => none
def gNe : D → D → Option D
  | .int i, .int j => some (.bl (!decide (i = j)))
  | .bl i, .bl j => some (.bl (!(i == j)))
  | .str i, .str j => some (.bl (!strB i j))
  | _, _ => none
def isN : D → Bool
  | .non => true
  | _ => false
def gIsN : D → D → Option D
  | x, .non => some (.bl (isN x))
  | _, _ => none
def gNotN : D → D → Option D
  | x, .non => some (.bl (!isN x))
  | _, _ => none
def memI (i : Int) : List D → Option Bool
  | [] => some false
  | .int j :: r => match memI i r with
    | some b => some (decide (j = i) || b)
    | none => none
  | _ => none
def gIn : D → D → Option D
  | .int i, .lst l => match memI i l with
    | some b => some (.bl b)
    | none => none
  | _, _ => none

section
variable {T : Tx} {X : Cx}
theorem odI0 {f : Value → Value → Sem Value} {g : Int → Int → Int} (h : OpR X f (rI0 fun i j => .int (g i j))) {k : D → D → Option D} (hk : ∀ a b z, k a b = some z → ∃ i j, a = .int i ∧ b = .int j ∧ z = .int (g i j)) : OD T X f k := by
  refine ⟨_, h, fun S H a b z x y Q c t e ra rb q => ?_⟩
  obtain ⟨i, j, rfl, rfl, rfl⟩ := hk a b z e
  exact ⟨i, j, ra, rb, q _ S H (.refl c t) rfl⟩
theorem odI {f : Value → Value → Sem Value} {C : Int → Int → Prop} {g : Int → Int → Int} (h : OpR X f (rI C fun i j => .int (g i j))) {k : D → D → Option D} (hk : ∀ a b z, k a b = some z → ∃ i j, a = .int i ∧ b = .int j ∧ C i j ∧ z = .int (g i j)) : OD T X f k := by
  refine ⟨_, h, fun S H a b z x y Q c t e ra rb q => ?_⟩
  obtain ⟨i, j, rfl, rfl, hc, rfl⟩ := hk a b z e
  exact ⟨i, j, ra, rb, hc, q _ S H (.refl c t) rfl⟩
theorem odB0 {f : Value → Value → Sem Value} {p : Int → Int → Bool} (h : OpR X f (rI0 fun i j => .bl (p i j))) : OD T X f (gI p) := by
  refine ⟨_, h, fun S H a b z x y Q c t e ra rb q => ?_⟩
  unfold gI at e
  split at e
  · cases e
    exact ⟨_, _, ra, rb, q _ S H (.refl c t) rfl⟩
  · cases e
theorem reps_nil_iff {H : Hp} {ds : List D} {xs : List V} (r : Reps H ds xs) : xs = [] ↔ ds = [] := by
  have := r.len
  constructor
  · intro h; rw [h] at this; exact List.eq_nil_of_length_eq_zero this.symm
  · intro h; rw [h] at this; exact List.eq_nil_of_length_eq_zero this
theorem od_add : OD T X (binaryOp .Add) gAdd := by
  refine ⟨_, op_add.or op_catA, fun S H a b z x y Q c t e ra rb q => ?_⟩
  unfold gAdd at e
  split at e
  · cases e
    exact .inl ⟨_, _, ra, rb, q _ S H (.refl c t) rfl⟩
  · rename_i l m
    obtain ⟨h1, h2⟩ := gd_some e
    cases h2
    obtain ⟨p, xs, e1, h3, r1⟩ := ra
    obtain ⟨p', ys, e2, h4, r2⟩ := rb
    have hl : xs.length + ys.length ≤ sizeLine := by
      have := szOk_le h1
      rw [List.length_append] at this
      rw [r1.len, r2.len]
      exact this
    refine .inr ⟨p, p', xs, ys, e1, e2, .inl (.inl (c p _ h3)), .inl (.inl (c p' _ h4)), hl, fun z => ?_, fun z z' => ?_, fun _ _ o ho => ?_⟩
    · have hz := (reps_nil_iff r1).mp z
      rw [hz, List.nil_append] at q
      exact q _ S H (.refl c t) ⟨p', ys, rfl, h4, r2⟩
    · have hz := (reps_nil_iff r2).mp z'
      rw [hz, List.append_nil] at q
      exact q _ S H (.refl c t) ⟨p, xs, rfl, h3, r1⟩
    · have e2 := Ext.new (T := T) (o := .tup (xs ++ ys)) c t ho
      exact q _ _ _ e2 ⟨o, _, rfl, upd_same, Reps.mono e2.s (r1.append r2)⟩
  · cases e
theorem od_sub : OD T X (binaryOp .Sub) gSub := odI0 op_sub fun a b z e => by
  unfold gSub at e
  split at e
  · cases e; exact ⟨_, _, rfl, rfl, rfl⟩
  · cases e
theorem od_mul : OD T X (binaryOp .Mult) gMul := odI op_mul fun a b z e => by
  unfold gMul at e
  split at e
  · obtain ⟨h1, h2⟩ := gd_some e
    cases h2
    rw [Bool.and_eq_true, decide_eq_true_iff, decide_eq_true_iff] at h1
    exact ⟨_, _, rfl, rfl, .inr h1, rfl⟩
  · cases e
theorem od_div : OD T X (binaryOp .FloorDiv) gDiv := odI op_fdiv fun a b z e => by
  unfold gDiv at e
  split at e
  · obtain ⟨h1, h2⟩ := gd_some e
    cases h2
    rw [Bool.and_eq_true, decide_eq_true_iff, decide_eq_true_iff] at h1
    exact ⟨_, _, rfl, rfl, h1, rfl⟩
  · cases e
theorem od_mod : OD T X (binaryOp .Mod) gMod := odI op_mod fun a b z e => by
  unfold gMod at e
  split at e
  · obtain ⟨h1, h2⟩ := gd_some e
    cases h2
    exact ⟨_, _, rfl, rfl, of_decide_eq_true h1, rfl⟩
  · cases e
theorem od_lt : OD T X (compareOp .Lt) (gI fun i j => decide (i < j)) := odB0 op_lt
theorem od_le : OD T X (compareOp .LtE) (gI fun i j => decide (i ≤ j)) := odB0 op_le
theorem od_gt : OD T X (compareOp .Gt) (gI fun i j => decide (j < i)) := odB0 op_gt
theorem od_ge : OD T X (compareOp .GtE) (gI fun i j => decide (j ≤ i)) := odB0 op_ge
theorem od_eq : OD T X (compareOp .Eq) gEq := by
  refine ⟨_, op_eq, fun S H a b z x y Q c t e ra rb q => ?_⟩
  unfold gEq at e
  split at e
  · cases e
    have ra : x = .int _ := ra
    have rb : y = .int _ := rb
    subst ra rb
    refine ⟨rfl, q _ S H (.refl c t) ?_⟩
    show V.bl _ = V.bl _
    rw [dec_int, Bool.beq_eq_decide_eq]
  · cases e
    have ra : x = .bl _ := ra
    have rb : y = .bl _ := rb
    subst ra rb
    refine ⟨rfl, q _ S H (.refl c t) ?_⟩
    show V.bl _ = V.bl _
    rw [dec_bl]
  · cases e
    have ra : x = .str _ := ra
    have rb : y = .str _ := rb
    subst ra rb
    refine ⟨rfl, q _ S H (.refl c t) ?_⟩
    show V.bl _ = V.bl _
    rw [strB_eq]
  · cases e
theorem od_ne : OD T X (compareOp .NotEq) gNe := by
  refine ⟨_, op_ne, fun S H a b z x y Q c t e ra rb q => ?_⟩
  unfold gNe at e
  split at e
  · cases e
    have ra : x = .int _ := ra
    have rb : y = .int _ := rb
    subst ra rb
    refine ⟨rfl, q _ S H (.refl c t) ?_⟩
    show V.bl _ = V.bl _
    rw [dec_int, Bool.beq_eq_decide_eq]
  · cases e
    have ra : x = .bl _ := ra
    have rb : y = .bl _ := rb
    subst ra rb
    refine ⟨rfl, q _ S H (.refl c t) ?_⟩
    show V.bl _ = V.bl _
    rw [dec_bl]
  · cases e
    have ra : x = .str _ := ra
    have rb : y = .str _ := rb
    subst ra rb
    refine ⟨rfl, q _ S H (.refl c t) ?_⟩
    show V.bl _ = V.bl _
    rw [strB_eq]
  · cases e
theorem isN_of {S : Hp} {a : D} {x : V} (r : Rep S a x) : decide (x = .non) = isN a := by
  cases a with
  | non => have r : x = .non := r; rw [r] <;> rfl
  | bl b => have r : x = .bl b := r; rw [r] <;> rfl
  | int b => have r : x = .int b := r; rw [r] <;> rfl
  | str b => have r : x = .str b := r; rw [r] <;> rfl
  | adr b => have r : x = .ref b := r; rw [r] <;> rfl
  | tup b => obtain ⟨p, _, r, _⟩ := r; rw [r] <;> rfl
  | lst b => obtain ⟨p, _, r, _⟩ := r; rw [r] <;> rfl
theorem od_isN : OD T X (compareOp .Is) gIsN := by
  refine ⟨_, op_isN, fun S H a b z x y Q c t e ra rb q => ?_⟩
  unfold gIsN at e
  split at e
  · cases e
    refine ⟨rb, ?_⟩
    rw [isN_of ra]
    exact q _ S H (.refl c t) rfl
  · cases e
theorem od_notN : OD T X (compareOp .IsNot) gNotN := by
  refine ⟨_, op_notN, fun S H a b z x y Q c t e ra rb q => ?_⟩
  unfold gNotN at e
  split at e
  · cases e
    refine ⟨rb, ?_⟩
    rw [isN_of ra]
    exact q _ S H (.refl c t) rfl
  · cases e
theorem memI_ints : ∀ {l : List D} {i : Int} {b : Bool}, memI i l = some b → ∃ ns : List Int, l = ns.map D.int ∧ b = ns.any fun j => decide (j = i)
  | [], i, b, h => by
    cases h
    exact ⟨[], rfl, rfl⟩
  | .int j :: r, i, b, h => by
    unfold memI at h
    split at h
    · rename_i c hc
      cases h
      obtain ⟨ns, h1, h2⟩ := memI_ints hc
      exact ⟨j :: ns, by rw [h1] <;> rfl, by rw [h2] <;> rfl⟩
    · cases h
  | .non :: r, _, _, h => by simp [memI] at h
  | .bl _ :: r, _, _, h => by simp [memI] at h
  | .str _ :: r, _, _, h => by simp [memI] at h
  | .tup _ :: r, _, _, h => by simp [memI] at h
  | .lst _ :: r, _, _, h => by simp [memI] at h
  | .adr _ :: r, _, _, h => by simp [memI] at h
theorem inV_ints (i : Int) : ∀ ns : List Int, (ns.map V.int).all flatV = true ∧ inV (.int i) (ns.map V.int) = ns.any fun j => decide (j = i)
  | [] => ⟨rfl, rfl⟩
  | n :: ns => by
    obtain ⟨h1, h2⟩ := inV_ints i ns
    refine ⟨by rw [List.map_cons, List.all_cons, h1] <;> rfl, ?_⟩
    unfold inV at h2 ⊢
    rw [List.map_cons, List.any_cons, List.any_cons, h2]
    have : eqV (.int n) (.int i) = decide (n = i) := by
      show (n == i) = decide (n = i)
      rw [Bool.beq_eq_decide_eq]
    rw [this]
theorem od_in : OD T X (compareOp .In) gIn := by
  refine ⟨_, op_in_seq, fun S H a b z x y Q c t e ra rb q => ?_⟩
  unfold gIn at e
  split at e
  · rename_i i l
    split at e
    · rename_i b hb
      cases e
      obtain ⟨ns, h1, h2⟩ := memI_ints hb
      obtain ⟨p, xs, e1, h3, r1⟩ := rb
      rw [h1] at r1
      have e4 := r1.ints
      rw [e4] at h3
      have ra : x = .int i := ra
      obtain ⟨k1, k2⟩ := inV_ints i ns
      refine ⟨p, ns.map V.int, e1, .inl (.inl (.inl (c p _ h3))), by rw [ra] <;> rfl, k1, ?_⟩
      rw [if_neg Bool.false_ne_true, ra, k2, ← h2]
      exact q _ S H (.refl c t) rfl
    · cases e
  · cases e
/-! new lists -/
def gCat : D → D → Option (List D)
  | .lst a, .lst b => gd (szOk (a ++ b)) (some (a ++ b))
  | _, _ => none
theorem ol_cat : OL T X (binaryOp .Add) gCat := by
  refine ⟨_, op_cat, fun S H a b z x y Q c t e ra rb q => ?_⟩
  unfold gCat at e
  split at e
  · rename_i l m
    obtain ⟨h1, h2⟩ := gd_some e
    cases h2
    obtain ⟨p, xs, e1, h3, r1⟩ := ra
    obtain ⟨p', ys, e2, h4, r2⟩ := rb
    have hl : xs.length + ys.length ≤ sizeLine := by
      have := szOk_le h1
      rw [List.length_append] at this
      rw [r1.len, r2.len]
      exact this
    refine ⟨p, p', xs, ys, e1, e2, c p _ h3, c p' _ h4, hl, fun o ho => ?_⟩
    exact q o _ S _ (Ext.newO c t ho) upd_same (fresh_of c ho) ho (r1.append r2)
  · cases e
def gRep : D → D → Option (List D)
  | .lst a, .int k => gd (decide (0 ≤ k) && decide (k ≤ 1000) && Nat.ble a.length 1000) (some (List.replicate k.toNat a).flatten)
  | _, _ => none
theorem ol_rep : OL T X (binaryOp .Mult) gRep := by
  refine ⟨_, op_rep, fun S H a b z x y Q c t e ra rb q => ?_⟩
  unfold gRep at e
  split at e
  · rename_i l k
    obtain ⟨h1, h2⟩ := gd_some e
    cases h2
    rw [Bool.and_eq_true, Bool.and_eq_true, decide_eq_true_iff, decide_eq_true_iff] at h1
    obtain ⟨⟨h1, h2⟩, h3⟩ := h1
    have h3 := Nat.le_of_ble_eq_true h3
    obtain ⟨p, xs, e1, h4, r1⟩ := ra
    have hl : xs.length * k.toNat ≤ sizeLine := by
      have e5 : sizeLine = 16777216 := sizeLine_eq
      have h6 : k.toNat ≤ 1000 := by omega
      have := Nat.mul_le_mul (by rw [r1.len]; exact h3 : xs.length ≤ 1000) h6
      omega
    refine ⟨p, k, xs, e1, rb, c p _ h4, by omega, by omega, hl, fun o ho => ?_⟩
    exact q o _ S _ (Ext.newO c t ho) upd_same (fresh_of c ho) ho (r1.replicate _)
  · cases e
/-! built-ins -/
def gLen : List D → Option D
  | [.tup l] => some (.int l.length)
  | [.lst l] => some (.int l.length)
  | _ => none
theorem cd_len : CD T X (.builtin "len") gLen := by
  refine ⟨_, call_len_seq, fun S H as z xs Q c t e r q => ?_⟩
  unfold gLen at e
  split at e
  · cases e
    obtain ⟨x, r', e1, ⟨p, ys, e2, h3, r1⟩, r2⟩ := r
    have r2 : r' = [] := r2
    refine ⟨p, ys, by rw [e1, e2, r2], .inr (.inl (.inl (c p _ h3))), ?_⟩
    rw [r1.len]
    exact q _ S H (.refl c t) rfl
  · cases e
    obtain ⟨x, r', e1, ⟨p, ys, e2, h3, r1⟩, r2⟩ := r
    have r2 : r' = [] := r2
    refine ⟨p, ys, by rw [e1, e2, r2], .inl (.inl (.inl (c p _ h3))), ?_⟩
    rw [r1.len]
    exact q _ S H (.refl c t) rfl
  · cases e
theorem reps1 {S : Hp} {d : D} {xs : List V} (r : Reps S [d] xs) : ∃ x, xs = [x] ∧ Rep S d x := by
  obtain ⟨x, r', e1, h, r2⟩ := r
  have r2 : r' = [] := r2
  exact ⟨x, by rw [e1, r2], h⟩
theorem reps2 {S : Hp} {d e : D} {xs : List V} (r : Reps S [d, e] xs) : ∃ x y, xs = [x, y] ∧ Rep S d x ∧ Rep S e y := by
  obtain ⟨x, r', e1, h, r2⟩ := r
  obtain ⟨y, e2, h2⟩ := reps1 r2
  exact ⟨x, y, by rw [e1, e2], h, h2⟩
def gMin : List D → Option D
  | [.int i, .int j] => some (.int (if j < i then j else i))
  | _ => none
theorem cd_min (hc : X.calm = true) : CD T X (.builtin "min") gMin := by
  refine ⟨_, call_min2 hc, fun S H as z xs Q c t e r q => ?_⟩
  unfold gMin at e
  split at e
  · cases e
    obtain ⟨x, y, e1, h1, h2⟩ := reps2 r
    have h1 : x = .int _ := h1
    have h2 : y = .int _ := h2
    exact ⟨_, _, by rw [e1, h1, h2], q _ S H (.refl c t) rfl⟩
  · cases e
/-- the greatest -/
def maxL : Int → List Int → Int
  | m, [] => m
  | m, n :: r => maxL (if m < n then n else m) r
theorem maxL_spec : ∀ (r : List Int) (m : Int), (maxL m r ∈ m :: r) ∧ ∀ y ∈ m :: r, y ≤ maxL m r
  | [], m => by simp [maxL]
  | n :: r, m => by
    obtain ⟨h1, h2⟩ := maxL_spec r (if m < n then n else m)
    unfold maxL
    refine ⟨?_, fun y hy => ?_⟩
    · rcases List.mem_cons.mp h1 with z | z
      · rw [z]
        split <;> simp
      · exact List.mem_cons_of_mem _ (List.mem_cons_of_mem _ z)
    · have h3 := h2 _ List.mem_cons_self
      have h4 : m ≤ (if m < n then n else m) ∧ n ≤ (if m < n then n else m) := by split <;> omega
      rcases List.mem_cons.mp hy with z | z
      · rw [z]; exact Int.le_trans h4.1 h3
      · rcases List.mem_cons.mp z with z | z
        · rw [z]; exact Int.le_trans h4.2 h3
        · exact h2 y (List.mem_cons_of_mem _ z)
theorem maxL_eq {r : List Int} {m k : Int} (h1 : k ∈ m :: r) (h2 : ∀ y, y ∈ m :: r → y ≤ k) : k = maxL m r := by
  obtain ⟨h3, h4⟩ := maxL_spec r m
  have := h2 _ h3
  have := h4 _ h1
  omega
def gMax : List D → Option D
  | [.lst (.int i :: r)] => match intsOf r with
    | some ns => some (.int (maxL i ns))
    | none => none
  | _ => none
theorem cd_max (hc : X.calm = true) : CD T X (.builtin "max") gMax := by
  refine ⟨_, cr_max hc, fun S H as z xs Q c t e r q => ?_⟩
  unfold gMax at e
  split at e
  · rename_i i l
    split at e
    · rename_i ns hn
      cases e
      have hn := intsOf_eq hn
      obtain ⟨x, e1, p, ys, e2, h3, r1⟩ := reps1 r
      have r1 : Reps S ((i :: ns).map D.int) ys := by rw [hn] at r1; exact r1
      have e4 := r1.ints
      rw [e4] at h3
      refine ⟨p, i :: ns, by rw [e1, e2], .inl (.inl (c p _ h3)), Nat.succ_pos _, fun m h4 h5 => ?_⟩
      rw [maxL_eq h4 h5]
      exact q _ S H (.refl c t) rfl
    · cases e
  · cases e
def gSum : List D → Option D
  | [.lst l] => match intsOf l with
    | some ns => some (.int ns.sum)
    | none => none
  | [.tup l] => match intsOf l with
    | some ns => some (.int ns.sum)
    | none => none
  | _ => none
theorem sumT_raw {prog : Program} {w : World} {A : Around} {E : Value → Shared → Prop} {s : Shared} {l : Addr} {its : List Value} {ns : List Int} {Q : Value → Shared → Prop} (hh : A.handled = none) (hl : s.heap.IsTuple l its.toArray) (hi : IntsAre its ns)
    (h : ∀ h' tk t', (∀ b o, s.heap.get? b = some o → h'.get? b = some o) → Q (.int ns.sum t') { s with heap := h', toks := tk }) : wpAny (model prog w) A (call (.builtin "sum") [.ref l]) Q E s := by
  obtain ⟨xs, e⟩ := hi.allInts.items
  have hn : numsOf (intItems xs).toList = ns := by rw [← e]; exact hi.numsOf
  rw [nums_intItems] at hn
  rw [e] at hl
  refine PySem.W.ktm_sumG hh hl fun h' tk t' hk => ?_
  have := h h' tk t' hk
  rw [PySem.preSum_eq, List.take_of_length_le (by simp), hn]; exact this
theorem cr_sumT (hc : X.calm = true) : CallR X (.builtin "sum") (fun vs H Q => ∃ (a : Addr) (ns : List Int), vs = [V.ref a] ∧ SqT X.K H a (ns.map V.int) ∧ Q (.int ns.sum) H) := by
  intro pins s σ H vs us Q I r h
  obtain ⟨a, ns, rfl, hs, q⟩ := h
  obtain rfl := Vals.ref1 r
  obtain ⟨its, rv, hl, _⟩ := I.tuple hs
  exact sumT_raw (I.ok.hd hc) hl rv.ints fun h' tk t' k => ⟨.int ns.sum, H, I.kept k, ⟨_, rfl⟩, q⟩
theorem cd_sum (hc : X.calm = true) : CD T X (.builtin "sum") gSum := by
  refine ⟨_, (cr_sum hc).or (cr_sumT hc), fun S H as z xs Q c t e r q => ?_⟩
  unfold gSum at e
  split at e
  · rename_i l
    split at e
    · rename_i ns hn
      cases e
      have hn := intsOf_eq hn
      obtain ⟨x, e1, p, ys, e2, h3, r1⟩ := reps1 r
      rw [hn] at r1
      rw [r1.ints] at h3
      exact .inl ⟨p, ns, by rw [e1, e2], .inl (.inl (c p _ h3)), q _ S H (.refl c t) rfl⟩
    · cases e
  · rename_i l
    split at e
    · rename_i ns hn
      cases e
      have hn := intsOf_eq hn
      obtain ⟨x, e1, p, ys, e2, h3, r1⟩ := reps1 r
      rw [hn] at r1
      rw [r1.ints] at h3
      exact .inr ⟨p, ns, by rw [e1, e2], .inl (.inl (c p _ h3)), q _ S H (.refl c t) rfl⟩
    · cases e
  · cases e
def gAny : List D → Option D
  | [.lst l] => match blsOf l with
    | some bs => some (.bl (bs.any id))
    | none => none
  | _ => none
def gAll : List D → Option D
  | [.lst l] => match blsOf l with
    | some bs => some (.bl (bs.all id))
    | none => none
  | _ => none
theorem cd_any (hc : X.calm = true) : CD T X (.builtin "any") gAny := by
  refine ⟨_, cr_any hc, fun S H as z xs Q c t e r q => ?_⟩
  unfold gAny at e
  split at e
  · rename_i l
    split at e
    · rename_i ns hn
      cases e
      obtain ⟨x, e1, p, ys, e2, h3, r1⟩ := reps1 r
      rw [blsOf_reps hn r1] at h3
      exact ⟨p, ns, by rw [e1, e2], .inl (.inl (c p _ h3)), q _ S H (.refl c t) rfl⟩
    · cases e
  · cases e
theorem cd_all (hc : X.calm = true) : CD T X (.builtin "all") gAll := by
  refine ⟨_, cr_all hc, fun S H as z xs Q c t e r q => ?_⟩
  unfold gAll at e
  split at e
  · rename_i l
    split at e
    · rename_i ns hn
      cases e
      obtain ⟨x, e1, p, ys, e2, h3, r1⟩ := reps1 r
      rw [blsOf_reps hn r1] at h3
      exact ⟨p, ns, by rw [e1, e2], .inl (.inl (c p _ h3)), q _ S H (.refl c t) rfl⟩
    · cases e
  · cases e
/-- tuple(x) of a list or tuple -/
def gTupl : List D → Option D
  | [.lst l] => some (.tup l)
  | [.tup l] => some (.tup l)
  | _ => none
theorem cd_tuple : CD T X (.type "tuple") gTupl := by
  refine ⟨_, call_tuple_of, fun S H as z xs Q c t e r q => ?_⟩
  unfold gTupl at e
  split at e
  · cases e
    obtain ⟨x, e1, p, ys, e2, h3, r1⟩ := reps1 r
    refine ⟨p, ys, by rw [e1, e2], .inl ⟨.inl (.inl (c p _ h3)), fun o ho => ?_⟩⟩
    have e5 := Ext.new (T := T) (o := .tup ys) c t ho
    exact q _ _ _ e5 ⟨o, ys, rfl, upd_same, Reps.mono e5.s r1⟩
  · cases e
    obtain ⟨x, e1, p, ys, e2, h3, r1⟩ := reps1 r
    exact ⟨p, ys, by rw [e1, e2], .inr ⟨.inl (.inl (c p _ h3)), q _ S H (.refl c t) ⟨p, ys, rfl, h3, r1⟩⟩⟩
  · cases e
/-- sorted(list of ints) -/
def ins (x : Int) : List Int → List Int
  | [] => [x]
  | y :: r => if x ≤ y then x :: y :: r else y :: ins x r
def isort : List Int → List Int
  | [] => []
  | x :: r => ins x (isort r)
theorem ins_perm (x : Int) : ∀ l : List Int, (ins x l).Perm (x :: l)
  | [] => .refl _
  | y :: r => by
    unfold ins
    split
    · exact .refl _
    · exact ((ins_perm x r).cons y).trans (.swap x y r)
theorem isort_perm : ∀ l : List Int, (isort l).Perm l
  | [] => .refl _
  | x :: r => (ins_perm x _).trans ((isort_perm r).cons x)
theorem ins_pw (x : Int) : ∀ l : List Int, l.Pairwise (· ≤ ·) → (ins x l).Pairwise (· ≤ ·)
  | [], _ => by simp [ins]
  | y :: r, h => by
    obtain ⟨h1, h2⟩ := List.pairwise_cons.mp h
    unfold ins
    split
    · rename_i hxy
      refine List.pairwise_cons.mpr ⟨fun z hz => ?_, h⟩
      rcases List.mem_cons.mp hz with e | hz
      · rw [e]; exact hxy
      · exact Int.le_trans hxy (h1 z hz)
    · rename_i hxy
      refine List.pairwise_cons.mpr ⟨fun z hz => ?_, ins_pw x r h2⟩
      rcases List.mem_cons.mp ((ins_perm x r).mem_iff.mp hz) with e | hz
      · rw [e]; omega
      · exact h1 z hz
theorem isort_pw : ∀ l : List Int, (isort l).Pairwise (· ≤ ·)
  | [] => .nil
  | x :: r => ins_pw x _ (isort_pw r)
theorem sorted_uniq {l m : List Int} (p : l.Perm m) (h1 : l.Pairwise (· ≤ ·)) (h2 : m.Pairwise (· ≤ ·)) : l = m :=
  p.eq_of_pairwise (le := (· ≤ ·)) (fun a b _ _ h h' => Int.le_antisymm h h') h1 h2
def gSorted : List D → Option (List D)
  | [.lst l] => match intsOf l with
    | some ns => gd (Nat.blt ns.length 64) (some ((isort ns).map D.int))
    | none => none
  | _ => none
theorem cl_sorted : CL T X (.builtin "sorted") gSorted := by
  refine ⟨_, cr_sorted, fun S H as z xs Q c t e r q => ?_⟩
  unfold gSorted at e
  split at e
  · rename_i l
    split at e
    · rename_i ns hn
      obtain ⟨h1, h2⟩ := gd_some e
      cases h2
      have hn := intsOf_eq hn
      obtain ⟨x, e1, p, ys, e2, h3, r1⟩ := reps1 r
      rw [hn] at r1
      rw [r1.ints] at h3
      refine ⟨p, ns, by rw [e1, e2], .inl (.inl (c p _ h3)), by simpa using h1, fun ns' o hp hs ho => ?_⟩
      have e5 : ns' = isort ns := sorted_uniq (hp.trans (isort_perm ns).symm) hs (isort_pw ns)
      rw [e5]
      exact q o _ S _ (Ext.newO c t ho) upd_same (fresh_of c ho) ho (.ofInts _)
    · cases e
  · cases e
/-- math.comb -/
def gComb : List D → Option D
  | [.int a, .int b] => gd (decide (0 ≤ a) && decide (0 ≤ b) && decide (a ≤ 1000)) (some (.int (PySem.W.mcComb a b)))
  | _ => none
theorem cd_comb : CD T X (.builtin "math.comb") gComb := by
  refine ⟨fun xs H Q => ∃ a b : Int, xs = [.int a, .int b] ∧ 0 ≤ a ∧ 0 ≤ b ∧ a ≤ 1000 ∧ Q (.int (PySem.W.mcComb a b)) H, ?_, fun S H as z xs Q c t e r q => ?_⟩
  · intro pins s σ H xs us Q I r h
    obtain ⟨a, b, rfl, h1, h2, h3, q⟩ := h
    obtain ⟨t, u, rfl⟩ := Vals.int2 r
    exact PySem.W.mc_comb h1 h2 (by omega) (.inr (by omega)) fun _ => ⟨.int _, H, I.tok _, ⟨_, rfl⟩, q⟩
  · unfold gComb at e
    split at e
    · obtain ⟨h1, h2⟩ := gd_some e
      cases h2
      rw [Bool.and_eq_true, Bool.and_eq_true, decide_eq_true_iff, decide_eq_true_iff, decide_eq_true_iff] at h1
      obtain ⟨x, y, e1, k1, k2⟩ := reps2 r
      have k1 : x = .int _ := k1
      have k2 : y = .int _ := k2
      exact ⟨_, _, by rw [e1, k1, k2], h1.1.1, h1.1.2, h1.2, q _ S H (.refl c t) rfl⟩
    · cases e
/-! subscripts -/
def atD (l : List D) : Int → Option D
  | .ofNat n => l[n]?
  | .negSucc n => gd (Nat.ble (n + 1) l.length) l[l.length - (n + 1)]?
def gIx : D → D → Option D
  | .tup l, .int i => atD l i
  | .lst l, .int i => atD l i
  | _, _ => none
theorem atD_atI {S : Hp} {l : List D} {xs : List V} {i : Int} {d : D} (r : Reps S l xs) (h : atD l i = some d) : ∃ x, atI xs i = some x ∧ Rep S d x := by
  cases i with
  | ofNat n =>
    obtain ⟨x, e, r'⟩ := r.get (show l[n]? = some d from h)
    exact ⟨x, atI_nat e, r'⟩
  | negSucc n =>
    obtain ⟨h1, h2⟩ := gd_some h
    have h1 := Nat.le_of_ble_eq_true h1
    obtain ⟨x, e, r'⟩ := r.get h2
    refine ⟨x, ?_, r'⟩
    have e1 : ixN xs.length (Int.negSucc n) = some (l.length - (n + 1)) := by
      unfold ixN
      rw [if_neg (by omega), if_pos (by rw [r.len]; omega), r.len]
      congr 1
      omega
    unfold atI
    rw [e1]
    exact e
theorem ix_any : IxD T X gIx := by
  refine ⟨_, ix_list.or ix_tup, fun S H a b z x y Q c t e ra rb q => ?_⟩
  unfold gIx at e
  split at e
  · obtain ⟨p, xs, e1, h3, r1⟩ := ra
    obtain ⟨v, e2, r2⟩ := atD_atI r1 e
    exact .inr ⟨p, xs, _, v, e1, rb, .inl (.inl (c p _ h3)), e2, q v S H (.refl c t) r2⟩
  · obtain ⟨p, xs, e1, h3, r1⟩ := ra
    obtain ⟨v, e2, r2⟩ := atD_atI r1 e
    exact .inl ⟨p, xs, _, v, e1, rb, .inl (.inl (c p _ h3)), e2, q v S H (.refl c t) r2⟩
  · cases e
/-! isinstance -/
def isiD (ty : String) : D → Bool
  | .int _ => ty == "int"
  | .bl _ => ty == "bool" || ty == "int"
  | .str _ => ty == "str"
  | .tup _ => ty == "tuple"
  | _ => false
end
end DL

set_option Elab.async false
set_option linter.all false
set_option maxRecDepth 100000
set_option maxHeartbeats 2000000
namespace DL
open PySem PySem.Spec PyProof.Rows L2 LamX NdefX

/-! ### x[::-1] of a tuple, of a text -/
section
variable {prog : Program} {w : World} {A : Around} {E : Value → Shared → Prop} {s : Shared}
theorem adjust_rev (n : Nat) : Builtin.Slice.sliceAdjust none none (-1) (n : Int) = ((n : Int) - 1, -1) := by
  unfold Builtin.Slice.sliceAdjust
  simp
theorem places_rev (n : Nat) : Builtin.Slice.slicePlaces ((n : Int) - 1) (-1) (-1) = n := by
  unfold Builtin.Slice.slicePlaces
  have h1 : ¬ ((-1 : Int) > 0) := by omega
  rw [if_neg h1]
  by_cases h : (n : Int) - 1 > -1
  · rw [if_pos h, show (-(-1 : Int)) = 1 by decide, Int.ediv_one]
    omega
  · rw [if_neg h]
    omega
theorem pick_rev (xs : Array Value) : ((List.range xs.size).filterMap fun (k : Nat) => xs[((xs.size : Int) - 1 + (k : Int) * (-1)).toNat]?).toArray = xs.toList.reverse.toArray := by
  have e : (List.range xs.size).filterMap (fun (k : Nat) => xs[((xs.size : Int) - 1 + (k : Int) * (-1)).toNat]?) = ((List.range xs.size).map fun k => xs.size - 1 - k).filterMap (xs[·]?) := by
    rw [List.filterMap_map]
    have hf : ∀ (l : List Nat), (∀ k ∈ l, k < xs.size) → l.filterMap (fun (k : Nat) => xs[((xs.size : Int) - 1 + (k : Int) * (-1)).toNat]?) = l.filterMap ((xs[·]?) ∘ fun k => xs.size - 1 - k) := by
      intro l
      induction l with
      | nil => intro _; rfl
      | cons k l ih =>
        intro hl
        have := hl k List.mem_cons_self
        have e1 : ((xs.size : Int) - 1 + (k : Int) * (-1)).toNat = xs.size - 1 - k := by omega
        rw [List.filterMap_cons, List.filterMap_cons, ih fun j hj => hl j (List.mem_cons_of_mem _ hj), e1]
        rfl
    exact hf _ fun k hk => List.mem_range.mp hk
  rw [e, PySem.W.krv_range, List.filterMap_reverse, PySem.W.krv_all]
theorem getItem_tuple_rev {t sl : Addr} {items : Array Value} {tk : Tok} {Q : Value → Shared → Prop} (ht : IsTup s.heap t items) (hs : s.heap.IsSliceOf sl .none .none (.int (-1) tk))
    (h : Q (.ref s.heap.objs.size) { s with heap := s.heap.push { cls := .type "tuple", data := .seq items.toList.reverse.toArray } }) (hsz : items.size ≤ sizeLine) : wpAny (model prog w) A (getItem (.ref t) (.ref sl)) Q E s := by
  have htake : sizeOk (.seq items.toList.reverse.toArray) := by
    show items.toList.reverse.toArray.size ≤ sizeLine
    rw [List.size_toArray, List.length_reverse, Array.length_toList]
    exact hsz
  obtain ⟨os, hos, hcs, hds⟩ := id hs
  have hTs : s.TypeIs (.ref sl) "slice" := ⟨os, hos, hcs⟩
  unfold getItem
  try with_reducible refine wpAny_holding ?_
  first | refine wpAny_bind (wpAny_pure ?_) | skip
  refine wpAny_bind (wpAny_sequenceKey ht.typeIs (by decide) ?_)
  refine wpAny_bind (wpAny_callSpecial?_slot (name := Str.ofString "__getitem__") ht.typeIs PyProof.Rows.slot_tuple_getitem
    (wpAny_call_entry PyProof.Rows.slot_tuple_getitem ht.typeIs entry_tuple_getitem ?_ (args_tuple_getitem _ _)))
  show wpAny _ _ (Builtin.Tuple.tupleItemsOf (.ref t) >>= _) _ _ s
  refine wpAny_bind (tupleItemsOf_ ht ?_)
  refine wpAny_bind (wpAny_typeOf hTs ?_)
  rw [if_pos (by decide)]
  refine wpAny_bind ?_
  unfold Builtin.Slice.sliceApplied Builtin.Slice.sliceFields
  refine wpAny_bind (wpAny_bind (wpAny_field hos hds (x := .none) rfl (wpAny_bind (wpAny_field hos hds (x := .none) rfl (wpAny_bind (wpAny_field hos hds (x := .int (-1) tk) rfl (wpAny_pure ?_)))))))
  refine wpAny_bind (HT.slicePart_ (.int (-1) tk) ?_)
  show wpAny _ _ (if ((-1 : Int) == 0) = true then _ else _) _ _ s
  rw [if_neg (by decide)]
  refine wpAny_bind (HT.slicePart_ .none (wpAny_bind (HT.slicePart_ .none (wpAny_bind (wpAny_pure ?_)))))
  show wpAny _ _ (match Builtin.Slice.sliceAdjust none none (-1) (items.size : Int) with | (lo, hi) => pure (lo, (-1 : Int), Builtin.Slice.slicePlaces lo hi (-1))) _ _ s
  rw [adjust_rev]
  show wpAny _ _ (pure ((items.size : Int) - 1, (-1 : Int), Builtin.Slice.slicePlaces ((items.size : Int) - 1) (-1) (-1))) _ _ s
  rw [places_rev]
  refine wpAny_pure ?_
  have hno : ¬ (((items.size : Int) - 1 == 0 && (-1 : Int) == 1 && items.size == items.size) = true) := by
    intro q
    rw [Bool.and_eq_true, Bool.and_eq_true] at q
    exact absurd q.1.2 (by decide)
  show wpAny _ _ (if ((items.size : Int) - 1 == 0 && (-1 : Int) == 1 && items.size == items.size) = true then _ else _) _ _ s
  rw [if_neg hno, pick_rev]
  first
    | exact wpAny_bind (m := Builtin.Tuple.tupleExact _) (wpAny_newObj_type (wpAny_pure ⟨_, rfl, wpAny_pure h⟩) htake)
    | exact wpAny_bind (m := Builtin.Tuple.tupleExact _) (wpAny_newObj_type (wpAny_bind (wpAny_pure (wpAny_pure ⟨_, rfl, wpAny_pure h⟩))) htake)
    | exact wpAny_bind (wpAny_bind (m := Builtin.Tuple.tupleExact _) (wpAny_newObj_type (wpAny_pure (wpAny_pure ⟨_, rfl, wpAny_pure h⟩)) htake))
    | exact wpAny_bind (wpAny_bind (m := Builtin.Tuple.tupleExact _) (wpAny_newObj_type (wpAny_pure ⟨_, rfl, wpAny_pure h⟩) htake))
end
section
variable {X : Cx}
def tRevT (te : TE) : TE := fun σ H Q => te σ H fun x H1 => ∃ a xs, x = .ref a ∧ SqT X.K H1 a xs ∧ ∀ p, H1 p = none → Q (.ref p) (upd H1 p (.tup xs.reverse))
theorem pe_revT {e : Expr} {te : TE} {k : Nat} {p1 p2 p3 pos : Pos} (he : PE X e te) : PE X (.Subscript e (.Slice none none (some (.UnaryOp .USub (.Constant (.int 1) k p1) p2)) p3) pos) (tRevT (X := X) te) := by
  refine ⟨fun pins s σ H Q I h => ?_⟩
  refine Subscript_ (thn (he.run pins s σ H _ I h) fun v s1 ⟨x, H1, I1, r1, q1⟩ => ?_)
  obtain ⟨a, xs, ex, hx, q⟩ := q1
  subst ex
  cases r1
  have hst : PO X (some (.UnaryOp .USub (.Constant (.int 1) k p1) p2)) (tPart (tUn (rU fun i => .int (-i)) (tC (.int 1)))) := po_some (pe_un un_neg pe_int)
  refine wpAny_Slice (thn (po_none.run pins s1 σ H1 (fun o H2 => o = none ∧ H2 = H1) I1 ⟨rfl, rfl⟩) fun vl s2 ⟨l, H2, I2, pl, el, e2⟩ => ?_)
  subst el e2
  refine thn (po_none.run pins s2 σ H2 (fun o H3 => o = none ∧ H3 = H2) I2 ⟨rfl, rfl⟩) fun vu s3 ⟨u, H3, I3, pu, eu, e3⟩ => ?_
  subst eu e3
  refine thn (hst.run pins s3 σ H3 (fun o H4 => o = some (-1) ∧ H4 = H3) I3 ⟨1, rfl, -1, rfl, rfl, rfl⟩) fun vs s4 ⟨o, H4, I4, ps, eo, e4⟩ => ?_
  subst eo e4
  cases pl
  cases pu
  obtain ⟨tk, rfl⟩ : ∃ tk, vs = Value.int (-1) tk := by
    cases ps
    exact ⟨_, rfl⟩
  have I5 : Inv X pins σ H4 { s4 with heap := s4.heap.push { cls := .type "slice", data := .fields #[.none, .none, .int (-1) tk] } } := I4.kept (t' := s4.toks) fun b ob q => Heap.get?_push_of_some _ q
  obtain ⟨its, r, ht, hz⟩ := I5.tuple hx
  have hlen := r.length
  show wpAny (model X.prog X.w) X.A (subscriptTail e (.Slice none none (some (.UnaryOp .USub (.Constant (.int 1) k p1) p2)) p3) (.ref a) (.ref s4.heap.objs.size)) (EP X pins σ Q) X.xe { s4 with heap := s4.heap.push { cls := .type "slice", data := .fields #[.none, .none, .int (-1) tk] } }
  refine tail_any (ops := [.ref a, .ref s4.heap.objs.size]) ht.typeIs (PyProof.Rows.slot_tuple_getitem.lookup) ?_ (by with_unfolding_all rfl)
  refine getItem_tuple_rev ht (Heap.IsSliceOf.new _ .none .none (.int (-1) tk)) ?_ (by rw [List.size_toArray]; omega)
  refine ⟨.ref _, _, I5.laid (t' := s4.toks) (o := .tup xs.reverse) (fun b ob q => Heap.get?_push_of_some _ q) (Nat.le_refl _) ?_, rfl, q _ (I5.hok.fresh (Nat.le_refl _))⟩
  exact ⟨by rw [List.length_reverse]; exact hz, _, r.reverse, IsTup.new _ _⟩
def revS (x : Str) : Str := ⟨x.cps.toList.reverse.toArray⟩
def tRevS (te : TE) : TE := fun σ H Q => te σ H fun x H1 => ∃ z, x = .str z ∧ z.length ≤ sizeLine ∧ Q (.str (revS z)) H1
theorem picked_rev (x : Str) (t : Tok) : ((Builtin.Str.strSliceIndices none none (-1) x.length).filterMap (x.cps[·]?)).toArray = x.cps.toList.reverse.toArray := by
  have e : Builtin.Str.strSliceIndices none none (-1) x.length = sliceRange ((x.length : Int) - 1) (-1) (-1) := by
    unfold Builtin.Str.strSliceIndices
    simp
  rw [e, PySem.W.krv_sliceRange, PySem.W.krv_range, List.filterMap_reverse]
  exact congrArg (fun l => (List.reverse l).toArray) (PySem.W.krv_all x.cps)
theorem pe_revS {e : Expr} {te : TE} {k : Nat} {p1 p2 p3 pos : Pos} (he : PE X e te) : PE X (.Subscript e (.Slice none none (some (.UnaryOp .USub (.Constant (.int 1) k p1) p2)) p3) pos) (tRevS te) := by
  refine ⟨fun pins s σ H Q I h => ?_⟩
  refine Subscript_ (thn (he.run pins s σ H _ I h) fun v s1 ⟨x, H1, I1, r1, q1⟩ => ?_)
  obtain ⟨z, ex, hz, q⟩ := q1
  subst ex
  obtain ⟨tz, rfl⟩ := r1
  have hst : PO X (some (.UnaryOp .USub (.Constant (.int 1) k p1) p2)) (tPart (tUn (rU fun i => .int (-i)) (tC (.int 1)))) := po_some (pe_un un_neg pe_int)
  refine wpAny_Slice (thn (po_none.run pins s1 σ H1 (fun o H2 => o = none ∧ H2 = H1) I1 ⟨rfl, rfl⟩) fun vl s2 ⟨l, H2, I2, pl, el, e2⟩ => ?_)
  subst el e2
  refine thn (po_none.run pins s2 σ H2 (fun o H3 => o = none ∧ H3 = H2) I2 ⟨rfl, rfl⟩) fun vu s3 ⟨u, H3, I3, pu, eu, e3⟩ => ?_
  subst eu e3
  refine thn (hst.run pins s3 σ H3 (fun o H4 => o = some (-1) ∧ H4 = H3) I3 ⟨1, rfl, -1, rfl, rfl, rfl⟩) fun vs s4 ⟨o, H4, I4, ps, eo, e4⟩ => ?_
  subst eo e4
  cases pl
  cases pu
  obtain ⟨tk, rfl⟩ : ∃ tk, vs = Value.int (-1) tk := by
    cases ps
    exact ⟨_, rfl⟩
  have I5 : Inv X pins σ H4 { s4 with heap := s4.heap.push { cls := .type "slice", data := .fields #[.none, .none, .int (-1) tk] } } := I4.kept (t' := s4.toks) fun b ob q => Heap.get?_push_of_some _ q
  show wpAny (model X.prog X.w) X.A (subscriptTail e (.Slice none none (some (.UnaryOp .USub (.Constant (.int 1) k p1) p2)) p3) (.str z tz) (.ref s4.heap.objs.size)) (EP X pins σ Q) X.xe { s4 with heap := s4.heap.push { cls := .type "slice", data := .fields #[.none, .none, .int (-1) tk] } }
  refine tail_any (ops := [.str z tz, .ref s4.heap.objs.size]) (typeIs_str _ z tz) (F.slot_str_getitem.lookup) ?_ (by with_unfolding_all rfl)
  refine wpAny_getItem_str_slice (l := none) (u := none) (st := some (-1, tk)) ⟨_, Heap.get?_push_size _ rfl, rfl, rfl⟩ (by rfl) ?_
  have e1 : sliceMade z tz none none (some (-1, tk)) = .str (revS z) := by
    unfold sliceMade
    have e2 : ¬ ((((some ((-1 : Int), tk)).map (·.1)).getD 1 == 1 && (slicePicked z none none (some (-1, tk))).length == z.length) = true) := by
      intro w
      have w1 : ((-1 : Int) == 1) = true := (Bool.and_eq_true_iff.mp w).1
      exact absurd w1 (by decide)
    rw [if_neg e2]
    unfold slicePicked revS
    exact congrArg (fun a => Made.str ⟨a⟩) (picked_rev z tz)
  rw [e1]
  refine ⟨?_, .str (revS z), H4, I5.tok _, ⟨_, rfl⟩, q⟩
  show (revS z).length ≤ sizeLine
  unfold revS Str.length
  rw [List.size_toArray, List.length_reverse, Array.length_toList]
  exact hz
end
end DL

set_option Elab.async false
set_option linter.all false
set_option maxRecDepth 100000
set_option maxHeartbeats 2000000
namespace DL
open PySem PySem.Spec PyProof.Rows L2 LamX NdefX

/-! ### slices, by data -/
def cutD (l : List D) (lo hi : Option Int) : List D := (l.drop (HT.sIx l.length 0 lo)).take (HT.sIx l.length l.length hi - HT.sIx l.length 0 lo)
theorem reps_cut {S : Hp} {l : List D} {xs : List V} (r : Reps S l xs) (lo hi : Option Int) : Reps S (cutD l lo hi) (cutV xs lo hi) := by
  unfold cutD cutV
  rw [r.len]
  exact (r.drop _).take _
def oNo : Env → Option (Option Int) := fun _ => some none
def oYes (f : Env → Option D) : Env → Option (Option Int) := fun ρ => match f ρ with
  | some (.int i) => some (some i)
  | _ => none
def eSl (f : Env → Option D) (lo hi : Env → Option (Option Int)) : Env → Option D := fun ρ => match f ρ with
  | some (.tup l) => match lo ρ with
    | some a => match hi ρ with
      | some b => some (.tup (cutD l a b))
      | none => none
    | none => none
  | _ => none
def lSl (f : Env → Option D) (lo hi : Env → Option (Option Int)) : Env → Option (List D) := fun ρ => match f ρ with
  | some (.lst l) => match lo ρ with
    | some a => match hi ρ with
      | some b => some (cutD l a b)
      | none => none
    | none => none
  | _ => none
def gRevT : D → Option D
  | .tup l => some (.tup l.reverse)
  | _ => none
def gRevS : D → Option D
  | .str x => gd (Nat.ble x.length 4000) (some (.str (revS x)))
  | _ => none
def lRev (f : Env → Option D) : Env → Option (List D) := fun ρ => match f ρ with
  | some (.lst l) => some l.reverse
  | _ => none
section
variable {T : Tx} {X : Cx} {e : Expr} {f : Env → Option D} {lo hi : Option Expr} {flo fhi : Env → Option (Option Int)} {pos p1 p2 p3 : Pos} {k : Nat}
theorem so_none : SO T X none oNo := poI po_none fun σ H Q ⟨ρ, z, B, S0, S, e, k, q⟩ => by
  cases e
  exact q S H k.rf
theorem so_some {a : Expr} (h : SE T X a f) : SO T X (some a) (oYes f) := poI (po_some h) fun σ H Q ⟨ρ, z, B, S0, S, e, k, q⟩ => by
  unfold oYes at e
  split at e
  · rename_i i hi
    cases e
    exact ⟨ρ, _, B, S0, S, hi, k, fun v S' H' e1 r => ⟨i, r, q S' H' e1⟩⟩
  · cases e
theorem whole_cut (l : List D) (lo hi : Option Int) (h : HT.sIx l.length 0 lo = 0 ∧ HT.sIx l.length l.length hi = l.length) : cutD l lo hi = l := by
  unfold cutD
  rw [h.1, h.2, List.drop_zero, Nat.sub_zero, List.take_length]
theorem se_sl (h : SE T X e f) (hl : SO T X lo flo) (hu : SO T X hi fhi) : SE T X (.Subscript e (.Slice lo hi none p2) pos) (eSl f flo fhi) := peI (pe_slice sl_tupA h hl hu) fun σ H Q ⟨ρ, z, B, S0, S, e, k, q⟩ => by
  unfold eSl at e
  split at e
  · rename_i l hl
    split at e
    · rename_i a ha
      split at e
      · rename_i b hb
        cases e
        refine ⟨ρ, _, B, S0, S, hl, k, fun v S1 H1 e1 r1 => ⟨ρ, a, B, S0, S1, ha, k.ext e1, fun S2 H2 e2 => ⟨ρ, b, B, S0, S2, hb, k.ext (e1.trans e2), fun S3 H3 e3 => ?_⟩⟩⟩
        obtain ⟨p, xs, ev, hp, r⟩ := Rep.mono (e2.trans e3).s r1
        have ee := (e1.trans e2).trans e3
        have hlen := r.len
        refine ⟨p, xs, ev, .inl (.inl (ee.c p _ hp)), fun w => ?_, fun _ o ho => ?_⟩
        · rw [hlen] at w
          rw [whole_cut l a b w] at q
          exact q _ S3 H3 ee ⟨p, xs, rfl, hp, r⟩
        · have e4 := Ext.new (T := T) (o := .tup (cutV xs a b)) ee.c ee.t ho
          exact q _ _ _ (ee.trans e4) ⟨o, _, rfl, upd_same, Reps.mono e4.s (reps_cut r a b)⟩
      · cases e
    · cases e
  · cases e
theorem sl_sl (h : SE T X e f) (hl : SO T X lo flo) (hu : SO T X hi fhi) : SL T X (.Subscript e (.Slice lo hi none p2) pos) (lSl f flo fhi) := peI (pe_slice sl_list h hl hu) fun σ H Q ⟨ρ, z, B, S0, S, e, k, q⟩ => by
  unfold lSl at e
  split at e
  · rename_i l hl
    split at e
    · rename_i a ha
      split at e
      · rename_i b hb
        cases e
        refine ⟨ρ, _, B, S0, S, hl, k, fun v S1 H1 e1 r1 => ⟨ρ, a, B, S0, S1, ha, k.ext e1, fun S2 H2 e2 => ⟨ρ, b, B, S0, S2, hb, k.ext (e1.trans e2), fun S3 H3 e3 => ?_⟩⟩⟩
        obtain ⟨p, xs, ev, hp, r⟩ := Rep.mono (e2.trans e3).s r1
        have ee := (e1.trans e2).trans e3
        refine ⟨p, xs, ev, .inl (.inl (ee.c p _ hp)), fun o ho => ?_⟩
        exact q o _ S3 _ (ee.trans (Ext.newO ee.c ee.t ho)) upd_same (fresh_of ee.c ho) (ee.h.n o ho) (reps_cut r a b)
      · cases e
    · cases e
  · cases e
theorem se_revT (h : SE T X e f) : SE T X (.Subscript e (.Slice none none (some (.UnaryOp .USub (.Constant (.int 1) k p1) p2)) p3) pos) (eUn gRevT f) := peI (pe_revT h) fun σ H Q ⟨ρ, z, B, S0, S, e, k, q⟩ => by
  unfold eUn at e
  split at e
  · rename_i d hd
    unfold gRevT at e
    split at e
    · rename_i l
      cases e
      refine ⟨ρ, _, B, S0, S, hd, k, fun v S1 H1 e1 r1 => ?_⟩
      obtain ⟨p, xs, ev, hp, r⟩ := r1
      refine ⟨p, xs, ev, .inl (.inl (e1.c p _ hp)), fun o ho => ?_⟩
      have e4 := Ext.new (T := T) (o := .tup xs.reverse) e1.c e1.t ho
      exact q _ _ _ (e1.trans e4) ⟨o, _, rfl, upd_same, Reps.mono e4.s r.reverse⟩
    · cases e
  · cases e
theorem se_revS (h : SE T X e f) : SE T X (.Subscript e (.Slice none none (some (.UnaryOp .USub (.Constant (.int 1) k p1) p2)) p3) pos) (eUn gRevS f) := peI (pe_revS h) fun σ H Q ⟨ρ, z, B, S0, S, e, k, q⟩ => by
  unfold eUn at e
  split at e
  · rename_i d hd
    unfold gRevS at e
    split at e
    · rename_i l
      obtain ⟨h1, h2⟩ := gd_some e
      cases h2
      refine ⟨ρ, _, B, S0, S, hd, k, fun v S1 H1 e1 r1 => ⟨l, r1, ?_, q _ S1 H1 e1 rfl⟩⟩
      have h1 := Nat.le_of_ble_eq_true h1
      have : sizeLine = 16777216 := sizeLine_eq
      omega
    · cases e
  · cases e
theorem sl_rev (h : SE T X e f) : SL T X (.Subscript e (.Slice none none (some (.UnaryOp .USub (.Constant (.int 1) k p1) p2)) p3) pos) (lRev f) := peI (pe_revL h) fun σ H Q ⟨ρ, z, B, S0, S, e, k, q⟩ => by
  unfold lRev at e
  split at e
  · rename_i l hl
    cases e
    refine ⟨ρ, _, B, S0, S, hl, k, fun v S1 H1 e1 r1 => ?_⟩
    obtain ⟨p, xs, ev, hp, r⟩ := r1
    refine ⟨p, xs, ev, .inl (.inl (e1.c p _ hp)), fun o ho => ?_⟩
    exact q o _ S1 _ (e1.trans (Ext.newO e1.c e1.t ho)) upd_same (fresh_of e1.c ho) (e1.h.n o ho) r.reverse
  · cases e
end

/-! ### isinstance -/
def tyD : D → String
  | .non => "NoneType"
  | .bl _ => "bool"
  | .int _ => "int"
  | .str _ => "str"
  | .tup _ => "tuple"
  | .lst _ => "list"
  | .adr _ => "?"
def isInt : D → Bool
  | .int _ => true
  | .bl _ => true
  | _ => false
def isBl : D → Bool
  | .bl _ => true
  | _ => false
def isTupD : D → Bool
  | .tup _ => true
  | _ => false
def isStrD : D → Bool
  | .str _ => true
  | _ => false
theorem kit_int (d : D) : (∀ p, d ≠ .adr p) → kitB (tyD d) "int" = some (isInt d) := by
  cases d <;> intro na <;> first | exact absurd rfl (na _) | (simp only [tyD, isInt]; decide +kernel)
theorem kit_bool (d : D) : (∀ p, d ≠ .adr p) → kitB (tyD d) "bool" = some (isBl d) := by
  cases d <;> intro na <;> first | exact absurd rfl (na _) | (simp only [tyD, isBl]; decide +kernel)
theorem kit_tuple (d : D) : (∀ p, d ≠ .adr p) → kitB (tyD d) "tuple" = some (isTupD d) := by
  cases d <;> intro na <;> first | exact absurd rfl (na _) | (simp only [tyD, isTupD]; decide +kernel)
theorem kit_str (d : D) : (∀ p, d ≠ .adr p) → kitB (tyD d) "str" = some (isStrD d) := by
  cases d <;> intro na <;> first | exact absurd rfl (na _) | (simp only [tyD, isStrD]; decide +kernel)
def gIs (k : D → Bool) : D → Option D := fun d => match d with
  | .adr _ => none
  | d => some (.bl (k d))
section
variable {T : Tx} {X : Cx} {a : Expr} {fa : Env → Option D} {pos p p2 : Pos}
theorem tyX_of {K : PySem.W.Frag} {H : Hp} {d : D} {v : V} (r : Rep H d v) (na : ∀ p, d ≠ .adr p) : TyX K H v (.type (tyD d)) := by
  cases d with
  | non => have r : v = .non := r; rw [r]; exact .base .non
  | bl b => have r : v = .bl b := r; rw [r]; exact .base (.bl b)
  | int b => have r : v = .int b := r; rw [r]; exact .base (.int b)
  | str b => have r : v = .str b := r; rw [r]; exact .base (.str b)
  | tup b => obtain ⟨p, xs, r, h, _⟩ := r; rw [r]; exact .base (.tup h)
  | adr b => exact absurd rfl (na b)
  | lst b => obtain ⟨p, xs, r, h, _⟩ := r; rw [r]; exact .base (.lst h)
theorem boot_isi : bootBuiltins "isinstance" = some (.builtin "isinstance") := by decide +kernel
theorem se_isi {ty : String} {x : Str} {kd : D → Bool} (hg : Gl X "isinstance") (hm : X.mg "isinstance" = none) (ha : SE T X a fa) (hg2 : Gl X x) (hm2 : X.mg x = none) (hv : bootBuiltins x = some (.type ty))
    (hk : ∀ d : D, (∀ p, d ≠ .adr p) → kitB (tyD d) ty = some (kd d))
    (hn : x ≠ "__name__" := by decide) (hd : (x == ("__debug__" : Str)) = false := by decide) (he : starEach (a :: [.Name x p2]) X.env = (false, eval a X.env) :: starEach [.Name x p2] X.env := by rfl) (hs : starEach (.Name x p2 :: []) X.env = (false, eval (.Name x p2) X.env) :: starEach [] X.env := by rfl) (hpl : (backTo pos (starEach [.Name x p2] X.env)).any (·.1) = false := by rfl) :
    SE T X (.Call (.Name "isinstance" p) [a, .Name x p2] [] pos) (eUn (gIs kd) fa) :=
  peI (pe_callB call_isi hg hm boot_isi (pa_cons ha (pa_cons (pe_bltn (v := .ty ty) hg2 hm2 hv rfl hn hd) pa_nil hs) he) (by decide) (by decide) he hpl) fun σ H Q ⟨ρ, z, B, S0, S, e, k, q⟩ => by
  unfold eUn at e
  split at e
  · rename_i d hd
    unfold gIs at e
    split at e
    · cases e
    · rename_i na
      cases e
      refine ⟨ρ, d, B, S0, S, hd, k, fun v S1 H1 e1 r1 => ?_⟩
      exact ⟨v, .ty ty, .type (tyD d), .type ty, kd d, rfl, .ty ty, tyX_of (Rep.mono e1.c r1) na, kit_ty (hk d na), q _ S1 H1 e1 rfl⟩
  · cases e
end

/-! ### calls of built-ins with keywords -/
section
variable {T : Tx} {X : Cx} {a : Expr} {fa : Env → Option D} {es : List Expr} {fr fk : Env → Option (List D)} {kws : List Keyword} {pos p : Pos}
abbrev SK (T : Tx) (X : Cx) (e : List Keyword) (f : Env → Option (List D)) : Prop := PK X e (tA T f)
theorem sk_nil : SK T X [] aNil := pkI pk_nil fun σ H Q ⟨ρ, z, B, S0, S, e, k, q⟩ => by
  cases e
  exact q [] S H k.rf rfl
theorem sk_cons {nm : Option Str} {kpos : Pos} (ha : SE T X a fa) (hr : SK T X kws fr) : SK T X (⟨nm, a, kpos⟩ :: kws) (aCons fa fr) := pkI (pk_cons ha hr) fun σ H Q ⟨ρ, z, B, S0, S, e, k, q⟩ => by
  unfold aCons at e
  split at e
  · rename_i x hx
    split at e
    · rename_i r hr
      cases e
      exact ⟨ρ, x, B, S0, S, hx, k, fun v S1 H1 e1 r1 => ⟨ρ, r, B, S0, S1, hr, k.ext e1, fun vs S2 H2 e2 r2 => q (v :: vs) S2 H2 (e1.trans e2) (.cons (Rep.mono e2.s r1) r2)⟩⟩
    · cases e
  · cases e
/-- sorted(xs, reverse=True) -/
def rsort (l : List Int) : List Int := (isort l).reverse
theorem rsort_of {l m : List Int} (p : l.Perm m) (h : l.Pairwise (· ≥ ·)) : l = rsort m := by
  have h1 : l.reverse.Pairwise (· ≤ ·) := by
    rw [List.pairwise_reverse]
    exact h
  have h2 : l.reverse = isort m := sorted_uniq ((List.reverse_perm l).trans (p.trans (isort_perm m).symm)) h1 (isort_pw m)
  unfold rsort
  rw [← h2, List.reverse_reverse]
def lSortR (f : Env → Option D) : Env → Option (List D) := fun ρ => match f ρ with
  | some (.lst l) => match intsOf l with
    | some ns => some ((rsort ns).map D.int)
    | none => none
  | _ => none
theorem boot_sorted' : bootBuiltins "sorted" = some (.builtin "sorted") := by decide +kernel
theorem boot_max' : bootBuiltins "max" = some (.builtin "max") := by decide +kernel
theorem sl_sortR {kk : Nat} {kp kp2 : Pos} (hg : Gl X "sorted") (hm : X.mg "sorted" = none) (ha : SE T X a fa)
    (he : backTo pos (starEach [a] X.env) = (false, eval a X.env) :: backTo pos (starEach [] X.env) := by rfl) (hpl : (backTo pos (starEach [a] X.env)).any (·.1) = false := by rfl)
    (hs : starEach (a :: []) X.env = (false, eval a X.env) :: starEach [] X.env := by rfl) :
    SL T X (.Call (.Name "sorted" p) [a] [⟨some "reverse", .Constant (.bool true) kk kp, kp2⟩] pos) (lSortR fa) :=
  peI (pe_callBK (cr_sortedRev (b := true)) hg hm boot_sorted' (pa_cons ha pa_nil hs) (pk_cons pe_bl pk_nil) (by decide) (by decide) he hpl (by rfl) (by rfl) (by rfl)) fun σ H Q ⟨ρ, z, B, S0, S, e, k, q⟩ => by
  unfold lSortR at e
  split at e
  · rename_i l hl
    split at e
    · rename_i ns hn
      cases e
      refine ⟨ρ, _, B, S0, S, hl, k, fun v S1 H1 e1 r1 => ?_⟩
      obtain ⟨p, xs, ev, hp, r⟩ := r1
      rw [intsOf_eq hn] at r
      rw [r.ints] at hp
      refine ⟨p, ns, by rw [ev], rfl, .inl (.inl (e1.c p _ hp)), fun ns' o h1 h2 ho => ?_⟩
      have h2 : ns'.Pairwise (· ≥ ·) := h2
      rw [rsort_of h1 h2]
      exact q o _ S1 _ (e1.trans (Ext.newO e1.c e1.t ho)) upd_same (fresh_of e1.c ho) (e1.h.n o ho) (.ofInts _)
    · cases e
  · cases e
/-- max(xs, default=d) -/
theorem maxOf_eq : ∀ (r : List Int) (m : Int), PySem.W.maxOf m r = maxL m r
  | [], _ => rfl
  | n :: r, m => by
    have ih := maxOf_eq r (if m < n then n else m)
    unfold maxL
    rw [← ih]
    unfold PySem.W.maxOf
    rw [List.foldl_cons]
    congr 1
    show (if decide (m < n) = true then n else m) = _
    by_cases h : m < n
    · rw [if_pos (decide_eq_true h), if_pos h]
    · rw [if_neg (by rw [decide_eq_false h]; exact Bool.false_ne_true), if_neg h]
def maxD : Int → List Int → Int
  | d, [] => d
  | _, x :: r => maxL x r
theorem cr_maxDef (hc : X.calm = true) (hu : X.A.units + 64 < cLine) : CallRK X (.builtin "max") [Str.ofString "default"] (fun vs zs H Q => ∃ (p : Addr) (ns : List Int) (d : Int), vs = [V.ref p] ∧ zs = [V.int d] ∧ SqL X.K H p (ns.map V.int) ∧ Q (.int (maxD d ns)) H) := by
  intro pins s σ H vs zs us ws Q I r rz h
  obtain ⟨p, ns, d, rfl, rfl, hs, q⟩ := h
  obtain rfl := Vals.ref1 r
  obtain ⟨w1, rfl, t, rfl⟩ := vals1 rz
  obtain ⟨its, rv, hl, hz⟩ := I.list hs
  have hi := rv.ints
  show wpAny _ _ (call (.builtin "max") [.ref p] [(Str.ofString "default", .int d t)]) _ _ _
  refine PySem.W.max_list_datum_default (α := Int) (xs := ns) (I.ok.hd hc) hl.isList (by simpa using PySem.W.HoldAll.of_ints hi) (by show X.A.units + 1 + 0 < cLine; omega) (fun e h' tk hk => ?_) fun y ys i v h' tk e hv hh hk => ?_
  · subst e
    exact ⟨.int d, H, I.kept hk, ⟨_, rfl⟩, q⟩
  · subst e
    have hv' : its[i]? = some v := by simpa using hv
    have : ∃ n t', v = Value.int n t' := SrtO.ints_mem hi v (List.mem_of_getElem? hv')
    obtain ⟨n, t', rfl⟩ := this
    have hn : n = PySem.W.maxOf y ys := by
      obtain ⟨as, rd⟩ := hh
      cases rd
      rfl
    refine ⟨.int n, H, I.kept hk, ⟨_, rfl⟩, ?_⟩
    rw [hn, maxOf_eq]
    exact q
def eMaxDef (f g : Env → Option D) : Env → Option D := fun ρ => match f ρ with
  | some (.lst l) => match g ρ with
    | some (.int d) => match intsOf l with
      | some ns => some (.int (maxD d ns))
      | none => none
    | _ => none
  | _ => none
theorem se_maxDef {b : Expr} {fb : Env → Option D} {kp : Pos} (hc : X.calm = true) (hu : X.A.units + 64 < cLine) (hg : Gl X "max") (hm : X.mg "max" = none) (ha : SE T X a fa) (hb : SE T X b fb)
    (he : backTo pos (starEach [a] X.env) = (false, eval a X.env) :: backTo pos (starEach [] X.env) := by rfl) (hpl : (backTo pos (starEach [a] X.env)).any (·.1) = false := by rfl)
    (hs : starEach (a :: []) X.env = (false, eval a X.env) :: starEach [] X.env := by rfl) :
    SE T X (.Call (.Name "max" p) [a] [⟨some "default", b, kp⟩] pos) (eMaxDef fa fb) :=
  peI (pe_callBK (cr_maxDef hc hu) hg hm boot_max' (pa_cons ha pa_nil hs) (pk_cons hb pk_nil) (by decide) (by decide) he hpl (by rfl) (by rfl) (by rfl)) fun σ H Q ⟨ρ, z, B, S0, S, e, k, q⟩ => by
  unfold eMaxDef at e
  split at e
  · rename_i l hl
    split at e
    · rename_i d hd
      split at e
      · rename_i ns hn
        cases e
        refine ⟨ρ, _, B, S0, S, hl, k, fun v S1 H1 e1 r1 => ⟨ρ, _, B, S0, S1, hd, k.ext e1, fun u S2 H2 e2 r2 => ?_⟩⟩
        obtain ⟨p, xs, ev, hp, r⟩ := Rep.mono e2.s r1
        rw [intsOf_eq hn] at r
        rw [r.ints] at hp
        have r2 : u = .int d := r2
        exact ⟨p, ns, d, by rw [ev], by rw [r2], .inl (.inl (e2.c p _ hp)), q _ S2 H2 (e1.trans e2) rfl⟩
      · cases e
    · cases e
  · cases e
/-- ''.join(xs) -/
def catS (ys : List Str) : Str := ⟨(ys.flatMap fun y => y.cps.toList).toArray⟩
theorem join_empty (ys : List Str) : Txt.join ⟨#[]⟩ ys = catS ys := by
  unfold Txt.join Builtin.Str.glued catS
  cases ys with
  | nil => rfl
  | cons y r =>
    have h : ∀ (r : List Str) (acc : Array Nat), r.foldl (fun acc p => acc ++ (#[] : Array Nat) ++ p.cps) acc = acc ++ (r.flatMap fun y => y.cps.toList).toArray := by
      intro r
      induction r with
      | nil => intro acc; simp
      | cons z r ih =>
        intro acc
        rw [List.foldl_cons, ih, List.flatMap_cons]
        obtain ⟨⟨zl⟩⟩ := z
        simp
    show Str.mk ((r.foldl (fun acc p => acc ++ (#[] : Array Nat) ++ p.cps) y.cps)) = _
    rw [h, List.flatMap_cons]
    obtain ⟨⟨yl⟩⟩ := y
    simp
def gJoin : D → Option D
  | .lst l => match strsOf l with
    | some ys => gd (Nat.ble (ys.map (·.length)).sum 4000) (some (.str (catS ys)))
    | none => none
  | _ => none
theorem se_join {apos : Pos} {k : Nat} {p0 : Pos} {z : Str} (hz : z = ⟨#[]⟩) (ha : SE T X a fa) (hs : starEach [a] X.env = [(false, eval a X.env)] := by rfl) (hline : (apos.endLine == pos.line) = true := by rfl) :
    SE T X (.Call (.Attribute (.Constant (.str z) k p0) "join" apos) [a] [] pos) (eUn gJoin fa) :=
  peI (pe_join (pe_str (x := z)) ha hs (by rfl) hline) fun σ H Q ⟨ρ, d, B, S0, S, e, k, q⟩ => by
  unfold eUn at e
  split at e
  · rename_i l hl
    unfold gJoin at e
    split at e
    · rename_i l'
      split at e
      · rename_i ys hy
        obtain ⟨h1, h2⟩ := gd_some e
        cases h2
        refine ⟨⟨_, rfl⟩, ρ, _, B, S0, S, hl, k, fun v S1 H1 e1 r1 => ?_⟩
        obtain ⟨p, xs, ev, hp, r⟩ := r1
        rw [strsOf_reps hy r] at hp
        have h1 := Nat.le_of_ble_eq_true h1
        refine ⟨z, p, ys, rfl, by rw [ev], .inl (.inl (.inl (e1.c p _ hp))), ?_, ?_⟩
        · rw [hz]
          show _ + ys.length * 0 ≤ _
          omega
        · rw [hz, join_empty]
          exact q _ S1 H1 e1 rfl
      · cases e
    · cases e
  · cases e
end
end DL

set_option Elab.async false
set_option linter.all false
set_option maxRecDepth 100000
set_option maxHeartbeats 2000000
namespace DL
open PySem PySem.Spec PyProof.Rows L2 LamX NdefX

/-! ### statements by data -/
inductive Out where
  | nx (ρ : Env)
  | rt (d : D)
  | bk (ρ : Env)
  | ct (ρ : Env)
def Post (T : Tx) (B S0 : Hp) (D : Ends) : Out → Prop
  | .nx ρ => ∀ S' H' σ', Ok T B S0 S' H' σ' ρ → D.nx σ' H'
  | .bk ρ => ∀ S' H' σ', Ok T B S0 S' H' σ' ρ → D.bk σ' H'
  | .ct ρ => ∀ S' H' σ', Ok T B S0 S' H' σ' ρ → D.ct σ' H'
  | .rt d => ∀ v S' H', Ext T S0 B S' H' → Rep S' d v → D.rt v H'
def tS (T : Tx) (g : Env → Option Out) : TS := fun D σ H => ∃ ρ o B S0 S, g ρ = some o ∧ Ok T B S0 S H σ ρ ∧ Post T B S0 D o
abbrev SS (T : Tx) (X : Cx) (st : Stmt) (g : Env → Option Out) : Prop := PS X st (tS T g)
abbrev SSs (T : Tx) (X : Cx) (sts : List Stmt) (g : Env → Option Out) : Prop := PSs X sts (tS T g)

def cNext : Env → Option Out := fun ρ => some (.nx ρ)
def cNo : Env → Option Out := fun _ => none
def cSeq (g1 g2 : Env → Option Out) : Env → Option Out := fun ρ => match g1 ρ with
  | some (.nx ρ') => g2 ρ'
  | some (.rt d) => some (.rt d)
  | some (.bk ρ') => some (.bk ρ')
  | some (.ct ρ') => some (.ct ρ')
  | none => none
def cSet (i : Nat) (f : Env → Option D) : Env → Option Out := fun ρ => match f ρ with
  | some d => some (.nx (ρ.set i (.pu d)))
  | none => none
def cNew (i : Nat) (f : Env → Option (List D)) : Env → Option Out := fun ρ => match f ρ with
  | some d => some (.nx (ρ.set i (.ow d)))
  | none => none
def cUnp (i j : Nat) (f : Env → Option D) : Env → Option Out := fun ρ => match f ρ with
  | some (.tup [a, b]) => some (.nx ((ρ.set i (.pu a)).set j (.pu b)))
  | _ => none
def cAug (i : Nat) (f : Env → Option D) : Env → Option Out := fun ρ => match ρ[i]? with
  | some (.pu (.int a)) => match f ρ with
    | some (.int b) => some (.nx (ρ.set i (.pu (.int (a + b)))))
    | _ => none
  | _ => none
def cIf (c : Env → Option Bool) (g1 g2 : Env → Option Out) : Env → Option Out := fun ρ => match c ρ with
  | some true => g1 ρ
  | some false => g2 ρ
  | none => none
def cRet (f : Env → Option D) : Env → Option Out := fun ρ => match f ρ with
  | some d => some (.rt d)
  | none => none
def cBrk : Env → Option Out := fun ρ => some (.bk ρ)
def cCnt : Env → Option Out := fun ρ => some (.ct ρ)
/-- one's own list at i is fixed before g -/
def cFrz (i : Nat) (g : Env → Option Out) : Env → Option Out := fun ρ => match ρ[i]? with
  | some (.ow l) => g (ρ.set i (.pu (.lst l)))
  | _ => none
def cApp (i : Nat) (f : Env → Option D) : Env → Option Out := fun ρ => match f ρ with
  | some d => match ρ[i]? with
    | some (.ow l) => gd (szOk l) (some (.nx (ρ.set i (.ow (l ++ [d])))))
    | _ => none
  | none => none
/-- the last item and the rest -/
def lastOf : List D → Option (D × List D)
  | [] => none
  | [x] => some (x, [])
  | x :: r => match lastOf r with
    | some (y, l) => some (y, x :: l)
    | none => none
theorem lastOf_eq : ∀ {l : List D} {d : D} {r : List D}, lastOf l = some (d, r) → l[l.length - 1]? = some d ∧ l.dropLast = r
  | [x], d, r, h => by
    cases h
    exact ⟨rfl, rfl⟩
  | x :: y :: l, d, r, h => by
    unfold lastOf at h
    split at h
    · rename_i z q hz
      cases h
      obtain ⟨h1, h2⟩ := lastOf_eq hz
      refine ⟨?_, ?_⟩
      · show (x :: y :: l)[l.length + 1]? = some _
        exact h1
      · rw [List.dropLast_cons_cons, h2]
    · cases h
def cPop (i : Nat) : Env → Option Out := fun ρ => match ρ[i]? with
  | some (.ow l) => match lastOf l with
    | some (_, r) => some (.nx (ρ.set i (.ow r)))
    | none => none
  | _ => none
/-- x_j = x_i.pop() -/
def cSetPop (j i : Nat) : Env → Option Out := fun ρ => match ρ[i]? with
  | some (.ow l) => match lastOf l with
    | some (d, r) => some (.nx ((ρ.set i (.ow r)).set j (.pu d)))
    | none => none
  | _ => none
/-- x_i[..] = .. -/
def cSetIx (i : Nat) (fi f : Env → Option D) : Env → Option Out := fun ρ => match f ρ with
  | some d => match fi ρ with
    | some (.int (.ofNat n)) => match ρ[i]? with
      | some (.ow l) => gd (Nat.blt n l.length) (some (.nx (ρ.set i (.ow (l.set n d)))))
      | _ => none
    | _ => none
  | none => none
def eIxOw (i : Nat) (fb : Env → Option D) : Env → Option D := fun ρ => match ρ[i]? with
  | some (.ow l) => match fb ρ with
    | some (.int k) => atD l k
    | _ => none
  | _ => none
def eLenOw (i : Nat) : Env → Option D := fun ρ => match ρ[i]? with
  | some (.ow l) => some (.int l.length)
  | _ => none

section
variable {T : Tx} {X : Cx} {st : Stmt} {rest : List Stmt} {g g1 g2 : Env → Option Out} {e : Expr} {f : Env → Option D} {pos pos' : Pos}
theorem ss_nil : SSs T X [] cNext := pssI pss_nil fun D σ H ⟨ρ, o, B, S0, S, e, k, q⟩ => by
  cases e
  exact q S H σ k
theorem ss_never : SS T X st cNo := psI ps_never fun D σ H ⟨ρ, o, B, S0, S, e, k, q⟩ => by cases e
theorem sss_never {sts : List Stmt} : SSs T X sts cNo := pssI pss_never fun D σ H ⟨ρ, o, B, S0, S, e, k, q⟩ => by cases e
theorem ss_cons (h1 : SS T X st g1) (h2 : SSs T X rest g2) : SSs T X (st :: rest) (cSeq g1 g2) := pssI (pss_cons h1 h2) fun D σ H ⟨ρ, o, B, S0, S, e, k, q⟩ => by
  unfold cSeq at e
  split at e
  · rename_i ρ' h
    exact ⟨ρ, _, B, S0, S, h, k, fun S' H' σ' k' => ⟨ρ', o, B, S0, S', e, k', q⟩⟩
  · rename_i d h
    cases e
    exact ⟨ρ, _, B, S0, S, h, k, q⟩
  · rename_i d h
    cases e
    exact ⟨ρ, _, B, S0, S, h, k, q⟩
  · rename_i d h
    cases e
    exact ⟨ρ, _, B, S0, S, h, k, q⟩
  · cases e
theorem ss_one (h1 : SS T X st g) : SSs T X [st] g := pss_one h1
theorem ss_brk : SS T X (.Break pos) cBrk := psI ps_break fun D σ H ⟨ρ, o, B, S0, S, e, k, q⟩ => by
  cases e
  exact q S H σ k
theorem ss_cnt : SS T X (.Continue pos) cCnt := psI ps_continue fun D σ H ⟨ρ, o, B, S0, S, e, k, q⟩ => by
  cases e
  exact q S H σ k
theorem asg_of {i : Nat} {D : Ends} {σ : L2.St} {H : Hp} (h : tS T (cSet i f) D σ H) : tAsg (tD T f) (gName i) D σ H := by
  obtain ⟨ρ, o, B, S0, S, e, k, q⟩ := h
  unfold cSet at e
  split at e
  · rename_i d hd
    cases e
    exact ⟨ρ, d, B, S0, S, hd, k, fun v S' H' e1 r => q S' H' _ ((k.ext e1).set r)⟩
  · cases e
theorem asgL_of {i : Nat} {fl : Env → Option (List D)} {D : Ends} {σ : L2.St} {H : Hp} (h : tS T (cNew i fl) D σ H) : tAsg (tL T fl) (gName i) D σ H := by
  obtain ⟨ρ, o, B, S0, S, e, k, q⟩ := h
  unfold cNew at e
  split at e
  · rename_i d hd
    cases e
    exact ⟨ρ, d, B, S0, S, hd, k, fun p xs S' H' e1 h1 h2 h3 r => q S' H' _ (k.own e1 h1 h2 h3 r)⟩
  · cases e
theorem ss_set {i : Nat} {x : Str} (hN : X.N.Nodup) (hi : X.N[i]? = some x) (hx : Loc X.env.scope x) (he : SE T X e f) (hs : swapsWith e (some (.Name x pos')) pos.line X.env = pure false := by rfl) (hf : X.fn x = true ∨ X.env.scope.names.lookup x = some .local := by first | exact .inl rfl | exact .inr rfl | assumption) :
    SS T X (.Assign [.Name x pos'] e pos) (cSet i f) := psI (ps_set hN hi hx he hs hf) fun D σ H h => asg_of h
theorem ss_new {i : Nat} {x : Str} {fl : Env → Option (List D)} (hN : X.N.Nodup) (hi : X.N[i]? = some x) (hx : Loc X.env.scope x) (he : SL T X e fl) (hs : swapsWith e (some (.Name x pos')) pos.line X.env = pure false := by rfl) (hf : X.fn x = true ∨ X.env.scope.names.lookup x = some .local := by first | exact .inl rfl | exact .inr rfl | assumption) :
    SS T X (.Assign [.Name x pos'] e pos) (cNew i fl) := psI (ps_set hN hi hx he hs hf) fun D σ H h => asgL_of h
theorem ss_unp {i j : Nat} {x y : Str} {kt : Nat} {px py pt : Pos} (hc : X.calm = true) (hN : X.N.Nodup) (hi : X.N[i]? = some x) (hj : X.N[j]? = some y) (hx : Loc X.env.scope x) (hy : Loc X.env.scope y) (he : SE T X e f)
    (hs : swapsWithSole [.Tuple [.Name x px, .Name y py] kt pt] e pos.line X.env = pure false := by rfl) (hw : swappedStores [.Tuple [.Name x px, .Name y py] kt pt] e X.env = pure none := by rfl)
    (h1 : (assignEach [.Tuple [.Name x px, .Name y py] kt pt] X.env).map (·.2) = [assign (.Tuple [.Name x px, .Name y py] kt pt) X.env] := by rfl)
    (hn : (assignEach [.Name x px, .Name y py] X.env).length = 2 := by rfl) (hst : (assignEach [.Name x px, .Name y py] X.env).findIdx? (·.1) = none := by rfl)
    (h2 : (assignEach [.Name x px, .Name y py] X.env).map (·.2) = assign (.Name x px) X.env :: (assignEach [.Name y py] X.env).map (·.2) := by rfl) (h3 : (assignEach [.Name y py] X.env).map (·.2) = assign (.Name y py) X.env :: (assignEach [] X.env).map (·.2) := by rfl)
    (hf : X.fn x = true ∨ X.env.scope.names.lookup x = some .local := by first | exact .inl rfl | exact .inr rfl | assumption) (hf2 : X.fn y = true ∨ X.env.scope.names.lookup y = some .local := by first | exact .inl rfl | exact .inr rfl | assumption) :
    SS T X (.Assign [.Tuple [.Name x px, .Name y py] kt pt] e pos) (cUnp i j f) :=
  psI (ps_asg he (pg_tup hc (pgs_cons (pg_name (i := i) hN hi hx hf) (pgs_cons (pg_name (i := j) hN hj hy hf2) pgs_nil h3) h2) hn hst) hs hw h1) fun D σ H ⟨ρ, o, B, S0, S, e, k, q⟩ => by
  unfold cUnp at e
  split at e
  · rename_i a b hd
    cases e
    refine ⟨ρ, _, B, S0, S, hd, k, fun v S' H' e1 r => ?_⟩
    obtain ⟨p, xs, ev, hp, r⟩ := r
    obtain ⟨x1, x2, ex, r1, r2⟩ := reps2 r
    refine ⟨p, xs, ev, .inl (.inl (e1.c p _ hp)), by rw [ex] <;> rfl, x1, [x2], ex, x2, [], rfl, rfl, ?_⟩
    exact q S' H' _ (((k.ext e1).set r1).set r2)
  · cases e
theorem ss_aug {i : Nat} {x : Str} (hN : X.N.Nodup) (hi : X.N[i]? = some x) (hx : Loc X.env.scope x) (he : SE T X e f) (hf : X.fn x = true ∨ X.env.scope.names.lookup x = some .local := by first | exact .inl rfl | exact .inr rfl | assumption) :
    SS T X (.AugAssign (.Name x pos') .Add e pos) (cAug i f) := psI (ps_aug hN hi hx he ip_add hf) fun D σ H ⟨ρ, o, B, S0, S, e, k, q⟩ => by
  unfold cAug at e
  split at e
  · rename_i a ha
    split at e
    · rename_i b hb
      cases e
      obtain ⟨v, e1, r1⟩ := k.pu ha
      have r1 : v = .int a := r1
      refine ⟨v, e1, ρ, _, B, S0, S, hb, k, fun u S' H' e2 r2 => ⟨a, b, r1, r2, q S' H' _ ((k.ext e2).set rfl)⟩⟩
    · cases e
  · cases e
theorem ss_if {c : Expr} {fc : Env → Option Bool} {a b : List Stmt} (hc : ST T X c fc) (ha : SSs T X a g1) (hb : SSs T X b g2) : SS T X (.If c a b pos) (cIf fc g1 g2) := psI (ps_if hc ha hb) fun D σ H ⟨ρ, o, B, S0, S, e, k, q⟩ => by
  unfold cIf at e
  split at e
  · rename_i hb
    refine ⟨ρ, _, B, S0, S, hb, k, fun S' H' e1 => ?_⟩
    dsimp only
    rw [if_pos rfl]
    exact ⟨ρ, o, B, S0, S', e, k.ext e1, q⟩
  · rename_i hb
    refine ⟨ρ, _, B, S0, S, hb, k, fun S' H' e1 => ?_⟩
    dsimp only
    rw [if_neg Bool.false_ne_true]
    exact ⟨ρ, o, B, S0, S', e, k.ext e1, q⟩
  · cases e
theorem ss_ret (he : SE T X e f) : SS T X (.Return (some e) pos) (cRet f) := psI (ps_ret he) fun D σ H ⟨ρ, o, B, S0, S, e, k, q⟩ => by
  unfold cRet at e
  split at e
  · rename_i d hd
    cases e
    exact ⟨ρ, d, B, S0, S, hd, k, fun v S' H' e1 r => q v S' H' (k.ext e1).e r⟩
  · cases e
theorem ss_frz {i : Nat} (h : SS T X st g) : SS T X st (cFrz i g) := psI h fun D σ H ⟨ρ, o, B, S0, S, e, k, q⟩ => by
  unfold cFrz at e
  split at e
  · rename_i l hl
    obtain ⟨S', k'⟩ := k.frz hl
    exact ⟨_, o, B, S0, S', e, k', q⟩
  · cases e
theorem sss_frz {i : Nat} {sts : List Stmt} (h : SSs T X sts g) : SSs T X sts (cFrz i g) := pssI h fun D σ H ⟨ρ, o, B, S0, S, e, k, q⟩ => by
  unfold cFrz at e
  split at e
  · rename_i l hl
    obtain ⟨S', k'⟩ := k.frz hl
    exact ⟨_, o, B, S0, S', e, k', q⟩
  · cases e
/-! own lists -/
variable {i : Nat} {x : Str} {apos px : Pos}
theorem ss_app (hN : X.N[i]? = some x) (hv : Vis X.env.scope x) (he : SE T X e f) (hd : (x == ("__debug__" : Str)) = false := by decide) (hcd : (x == ("__classdict__" : Str)) = false := by decide)
    (hbase : attributeBase (.Name x px) "append" X.env (eval (.Name x px) X.env) = eval (.Name x px) X.env := by rfl)
    (hfew : ((backTo pos' (starEach [e] X.env)).all (fun x => !x.1) && (backToKw pos' (keywordEach [] X.env)).all (fun x => x.1.isSome)
      && decide ([e].length + ([] : List Keyword).length + (if ([] : List Keyword).isEmpty then 0 else 1) < 30)) = true := by rfl)
    (hline : (apos.endLine == pos'.line) = true := by rfl) (hs : starEach (e :: []) X.env = (false, eval e X.env) :: starEach [] X.env := by rfl) (hplain : (backTo pos' (starEach [] X.env)).any (·.1) = false := by rfl)
    (hsw : swapsWith (.Call (.Attribute (.Name x px) "append" apos) [e] [] pos') none pos.line X.env = pure false := by rfl) :
    SS T X (.Expr (.Call (.Attribute (.Name x px) "append" apos) [e] [] pos') pos) (cApp i f) :=
  psI (ps_expr (pe_bm PySem.F.plainAttrs_list PySem.F.slot_list_append PySem.F.type_list_append mt_append (pe_var (i := i) hN hv hd hcd) (pa_cons he pa_nil hs) hbase hfew hline hs hplain) hsw) fun D σ H ⟨ρ, o, B, S0, S, e, k, q⟩ => by
  unfold cApp at e
  split at e
  · rename_i d hd
    split at e
    · rename_i l hl
      obtain ⟨h1, h2⟩ := gd_some e
      cases h2
      obtain ⟨p, xs, e', h3, h4, h5, r⟩ := k.ow hl
      refine ⟨.ref p, e', .inl ⟨rfl, xs, .inl (.inl h3)⟩, ρ, d, B, S0, S, hd, k, fun v S' H' e1 r1 => ⟨p, xs, v, rfl, rfl, e1.h.lst h3 (k.e.no h5), by rw [r.len]; exact szOk_lt h1, ?_⟩⟩
      exact q S' _ σ ((k.ext e1).write hl e' ((Reps.mono e1.s r).append (.one r1)))
    · cases e
  · cases e
theorem ss_pop (hN : X.N[i]? = some x) (hv : Vis X.env.scope x) (hd : (x == ("__debug__" : Str)) = false := by decide) (hcd : (x == ("__classdict__" : Str)) = false := by decide)
    (hbase : attributeBase (.Name x px) "pop" X.env (eval (.Name x px) X.env) = eval (.Name x px) X.env := by rfl) (hline : (apos.endLine == pos'.line) = true := by rfl)
    (hsw : swapsWith (.Call (.Attribute (.Name x px) "pop" apos) [] [] pos') none pos.line X.env = pure false := by rfl) :
    SS T X (.Expr (.Call (.Attribute (.Name x px) "pop" apos) [] [] pos') pos) (cPop i) :=
  psI (ps_expr (pe_bm0 PySem.F.plainAttrs_list PySem.F.slot_list_pop PySem.F.type_list_pop mt_pop (pe_var (i := i) hN hv hd hcd) hbase hline) hsw) fun D σ H ⟨ρ, o, B, S0, S, e, k, q⟩ => by
  unfold cPop at e
  split at e
  · rename_i l hl
    split at e
    · rename_i d rr hr
      cases e
      obtain ⟨p, xs, e', h3, h4, h5, r⟩ := k.ow hl
      obtain ⟨l1, l2⟩ := lastOf_eq hr
      obtain ⟨y, e2, r2⟩ := r.get l1
      refine ⟨.ref p, e', .inl ⟨rfl, xs, .inl (.inl h3)⟩, p, xs, y, rfl, rfl, h3, by rw [r.len]; exact e2, ?_⟩
      exact q S _ σ (k.write hl e' (by rw [← l2]; exact r.dropLast))
    · cases e
  · cases e
theorem ss_setPop {j : Nat} {y : Str} {py : Pos} (hNd : X.N.Nodup) (hj : X.N[j]? = some y) (hy : Loc X.env.scope y) (hN : X.N[i]? = some x) (hv : Vis X.env.scope x) (hd : (x == ("__debug__" : Str)) = false := by decide) (hcd : (x == ("__classdict__" : Str)) = false := by decide)
    (hbase : attributeBase (.Name x px) "pop" X.env (eval (.Name x px) X.env) = eval (.Name x px) X.env := by rfl) (hline : (apos.endLine == pos'.line) = true := by rfl)
    (hsw : swapsWith (.Call (.Attribute (.Name x px) "pop" apos) [] [] pos') (some (.Name y py)) pos.line X.env = pure false := by rfl) (hf : X.fn y = true ∨ X.env.scope.names.lookup y = some .local := by first | exact .inl rfl | exact .inr rfl | assumption) :
    SS T X (.Assign [.Name y py] (.Call (.Attribute (.Name x px) "pop" apos) [] [] pos') pos) (cSetPop j i) :=
  psI (ps_set hNd hj hy (pe_bm0 PySem.F.plainAttrs_list PySem.F.slot_list_pop PySem.F.type_list_pop mt_pop (pe_var (i := i) hN hv hd hcd) hbase hline) hsw hf) fun D σ H ⟨ρ, o, B, S0, S, e, k, q⟩ => by
  unfold cSetPop at e
  split at e
  · rename_i l hl
    split at e
    · rename_i d rr hr
      cases e
      obtain ⟨p, xs, e', h3, h4, h5, r⟩ := k.ow hl
      obtain ⟨l1, l2⟩ := lastOf_eq hr
      obtain ⟨y, e2, r2⟩ := r.get l1
      refine ⟨.ref p, e', .inl ⟨rfl, xs, .inl (.inl h3)⟩, p, xs, y, rfl, rfl, h3, by rw [r.len]; exact e2, ?_⟩
      exact q S _ _ ((k.write hl e' (by rw [← l2]; exact r.dropLast)).set r2)
    · cases e
  · cases e
theorem ixN_of {n j : Nat} (hj : j < n) : ixN n (Int.ofNat j) = some j := by
  show ixN n ((j : Nat) : Int) = some j
  unfold ixN
  rw [if_pos (Int.natCast_nonneg j), if_pos (by omega)]
  rfl
theorem ss_setIx {ei : Expr} {fi : Env → Option D} {spos : Pos} (hN : X.N[i]? = some x) (hv : Vis X.env.scope x) (hi : SE T X ei fi) (he : SE T X e f) (hd : (x == ("__debug__" : Str)) = false := by decide) (hcd : (x == ("__classdict__" : Str)) = false := by decide)
    (ha : ∀ v, assign (.Subscript (.Name x px) ei spos) X.env v = (do
      let ov ← holding [v] (eval (.Name x px) X.env)
      let iv ← holding [v, ov] (eval ei X.env)
      standAt spos
      holding [v, ov, iv] (setItem ov iv v)
      release [v, ov, iv] []) := by intro _; rfl)
    (hs : swapsWithSole [.Subscript (.Name x px) ei spos] e pos.line X.env = pure false := by rfl) (hw : swappedStores [.Subscript (.Name x px) ei spos] e X.env = pure none := by rfl)
    (h1 : (assignEach [.Subscript (.Name x px) ei spos] X.env).map (·.2) = [assign (.Subscript (.Name x px) ei spos) X.env] := by rfl) :
    SS T X (.Assign [.Subscript (.Name x px) ei spos] e pos) (cSetIx i fi f) :=
  psI (ps_asg he (pg_sub (pe_var (i := i) hN hv hd hcd) hi set_list ha) hs hw h1) fun D σ H ⟨ρ, o, B, S0, S, e, k, q⟩ => by
  unfold cSetIx at e
  split at e
  · rename_i d hd
    split at e
    · rename_i n hn
      split at e
      · rename_i l hl
        obtain ⟨h1, h2⟩ := gd_some e
        cases h2
        have h1 : n < l.length := by simpa using h1
        obtain ⟨p, xs, e', h3, h4, h5, r⟩ := k.ow hl
        refine ⟨ρ, d, B, S0, S, hd, k, fun v S' H' e1 r1 => ⟨.ref p, e', ρ, _, B, S0, S', hn, k.ext e1, fun u S2 H2 e2 r2 => ?_⟩⟩
        refine ⟨p, xs, _, n, rfl, r2, (e1.trans e2).h.lst h3 (k.e.no h5), ixN_of (by rw [r.len]; exact h1), ?_⟩
        exact q S2 _ σ ((k.ext (e1.trans e2)).write hl e' ((Reps.mono (e1.trans e2).s r).set n (Rep.mono e2.s r1)))
      · cases e
    · cases e
  · cases e
theorem se_ixOw {b : Expr} {fb : Env → Option D} (hN : X.N[i]? = some x) (hv : Vis X.env.scope x) (hb : SE T X b fb) (hs : PlainIx b := by exact fun _ _ => rfl) (hd : (x == ("__debug__" : Str)) = false := by decide) (hcd : (x == ("__classdict__" : Str)) = false := by decide) :
    SE T X (.Subscript (.Name x px) b pos) (eIxOw i fb) := peI (pe_ix ix_list (pe_var (i := i) hN hv hd hcd) hb hs) fun σ H Q ⟨ρ, z, B, S0, S, e, k, q⟩ => by
  unfold eIxOw at e
  split at e
  · rename_i l hl
    split at e
    · rename_i n hn
      obtain ⟨p, xs, e', h3, h4, h5, r⟩ := k.ow hl
      refine ⟨.ref p, e', ρ, _, B, S0, S, hn, k, fun u S1 H1 e1 r1 => ?_⟩
      obtain ⟨v, e2, r2⟩ := atD_atI (Reps.mono e1.s r) e
      exact ⟨p, xs, n, v, rfl, r1, .inl (.inl (e1.h.lst h3 (k.e.no h5))), e2, q v S1 H1 e1 r2⟩
    · cases e
  · cases e
theorem se_lenOw {p : Pos} (hg : Gl X "len") (hm : X.mg "len" = none) (hN : X.N[i]? = some x) (hv : Vis X.env.scope x) (hd : (x == ("__debug__" : Str)) = false := by decide) (hcd : (x == ("__classdict__" : Str)) = false := by decide)
    (he : starEach [.Name x px] X.env = (false, eval (.Name x px) X.env) :: starEach [] X.env := by rfl) (hpl : (backTo pos (starEach [] X.env)).any (·.1) = false := by rfl) :
    SE T X (.Call (.Name "len" p) [.Name x px] [] pos) (eLenOw i) := peI (pe_callB call_len_seq hg hm PySem.boot_len (pa_cons (pe_var (i := i) hN hv hd hcd) pa_nil he) (by decide) (by decide) he hpl) fun σ H Q ⟨ρ, z, B, S0, S, e, k, q⟩ => by
  unfold eLenOw at e
  split at e
  · rename_i l hl
    cases e
    obtain ⟨p, xs, e', h3, h4, h5, r⟩ := k.ow hl
    refine ⟨.ref p, e', p, xs, rfl, .inl (.inl (.inl h3)), ?_⟩
    rw [r.len]
    exact q _ S H k.rf rfl
  · cases e
end
end DL

set_option Elab.async false
set_option linter.all false
set_option maxRecDepth 100000
set_option maxHeartbeats 2000000
namespace DL
open PySem PySem.Spec PyProof.Rows L2 LamX NdefX

/-! ### targets -/
inductive Tg where
  | one (i : Nat)
  | two (i j : Nat)
def put2 (i j : Nat) (ρ : Env) : D → Option Env
  | .tup [a, b] => some ((ρ.set i (.pu a)).set j (.pu b))
  | _ => none
theorem put2_some {i j : Nat} {ρ ρ' : Env} {d : D} (h : put2 i j ρ d = some ρ') : ∃ a b, d = .tup [a, b] ∧ ρ' = (ρ.set i (.pu a)).set j (.pu b) := by
  unfold put2 at h
  split at h
  · cases h
    exact ⟨_, _, rfl, rfl⟩
  · cases h
def Tg.put (t : Tg) (d : D) (ρ : Env) : Option Env := match t with
  | .one i => some (ρ.set i (.pu d))
  | .two i j => put2 i j ρ d
def Tg.slots : Tg → List Nat
  | .one i => [i]
  | .two i j => [i, j]
def gTg (K : PySem.W.Frag) : Tg → TG
  | .one i => gName i
  | .two i j => gTup K 2 (gCons (gName i) (gCons (gName j) gNil))
abbrev SG (X : Cx) (tg : Expr) (t : Tg) : Prop := PG X tg (gTg X.K t)
theorem wipe_set {σ : L2.St} {i : Nat} {x : Option V} : ∀ {vs : List Nat}, i ∈ vs → wipe (σ.set i x) vs = wipe σ vs
  | [], h => absurd h (by simp)
  | v :: vs, h => by
    unfold wipe
    by_cases e : i ∈ vs
    · rw [wipe_set e]
    · have e2 : v = i := by
        rcases List.mem_cons.mp h with z | z
        · exact z.symm
        · exact absurd z e
      subst e2
      have : ∀ (us : List Nat), v ∉ us → wipe (σ.set v x) us = (wipe σ us).set v x := by
        intro us
        induction us with
        | nil => intro _; rfl
        | cons u us ih =>
          intro hu
          unfold wipe
          rw [ih (fun z => hu (List.mem_cons_of_mem _ z))]
          rw [List.set_comm _ _ (fun z : u = v => hu (by rw [z]; exact List.mem_cons_self))]
      rw [this vs e, List.set_set]
theorem tg_ok {T : Tx} {B S0 S H : Hp} {σ : L2.St} {ρ ρ' : Env} {K : PySem.W.Frag} {t : Tg} {d : D} {v : V} (h : t.put d ρ = some ρ') (r : Rep S d v) (k : Ok T B S0 S H σ ρ) :
    ∃ σ', Ok T B S0 S H σ' ρ' ∧ (∀ Q : L2.St → Hp → Prop, Q σ' H → gTg K t v σ H Q) ∧ ∀ vs, (∀ i ∈ t.slots, i ∈ vs) → wipe σ' vs = wipe σ vs := by
  cases t with
  | one i =>
    cases h
    exact ⟨_, k.set r, fun Q q => q, fun vs hv => wipe_set (hv i (by simp [Tg.slots]))⟩
  | two i j =>
    obtain ⟨a, b, e1, e2⟩ := put2_some h
    subst e1 e2
    obtain ⟨p, xs, ev, hp, r⟩ := r
    obtain ⟨x1, x2, ex, r1, r2⟩ := reps2 r
    refine ⟨_, (k.set r1).set r2, fun Q q => ⟨p, xs, ev, .inl (.inl (k.c p _ hp)), by rw [ex] <;> rfl, x1, [x2], ex, x2, [], rfl, rfl, q⟩, fun vs hv => ?_⟩
    rw [wipe_set (hv j (by simp [Tg.slots])), wipe_set (hv i (by simp [Tg.slots]))]

/-! ### what is walked -/
def Wk (T : Tx) (J : It) (S1 : Hp) (ds : List D) : Prop := ∀ (i : Nat) (S2 H2 : Hp), Same S1 S2 → Same S2 H2 → Tb T H2 →
  (∀ d, ds[i]? = some d → J.go i H2 ∧ ∀ x H3, J.yld i H2 x H3 → ∃ S3, Ext T S2 H2 S3 H3 ∧ Rep S3 d x) ∧ (ds.length ≤ i → J.stop i H2)
def tI (T : Tx) (f : Env → Option (List D)) : TI := fun σ H R => ∃ ρ ds B S0 S, f ρ = some ds ∧ Ok T B S0 S H σ ρ ∧ ∀ J S1 H1, Ext T S H S1 H1 → Wk T J S1 ds → R J H1
abbrev SI (T : Tx) (X : Cx) (tg e : Expr) (f : Env → Option (List D)) : Prop := PI X tg e (tI T f)
def iTupD (f : Env → Option D) : Env → Option (List D) := fun ρ => match f ρ with
  | some (.tup l) => some l
  | _ => none
def iLstD (f : Env → Option D) : Env → Option (List D) := fun ρ => match f ρ with
  | some (.lst l) => some l
  | _ => none
def iRevD (f : Env → Option D) : Env → Option (List D) := fun ρ => match f ρ with
  | some (.lst l) => some l.reverse
  | _ => none
def iStrD (f : Env → Option D) : Env → Option (List D) := fun ρ => match f ρ with
  | some (.str x) => some (x.cps.toList.map fun c => .str ⟨#[c]⟩)
  | _ => none
/-- a, a + 1, .. -/
def rgD : Int → Nat → List D
  | _, 0 => []
  | a, n + 1 => .int a :: rgD (a + 1) n
theorem rgD_get : ∀ {n i : Nat} {a : Int} {d : D}, (rgD a n)[i]? = some d → i < n ∧ d = .int (a + (i : Int))
  | 0, _, _, _, h => by simp [rgD] at h
  | n + 1, 0, a, d, h => by
    have h : D.int a = d := Option.some.inj h
    exact ⟨Nat.succ_pos _, by rw [← h]; congr 1; omega⟩
  | n + 1, i + 1, a, d, h => by
    obtain ⟨h1, h2⟩ := rgD_get (n := n) (i := i) (a := a + 1) h
    exact ⟨by omega, by rw [h2]; congr 1; omega⟩
theorem rgD_len : ∀ (n : Nat) (a : Int), (rgD a n).length = n
  | 0, _ => rfl
  | n + 1, a => by
    show (rgD (a + 1) n).length + 1 = n + 1
    rw [rgD_len n]
/-- a, a - 1, .. -/
def rdD : Int → Nat → List D
  | _, 0 => []
  | a, n + 1 => .int a :: rdD (a - 1) n
theorem rdD_get : ∀ {n i : Nat} {a : Int} {d : D}, (rdD a n)[i]? = some d → i < n ∧ d = .int (a + (i : Int) * (-1))
  | 0, _, _, _, h => by simp [rdD] at h
  | n + 1, 0, a, d, h => by
    have h : D.int a = d := Option.some.inj h
    exact ⟨Nat.succ_pos _, by rw [← h]; congr 1; omega⟩
  | n + 1, i + 1, a, d, h => by
    obtain ⟨h1, h2⟩ := rdD_get (n := n) (i := i) (a := a - 1) h
    exact ⟨by omega, by rw [h2]; congr 1; omega⟩
theorem rdD_len : ∀ (n : Nat) (a : Int), (rdD a n).length = n
  | 0, _ => rfl
  | n + 1, a => by
    show (rdD (a - 1) n).length + 1 = n + 1
    rw [rdD_len n]
def smI (a : Int) : Bool := decide (-4000 ≤ a) && decide (a ≤ 4000)
theorem smI_ok {a : Int} (h : smI a = true) : -4000 ≤ a ∧ a ≤ 4000 := by
  unfold smI at h
  rw [Bool.and_eq_true, decide_eq_true_iff, decide_eq_true_iff] at h
  exact h
def iRg1 (f : Env → Option D) : Env → Option (List D) := fun ρ => match f ρ with
  | some (.int n) => gd (smI n) (some (rgD 0 n.toNat))
  | _ => none
def iRg2 (f g : Env → Option D) : Env → Option (List D) := fun ρ => match f ρ with
  | some (.int a) => match g ρ with
    | some (.int b) => gd (smI a && smI b) (some (rgD a (b - a).toNat))
    | _ => none
  | _ => none
def iRg3 (f g : Env → Option D) : Env → Option (List D) := fun ρ => match f ρ with
  | some (.int a) => match g ρ with
    | some (.int b) => gd (smI a && smI b) (some (rdD a (a - b).toNat))
    | _ => none
  | _ => none
section
variable {T : Tx} {X : Cx} {tg e e2 : Expr} {f f2 : Env → Option D} {p pos : Pos}
theorem wk_tup {S1 : Hp} {a : Addr} {xs : List V} {ds : List D} (h : S1 a = some (.tup xs)) (r : Reps S1 ds xs) : Wk T (Itt X.K a) S1 ds := fun i S2 H2 s12 c t => by
  have hq : SqT X.K H2 a xs := .inl (.inl (c a _ (s12 a _ h)))
  refine ⟨fun d hd => ?_, fun hl => ⟨xs, hq, by rw [r.len]; exact hl⟩⟩
  obtain ⟨x, e1, r1⟩ := r.get hd
  refine ⟨⟨xs, x, hq, e1⟩, fun y H3 ⟨e3, hy⟩ => ⟨S2, ?_, ?_⟩⟩
  · rw [e3]; exact .refl c t
  · have := hy xs hq
    rw [e1] at this
    rw [← Option.some.inj this]
    exact Rep.mono s12 r1
theorem wk_lst {S1 : Hp} {a : Addr} {xs : List V} {ds : List D} (h : S1 a = some (.lst xs)) (r : Reps S1 ds xs) : Wk T (Itl X.K a) S1 ds := fun i S2 H2 s12 c t => by
  have hq : SqL X.K H2 a xs := .inl (.inl (c a _ (s12 a _ h)))
  refine ⟨fun d hd => ?_, fun hl => ⟨xs, hq, by rw [r.len]; exact hl⟩⟩
  obtain ⟨x, e1, r1⟩ := r.get hd
  refine ⟨⟨xs, x, hq, e1⟩, fun y H3 ⟨e3, hy⟩ => ⟨S2, ?_, ?_⟩⟩
  · rw [e3]; exact .refl c t
  · have := hy xs hq
    rw [e1] at this
    rw [← Option.some.inj this]
    exact Rep.mono s12 r1
theorem si_tup (h : SE T X e f) : SI T X tg e (iTupD f) := piI (pi_tup h) fun σ H R ⟨ρ, ds, B, S0, S, e, k, q⟩ => by
  unfold iTupD at e
  split at e
  · rename_i l hl
    cases e
    refine ⟨ρ, _, B, S0, S, hl, k, fun v S' H' e1 r => ?_⟩
    obtain ⟨a, xs, ev, ha, r⟩ := r
    exact ⟨a, ev, ⟨xs, .inl (.inl (e1.c a _ ha))⟩, q _ S' H' e1 (wk_tup ha r)⟩
  · cases e
theorem si_lst (h : SE T X e f) : SI T X tg e (iLstD f) := piI (pi_list h) fun σ H R ⟨ρ, ds, B, S0, S, e, k, q⟩ => by
  unfold iLstD at e
  split at e
  · rename_i l hl
    cases e
    refine ⟨ρ, _, B, S0, S, hl, k, fun v S' H' e1 r => ?_⟩
    obtain ⟨a, xs, ev, ha, r⟩ := r
    exact ⟨a, ev, ⟨xs, .inl (.inl (e1.c a _ ha))⟩, q _ S' H' e1 (wk_lst ha r)⟩
  · cases e
theorem si_rev (hg : Gl X "reversed") (hm : X.mg "reversed" = none) (h : SE T X e f) (hs : starEach [e] X.env = [(false, eval e X.env)] := by rfl) (hs1 : starEach (e :: []) X.env = (false, eval e X.env) :: starEach [] X.env := by rfl) : SI T X tg (.Call (.Name "reversed" p) [e] [] pos) (iRevD f) :=
  piI (pi_reversed hg hm (pa_cons h pa_nil hs1) hs) fun σ H R ⟨ρ, ds, B, S0, S, e, k, q⟩ => by
  unfold iRevD at e
  split at e
  · rename_i l hl
    cases e
    refine ⟨ρ, _, B, S0, S, hl, k, fun v S' H' e1 r => ?_⟩
    obtain ⟨a, xs, ev, ha, r⟩ := r
    refine ⟨a, xs, by rw [ev], .inl (.inl (e1.c a _ ha)), q _ S' H' e1 fun i S2 H2 s12 c t => ?_⟩
    have hq : SqL X.K H2 a xs := .inl (.inl (c a _ (s12 a _ ha)))
    have hlen := r.len
    refine ⟨fun d hd => ?_, fun hl => ?_⟩
    · have hi : i < l.length := by
        have := (List.getElem?_eq_some_iff.mp hd).1
        rwa [List.length_reverse] at this
      rw [List.getElem?_reverse hi] at hd
      obtain ⟨x, e3, r3⟩ := r.get hd
      unfold Itv
      refine ⟨?_, fun y H3 hy => ?_⟩
      · exact ⟨by rw [hlen]; exact hi, xs, x, hq, by rw [hlen]; exact e3⟩
      · obtain ⟨e4, hy⟩ := hy
        refine ⟨S2, by rw [e4]; exact .refl c t, ?_⟩
        have := hy xs hq
        rw [hlen, e3] at this
        rw [← Option.some.inj this]
        exact Rep.mono s12 r3
    · rw [List.length_reverse] at hl
      show _ ≤ i
      rw [hlen]
      exact hl
  · cases e
theorem si_str (h : SE T X e f) : SI T X tg e (iStrD f) := piI (pi_str h) fun σ H R ⟨ρ, ds, B, S0, S, e, k, q⟩ => by
  unfold iStrD at e
  split at e
  · rename_i x hx
    cases e
    refine ⟨ρ, _, B, S0, S, hx, k, fun v S' H' e1 r => ⟨x, r, q _ S' H' e1 fun i S2 H2 s12 c t => ⟨fun d hd => ?_, fun hl => ?_⟩⟩⟩
    · rw [List.getElem?_map] at hd
      cases hc : x.cps.toList[i]? with
      | none => rw [hc] at hd; cases hd
      | some w =>
        rw [hc] at hd
        cases hd
        rw [Array.getElem?_toList] at hc
        refine ⟨(Array.getElem?_eq_some_iff.mp hc).1, fun y H3 ⟨e3, w', hw, ey⟩ => ⟨S2, by rw [e3]; exact .refl c t, ?_⟩⟩
        rw [hc] at hw
        rw [ey, Option.some.inj hw]
        exact rfl
    · rw [List.length_map, Array.length_toList] at hl
      exact hl
  · cases e
theorem wk_rng {S1 : Hp} {a : Int} {n : Nat} : Wk T (Itr a n) S1 (rgD a n) := fun i S2 H2 s12 c t => by
  refine ⟨fun d hd => ?_, fun hl => by rw [rgD_len] at hl; exact hl⟩
  obtain ⟨h1, h2⟩ := rgD_get hd
  refine ⟨h1, fun y H3 ⟨e3, ey⟩ => ⟨S2, by rw [e3]; exact .refl c t, ?_⟩⟩
  rw [ey, h2]
  exact rfl
theorem si_rg1 (hg : Gl X "range") (hm : X.mg "range" = none) (h : SE T X e f) (hs : starEach [e] X.env = [(false, eval e X.env)] := by rfl) (hs1 : starEach (e :: []) X.env = (false, eval e X.env) :: starEach [] X.env := by rfl) : SI T X tg (.Call (.Name "range" p) [e] [] pos) (iRg1 f) :=
  piI (pi_range1 hg hm (pa_cons h pa_nil hs1) hs) fun σ H R ⟨ρ, ds, B, S0, S, e, k, q⟩ => by
  unfold iRg1 at e
  split at e
  · rename_i n hn
    obtain ⟨h1, h2⟩ := gd_some e
    cases h2
    have h1 := smI_ok h1
    refine ⟨ρ, _, B, S0, S, hn, k, fun v S' H' e1 r => ?_⟩
    have r : v = .int n := r
    exact ⟨n, by rw [r], by omega, by omega, q _ S' H' e1 wk_rng⟩
  · cases e
theorem si_rg2 (hg : Gl X "range") (hm : X.mg "range" = none) (h : SE T X e f) (h2 : SE T X e2 f2) (hs : starEach [e, e2] X.env = [(false, eval e X.env), (false, eval e2 X.env)] := by rfl) (hs2 : starEach [e2] X.env = [(false, eval e2 X.env)] := by rfl)
    (hs1 : starEach (e :: [e2]) X.env = (false, eval e X.env) :: starEach [e2] X.env := by rfl) (hs3 : starEach (e2 :: []) X.env = (false, eval e2 X.env) :: starEach [] X.env := by rfl) : SI T X tg (.Call (.Name "range" p) [e, e2] [] pos) (iRg2 f f2) :=
  piI (pi_range2 hg hm (pa_cons h (pa_cons h2 pa_nil hs3) hs1) hs hs2) fun σ H R ⟨ρ, ds, B, S0, S, e, k, q⟩ => by
  unfold iRg2 at e
  split at e
  · rename_i a ha
    split at e
    · rename_i b hb
      obtain ⟨h1, h2⟩ := gd_some e
      cases h2
      rw [Bool.and_eq_true] at h1
      have h3 := smI_ok h1.1
      have h4 := smI_ok h1.2
      refine ⟨ρ, _, B, S0, S, ha, k, fun v S' H' e1 r => ⟨ρ, _, B, S0, S', hb, k.ext e1, fun u S2 H2 e2 r2 => ?_⟩⟩
      have r : v = .int a := r
      have r2 : u = .int b := r2
      exact ⟨a, b, by rw [r, r2], ⟨by omega, by omega, by omega, by omega⟩, q _ S2 H2 (e1.trans e2) wk_rng⟩
    · cases e
  · cases e
/-- range(a, b, -1) -/
theorem si_rg3 {k0 : Nat} {p1 p2 : Pos} (hg : Gl X "range") (hm : X.mg "range" = none) (h : SE T X e f) (h2 : SE T X e2 f2) (hs1 : starEach (e :: [e2, .UnaryOp .USub (.Constant (.int 1) k0 p1) p2]) X.env = (false, eval e X.env) :: starEach [e2, .UnaryOp .USub (.Constant (.int 1) k0 p1) p2] X.env := by rfl)
    (hs2 : starEach (e2 :: [.UnaryOp .USub (.Constant (.int 1) k0 p1) p2]) X.env = (false, eval e2 X.env) :: starEach [.UnaryOp .USub (.Constant (.int 1) k0 p1) p2] X.env := by rfl) (hpl : (backTo pos (starEach [e2, .UnaryOp .USub (.Constant (.int 1) k0 p1) p2] X.env)).any (·.1) = false := by rfl) : SI T X tg (.Call (.Name "range" p) [e, e2, .UnaryOp .USub (.Constant (.int 1) k0 p1) p2] [] pos) (iRg3 f f2) :=
  piI (pi_range3 hg hm (pa_cons h (pa_cons h2 (pa_cons (pe_un un_neg pe_int) pa_nil (by rfl)) hs2) hs1) hs1 hpl) fun σ H R ⟨ρ, ds, B, S0, S, e, k, q⟩ => by
  unfold iRg3 at e
  split at e
  · rename_i a ha
    split at e
    · rename_i b hb
      obtain ⟨h1, h2⟩ := gd_some e
      cases h2
      rw [Bool.and_eq_true] at h1
      have h3 := smI_ok h1.1
      have h4 := smI_ok h1.2
      refine ⟨ρ, _, B, S0, S, ha, k, fun v S' H' e1 r => ⟨ρ, _, B, S0, S', hb, k.ext e1, fun u S2 H2 e2 r2 => ⟨1, rfl, ?_⟩⟩⟩
      have r : v = .int a := r
      have r2 : u = .int b := r2
      refine ⟨a, b, -1, (a - b).toNat, by rw [r, r2] <;> rfl, RgC.neg (by omega) (by omega) (by omega) (by omega), q _ S2 H2 (e1.trans e2) fun i S3 H3 s12 c t => ?_⟩
      refine ⟨fun d hd => ?_, fun hl => by rw [rdD_len] at hl; exact hl⟩
      obtain ⟨h5, h6⟩ := rdD_get hd
      refine ⟨h5, fun y H4 ⟨e3, ey⟩ => ⟨S3, by rw [e3]; exact .refl c t, ?_⟩⟩
      rw [ey, h6]
      exact rfl
    · cases e
  · cases e
end

/-! ### for, while -/
def forL (t : Tg) (body : Env → Option Out) : List D → Env → Option Out
  | [], ρ => some (.nx ρ)
  | d :: r, ρ => match t.put d ρ with
    | some ρ1 => match body ρ1 with
      | some (.nx ρ') => forL t body r ρ'
      | some (.ct ρ') => forL t body r ρ'
      | some (.bk ρ') => some (.nx ρ')
      | some (.rt d) => some (.rt d)
      | none => none
    | none => none
def cFor (src : Env → Option (List D)) (t : Tg) (body : Env → Option Out) : Env → Option Out := fun ρ => match src ρ with
  | some ds => forL t body ds ρ
  | none => none
def whileL (c : Env → Option Bool) (body : Env → Option Out) : Nat → Env → Option Out
  | 0, _ => none
  | n + 1, ρ => match c ρ with
    | some false => some (.nx ρ)
    | some true => match body ρ with
      | some (.nx ρ') => whileL c body n ρ'
      | some (.ct ρ') => whileL c body n ρ'
      | some (.bk ρ') => some (.nx ρ')
      | some (.rt d) => some (.rt d)
      | none => none
    | none => none
section
variable {T : Tx} {X : Cx} {tg e : Expr} {pos : Pos} {src : Env → Option (List D)} {t : Tg} {g : Env → Option Out} {body : List Stmt}
theorem anchor {B S0 S1 S2 H1 H2 : Hp} (a : Ext T S0 B S1 H1) (b : Ext T S1 B S2 H2) : Ext T S0 B S2 H2 := ⟨a.s.trans b.s, b.h, b.c, fun p o h => by
  rcases b.f p o h with z | z
  · exact a.f p o z
  · exact .inr z, b.t, b.b⟩
theorem Ok.anchor {B S0 S1 H1 : Hp} {σ : L2.St} {ρ : Env} (k : Ok T B S0 S1 H1 σ ρ) : Ok T B S1 S1 H1 σ ρ := ⟨⟨k.e.c.rf, k.e.h, k.e.c, fun _ _ h => .inl h, k.e.t, k.e.b⟩, k.len, k.sl, k.di⟩
theorem Ok.back {B S0 S1 S2 H1 H2 : Hp} {σ σ' : L2.St} {ρ ρ' : Env} (k : Ok T B S0 S1 H1 σ ρ) (k' : Ok T B S1 S2 H2 σ' ρ') : Ok T B S0 S2 H2 σ' ρ' := ⟨DL.anchor k.e k'.e, k'.len, k'.sl, k'.di⟩
theorem drop_cons {α : Type} {l : List α} {i : Nat} {d : α} {r : List α} (h : l.drop i = d :: r) : l[i]? = some d ∧ l.drop (i + 1) = r ∧ i < l.length := by
  have h1 : i < l.length := by
    by_cases z : i < l.length
    · exact z
    · rw [List.drop_eq_nil_of_le (by omega)] at h
      cases h
  rw [List.drop_eq_getElem_cons h1] at h
  injection h with h2 h3
  exact ⟨by rw [List.getElem?_eq_getElem h1, h2], h3, h1⟩
theorem for_of {D : Ends} {σ : L2.St} {H : Hp} (h : tS T (cFor src t g) D σ H) : tFor (tI T src) (gTg X.K t) (tS T g) D σ H := by
  obtain ⟨ρ, o, B, S0, S, e, k, post⟩ := h
  unfold cFor at e
  split at e
  · rename_i ds hds
    refine ⟨ρ, ds, B, S0, S, hds, k, fun J S1 H1 e1 wk => ?_⟩
    have k1 := k.ext e1
    refine ⟨fun i m σ' H' => m = ds.length - i ∧ ∃ ρ' S', Ok T B S1 S' H' σ' ρ' ∧ forL t g (ds.drop i) ρ' = some o, ⟨_, rfl, ρ, S1, k1.anchor, e⟩, ?_⟩
    rintro i m σ' H' ⟨em, ρ', S', k', e'⟩
    have w := wk i S' H' k'.e.s k'.c k'.t
    cases hd : ds.drop i with
    | nil =>
      rw [hd] at e'
      cases e'
      have hl : ds.length ≤ i := by
        by_cases z : i < ds.length
        · rw [List.drop_eq_getElem_cons z] at hd; cases hd
        · omega
      exact .inl ⟨w.2 hl, post S' H' σ' (k1.back k')⟩
    | cons d r =>
      obtain ⟨h1, h2, h3⟩ := drop_cons hd
      rw [hd] at e'
      obtain ⟨hgo, hy⟩ := w.1 d h1
      refine .inr ⟨hgo, fun σ'' H'' => ∃ ρ'' S'', Ok T B S1 S'' H'' σ'' ρ'' ∧ forL t g (ds.drop (i + 1)) ρ'' = some o, fun σ'' H'' ⟨ρ'', S'', k'', e''⟩ => ⟨ds.length - (i + 1), by omega, rfl, ρ'', S'', k'', e''⟩, fun x H3 yl => ?_⟩
      obtain ⟨S3, e3, r3⟩ := hy x H3 yl
      unfold forL at e'
      split at e'
      · rename_i ρ1 hput
        obtain ⟨σ1, k3, hq, _⟩ := tg_ok (K := X.K) hput r3 (k'.ext e3)
        refine hq _ ?_
        split at e'
        · rename_i ρ4 hb
          refine ⟨ρ1, _, B, S1, S3, hb, k3, fun S5 H5 σ5 k5 => ⟨ρ4, S5, k5, by rw [h2]; exact e'⟩⟩
        · rename_i ρ4 hb
          refine ⟨ρ1, _, B, S1, S3, hb, k3, fun S5 H5 σ5 k5 => ⟨ρ4, S5, k5, by rw [h2]; exact e'⟩⟩
        · rename_i ρ4 hb
          cases e'
          exact ⟨ρ1, _, B, S1, S3, hb, k3, fun S5 H5 σ5 k5 => post S5 H5 σ5 (k1.back k5)⟩
        · rename_i d4 hb
          cases e'
          exact ⟨ρ1, _, B, S1, S3, hb, k3, fun v S5 H5 e5 r5 => post v S5 H5 (DL.anchor k1.e e5) r5⟩
        · cases e'
      · cases e'
  · cases e
theorem ss_for (hp : PassesOwn (model X.prog X.w) X.A X.env X.xe) (hc : X.calm = true) (hi : SI T X tg e src) (hg : SG X tg t) (hb : SSs T X body g) (hs : ∀ x, foldedSetIterable e X.env x = pure x := by intro _; rfl) :
    SS T X (.For tg e body [] pos) (cFor src t g) := psI (ps_for hp hc hi hg hb hs) fun D σ H h => for_of (X := X) h
theorem ss_while {c : Expr} {fc : Env → Option Bool} {n : Nat} (hp : PassesOwn (model X.prog X.w) X.A X.env X.xe) (hc : ST T X c fc) (hb : SSs T X body g) : SS T X (.While c body [] pos) (whileL fc g n) := psI (ps_while hp hc hb) fun D σ H ⟨ρ, o, B, S0, S, e, k, post⟩ => by
  refine ⟨fun m σ' H' => ∃ ρ' S', Ok T B S0 S' H' σ' ρ' ∧ whileL fc g m ρ' = some o, ⟨n, ρ, S, k, e⟩, ?_⟩
  rintro m σ' H' ⟨ρ', S', k', e'⟩
  cases m with
  | zero => cases e'
  | succ m =>
    unfold whileL at e'
    split at e'
    · rename_i hb
      cases e'
      refine ⟨ρ', _, B, S0, S', hb, k', fun S2 H2 e2 => ?_⟩
      dsimp only
      rw [if_neg Bool.false_ne_true]
      exact post S2 H2 σ' (k'.ext e2)
    · rename_i hb
      refine ⟨ρ', _, B, S0, S', hb, k', fun S2 H2 e2 => ?_⟩
      dsimp only
      rw [if_pos rfl]
      refine ⟨fun σ'' H'' => ∃ ρ'' S'', Ok T B S0 S'' H'' σ'' ρ'' ∧ whileL fc g m ρ'' = some o, fun σ'' H'' h => ⟨m, Nat.lt_succ_self m, h⟩, ?_⟩
      split at e'
      · rename_i ρ4 hb
        exact ⟨ρ', _, B, S0, S2, hb, k'.ext e2, fun S5 H5 σ5 k5 => ⟨ρ4, S5, k5, e'⟩⟩
      · rename_i ρ4 hb
        exact ⟨ρ', _, B, S0, S2, hb, k'.ext e2, fun S5 H5 σ5 k5 => ⟨ρ4, S5, k5, e'⟩⟩
      · rename_i ρ4 hb
        cases e'
        exact ⟨ρ', _, B, S0, S2, hb, k'.ext e2, fun S5 H5 σ5 k5 => post S5 H5 σ5 k5⟩
      · rename_i d4 hb
        cases e'
        exact ⟨ρ', _, B, S0, S2, hb, k'.ext e2, fun v S5 H5 e5 r5 => post v S5 H5 e5 r5⟩
      · cases e'
    · cases e'
end

/-! ### comprehensions -/
def wipeE (ρ : Env) : List Nat → Env
  | [] => ρ
  | v :: vs => (wipeE ρ vs).set v .no
theorem Ok.wipe {T : Tx} {B S0 S H : Hp} {σ : L2.St} {ρ : Env} (k : Ok T B S0 S H σ ρ) : ∀ vs : List Nat, Ok T B S0 S H (L2.wipe σ vs) (wipeE ρ vs)
  | [] => k
  | v :: vs => (Ok.wipe k vs).forget
def lcL (t : Tg) (tt : Env → Option Bool) (el : Env → Option D) (ρw : Env) : List D → Option (List D)
  | [] => some []
  | d :: r => match t.put d ρw with
    | some ρ2 => match tt ρ2 with
      | some true => match el ρ2 with
        | some y => match lcL t tt el ρw r with
          | some l => some (y :: l)
          | none => none
        | none => none
      | some false => lcL t tt el ρw r
      | none => none
    | none => none
def fLc (src : Env → Option (List D)) (t : Tg) (vs : List Nat) (tt : Env → Option Bool) (el : Env → Option D) : Env → Option (List D) := fun ρ => match src ρ with
  | some ds => gd (szOk ds) (lcL t tt el (wipeE ρ vs) ds)
  | none => none
abbrev STs (T : Tx) (X : Cx) (ifs : List Expr) (f : Env → Option Bool) : Prop := PTs X ifs (tT T f)
def bYes : Env → Option Bool := fun _ => some true
section
variable {T : Tx} {X : Cx} {tg iter elt : Expr} {ifs : List Expr} {pos : Pos} {src : Env → Option (List D)} {t : Tg} {tt : Env → Option Bool} {el : Env → Option D} {scope : Scope} {own : List (Str × Nat)}
theorem sts_nil : STs T X [] bYes := ⟨fun pins s σ H Q I ⟨ρ, b, B, S0, S, e, k, q⟩ => by
  cases e
  exact pts_nil.run pins s σ H Q I (q S H k.rf)⟩
theorem sts_one {c : Expr} {f : Env → Option Bool} (h : ST T X c f) : STs T X [c] f := pts_one h
theorem lc_of {σ : L2.St} {H : Hp} {Q : VK} {vs : List Nat} (hv : ∀ i ∈ t.slots, i ∈ vs) (h : tL T (fLc src t vs tt el) σ H Q) : tLc (tI T src) (gTg X.K t) (tT T tt) (tD T el) vs σ H Q := by
  obtain ⟨ρ, z, B, S0, S, e, k, q⟩ := h
  unfold fLc at e
  split at e
  · rename_i ds hds
    obtain ⟨hsz, e⟩ := gd_some e
    refine ⟨ρ, ds, B, S0, S, hds, k, fun J S1 H1 e1 wk Dl hD => ?_⟩
    have hD0 : H Dl = none := e1.h.n Dl hD
    have hS1 : S1 Dl = none := fresh_of e1.c hD
    refine ⟨fun i m H' => m = ds.length - i ∧ ∃ S' acc xs l, Ext T S H S' H' ∧ Same S1 S' ∧ S' Dl = none ∧ H' Dl = some (.lst xs) ∧ Reps S' acc xs ∧ acc.length ≤ i ∧ lcL t tt el (wipeE ρ vs) (ds.drop i) = some l ∧ acc ++ l = z,
      ⟨_, rfl, S1, [], [], z, e1.trans (Ext.newO e1.c e1.t hD), e1.c.rf, hS1, upd_same, .nil, Nat.le_refl _, e, rfl⟩, ?_⟩
    rintro i m H' ⟨em, S', acc, xs, l, e2, s12, hSD, hHD, r, hle, el2, ez⟩
    have w := wk i S' H' s12 e2.c e2.t
    cases hd : ds.drop i with
    | nil =>
      have hl : ds.length ≤ i := by
        by_cases z : i < ds.length
        · rw [List.drop_eq_getElem_cons z] at hd; cases hd
        · omega
      rw [hd] at el2
      cases el2
      rw [List.append_nil] at ez
      subst ez
      exact .inl ⟨w.2 hl, q Dl xs S' H' e2 hHD hSD hD0 r⟩
    | cons d rs =>
      obtain ⟨h1, h2, h3⟩ := drop_cons hd
      rw [hd] at el2
      obtain ⟨hgo, hy⟩ := w.1 d h1
      refine .inr ⟨hgo, fun H'' => ∃ S'' acc xs l, Ext T S H S'' H'' ∧ Same S1 S'' ∧ S'' Dl = none ∧ H'' Dl = some (.lst xs) ∧ Reps S'' acc xs ∧ acc.length ≤ i + 1 ∧ lcL t tt el (wipeE ρ vs) (ds.drop (i + 1)) = some l ∧ acc ++ l = z,
        fun H'' h => ⟨ds.length - (i + 1), by omega, rfl, h⟩, fun x H3 yl => ?_⟩
      obtain ⟨S3, e3, r3⟩ := hy x H3 yl
      have ke : Ok T B S0 S' H' σ ρ := k.ext e2
      have hS3 : ∀ {Sa Ha Sb Hb : Hp}, Ext T Sa Ha Sb Hb → Sa Dl = none → Ha Dl = some (.lst xs) → Sb Dl = none ∧ Hb Dl = some (.lst xs) := fun {Sa Ha Sb Hb} ee n h => by
        refine ⟨?_, ee.h.lst h (e2.no hD0)⟩
        cases z : Sb Dl with
        | none => rfl
        | some o =>
          rcases ee.f Dl o z with y | y
          · rw [n] at y; cases y
          · rw [h] at y; cases y
      unfold lcL at el2
      split at el2
      · rename_i ρ2 hput
        obtain ⟨σ2, k3, hq, hw⟩ := tg_ok (K := X.K) hput r3 ((ke.wipe vs).ext e3)
        refine hq _ ⟨?_, ?_⟩
        · rw [hw vs hv]
          have : ∀ us : List Nat, L2.wipe (L2.wipe σ vs) us = L2.wipe (L2.wipe σ vs) us := fun _ => rfl
          have idem : ∀ us : List Nat, (∀ u ∈ us, u ∈ vs) → L2.wipe (L2.wipe σ vs) us = L2.wipe σ vs := by
            intro us
            induction us with
            | nil => intro _; rfl
            | cons u us ih =>
              intro hu
              show (L2.wipe (L2.wipe σ vs) us).set u none = L2.wipe σ vs
              rw [ih fun a ha => hu a (List.mem_cons_of_mem _ ha)]
              have hmem := hu u List.mem_cons_self
              apply List.ext_getElem?
              intro j
              by_cases hj : j = u
              · subst hj
                by_cases hlt : j < (L2.wipe σ vs).length
                · rw [List.getElem?_set_self hlt]
                  cases hg : (L2.wipe σ vs)[j]? with
                  | none => rw [List.getElem?_eq_none_iff] at hg; omega
                  | some o =>
                    cases o with
                    | none => rfl
                    | some y => exact absurd hmem (wipe_some hg).2
                · rw [List.getElem?_eq_none (by simpa using hlt), List.getElem?_eq_none (by omega)]
              · rw [List.getElem?_set_ne (Ne.symm hj)]
          exact idem vs fun _ h => h
        · obtain ⟨hS3D, hH3D⟩ := hS3 e3 hSD hHD
          split at el2
          · rename_i hb
            refine ⟨ρ2, _, B, S0, S3, hb, k3, fun S4 H4 e4 => ?_⟩
            dsimp only
            rw [if_pos rfl]
            obtain ⟨hS4D, hH4D⟩ := hS3 e4 hS3D hH3D
            split at el2
            · rename_i y hy2
              split at el2
              · rename_i l' hl'
                cases el2
                refine ⟨ρ2, y, B, S0, S4, hy2, k3.ext e4, fun v S5 H5 e5 r5 => ?_⟩
                obtain ⟨hS5D, hH5D⟩ := hS3 e5 hS4D hH4D
                have ee := (e2.trans e3).trans (e4.trans e5)
                have s5 : Same S' S5 := ((e3.s).trans e4.s).trans e5.s
                refine ⟨xs, hH5D, ?_, S5, acc ++ [y], xs ++ [v], l', ?_, s12.trans s5, hS5D, upd_same, (Reps.mono s5 r).append (.one r5), ?_, by rw [h2]; exact hl', by rw [List.append_assoc]; exact ez⟩
                · rw [r.len]
                  exact Nat.lt_of_le_of_lt (Nat.le_trans hle (Nat.le_of_lt h3)) (szOk_lt hsz)
                · refine ⟨ee.s, ⟨fun b o z n m => ?_, fun b z => ?_⟩, ⟨fun b o z => ?_, ee.c.z⟩, ee.f, tabs_upd ee.t e2.b hD0 hH5D, ee.b⟩
                  · rw [upd_ne (ne_of_none z hD0)]
                    exact ee.h.k b o z n m
                  · by_cases y : b = Dl
                    · rw [y]; exact hD0
                    · rw [upd_ne y] at z; exact ee.h.n b z
                  · rw [upd_ne (ne_of_none z hS5D)]
                    exact ee.c b o z
                · rw [List.length_append]
                  show acc.length + 1 ≤ i + 1
                  omega
              · cases el2
            · cases el2
          · rename_i hb
            refine ⟨ρ2, _, B, S0, S3, hb, k3, fun S4 H4 e4 => ?_⟩
            dsimp only
            rw [if_neg Bool.false_ne_true]
            obtain ⟨hS4D, hH4D⟩ := hS3 e4 hS3D hH3D
            have s5 : Same S' S4 := e3.s.trans e4.s
            exact ⟨S4, acc, xs, l, (e2.trans e3).trans e4, s12.trans s5, hS4D, hH4D, Reps.mono s5 r, by omega, by rw [h2]; exact el2, ez⟩
          · cases el2
      · cases el2
  · cases e
theorem sl_lc (hv : ∀ i ∈ t.slots, i ∈ own.map (·.2)) (hc : X.calm = true) (hN : X.N.Nodup) (hi : SI T X tg iter src) (ok : BlkOk X.N X.env.scope scope own)
    (hg : ∀ (s : Shared) (H : Hp) (C : Addr) (cl : List (Str × Addr)) (fp : List Addr), SG (X.blk s H scope (compEnvC scope cl C X.env) fp) tg t) (ht : ∀ (s : Shared) (H : Hp) (C : Addr) (cl : List (Str × Addr)) (fp : List Addr), STs T (X.blk s H scope (compEnvC scope cl C X.env) fp) ifs tt)
    (he : ∀ (s : Shared) (H : Hp) (C : Addr) (cl : List (Str × Addr)) (fp : List Addr), SE T (X.blk s H scope (compEnvC scope cl C X.env) fp) elt el) (hs : ∀ x, foldedSetIterable iter X.env x = pure x := by intro _; rfl) :
    SL T X (.ListComp elt [⟨tg, iter, ifs, 0⟩] scope pos) (fLc src t (own.map (·.2)) tt el) := peI (pe_lc hc hN hi ok hg ht he hs) fun σ H Q h => lc_of (X := X) hv h
/-- name = [..], one's own list -/
theorem ss_newLc {i : Nat} {y : Str} {py spos : Pos} (hv : ∀ i ∈ t.slots, i ∈ own.map (·.2)) (hc : X.calm = true) (hN : X.N.Nodup) (hy : X.N[i]? = some y) (hyl : X.env.scope.names.lookup y = some .local)
    (hsw : swapsWith (.ListComp elt [⟨tg, iter, ifs, 0⟩] scope pos) (some (.Name y py)) spos.line X.env = pure true) (hi : SI T X tg iter src) (ok : BlkOk X.N X.env.scope scope own)
    (hg : ∀ (s : Shared) (H : Hp) (C : Addr) (cl : List (Str × Addr)) (fp : List Addr), SG (X.blk s H scope (compEnvC scope cl C X.env) fp) tg t) (ht : ∀ (s : Shared) (H : Hp) (C : Addr) (cl : List (Str × Addr)) (fp : List Addr), STs T (X.blk s H scope (compEnvC scope cl C X.env) fp) ifs tt)
    (he : ∀ (s : Shared) (H : Hp) (C : Addr) (cl : List (Str × Addr)) (fp : List Addr), SE T (X.blk s H scope (compEnvC scope cl C X.env) fp) elt el) (hs : ∀ x, foldedSetIterable iter X.env x = pure x := by intro _; rfl) :
    SS T X (.Assign [.Name y py] (.ListComp elt [⟨tg, iter, ifs, 0⟩] scope pos) spos) (cNew i (fLc src t (own.map (·.2)) tt el)) :=
  psI (ps_setLc (i := i) hc hN hy hyl hsw hi ok hg ht he hs) fun D σ H ⟨ρ, o, B, S0, S, e, k, q⟩ => by
  refine lc_of (X := X) hv ?_
  unfold cNew at e
  split at e
  · rename_i d hd
    cases e
    exact ⟨ρ, d, B, S0, S, hd, k, fun p xs S' H' e1 h1 h2 h3 r => q S' H' _ (k.own e1 h1 h2 h3 r)⟩
  · cases e
/-- name = [..], taken as data -/
theorem ss_setLc {i : Nat} {y : Str} {py spos : Pos} (hv : ∀ i ∈ t.slots, i ∈ own.map (·.2)) (hc : X.calm = true) (hN : X.N.Nodup) (hy : X.N[i]? = some y) (hyl : X.env.scope.names.lookup y = some .local)
    (hsw : swapsWith (.ListComp elt [⟨tg, iter, ifs, 0⟩] scope pos) (some (.Name y py)) spos.line X.env = pure true) (hi : SI T X tg iter src) (ok : BlkOk X.N X.env.scope scope own)
    (hg : ∀ (s : Shared) (H : Hp) (C : Addr) (cl : List (Str × Addr)) (fp : List Addr), SG (X.blk s H scope (compEnvC scope cl C X.env) fp) tg t) (ht : ∀ (s : Shared) (H : Hp) (C : Addr) (cl : List (Str × Addr)) (fp : List Addr), STs T (X.blk s H scope (compEnvC scope cl C X.env) fp) ifs tt)
    (he : ∀ (s : Shared) (H : Hp) (C : Addr) (cl : List (Str × Addr)) (fp : List Addr), SE T (X.blk s H scope (compEnvC scope cl C X.env) fp) elt el) (hs : ∀ x, foldedSetIterable iter X.env x = pure x := by intro _; rfl) :
    SS T X (.Assign [.Name y py] (.ListComp elt [⟨tg, iter, ifs, 0⟩] scope pos) spos) (cSet i (eFz (fLc src t (own.map (·.2)) tt el))) :=
  psI (ps_setLc (i := i) hc hN hy hyl hsw hi ok hg ht he hs) fun D σ H ⟨ρ, o, B, S0, S, e, k, q⟩ => by
  refine lc_of (X := X) hv ?_
  unfold cSet eFz at e
  split at e
  · rename_i d hd
    split at hd
    · rename_i l hl
      cases hd
      cases e
      exact ⟨ρ, l, B, S0, S, hl, k, fun p xs S' H' e1 h1 h2 h3 r => q _ H' _ ((k.ext (e1.fix h1 h2 h3)).set ⟨p, xs, rfl, upd_same, Reps.mono (same_fix e1.c h2) r⟩)⟩
    · cases hd
  · cases e
end
end DL

set_option Elab.async false
set_option linter.all false
set_option maxRecDepth 100000
set_option maxHeartbeats 2000000
namespace DL
open PySem PySem.Spec PyProof.Rows L2 LamX NdefX

/-! ### enumerate of a tuple -/
section
variable {prog : Program} {w : World} {A : Around} {E : Value → Shared → Prop} {s : Shared}
set_option maxHeartbeats 1000000 in
theorem meets_enumerate_newB0 {v : Value} {o : Obj} {H : Heap → Prop} (B : Begins v o H) :
    Meets (Builtin.«enumerate.__new__» ⟨[.type "enumerate", v], []⟩) (fun _ R s => H s.heap ∧
      R (.ok (.ret (.ref (s.heap.push o).objs.size))) { s with heap := (s.heap.push o).push { cls := .type "enumerate", data := .fields #[.none, .bool false, .ref s.heap.objs.size, rawInt 0, .none, .none] } }) :=
  .of_wp fun prog w A R s h => by
    obtain ⟨hp, g, d, tk, os⟩ := s; obtain ⟨h1, h⟩ := h
    have hsub := sub_enumerate
    have q1 : ∀ {A' : Around} {E : Value → Shared → Prop} {Q : Value → Shared → Prop}, Q (.ref hp.objs.size) ⟨hp.push o, g, d, tk, os⟩ → wpAny (model prog w) A' (pyIter v) Q E ⟨hp, g, d, tk, os⟩ :=
      fun q => B.iter prog w _ _ ⟨hp, g, d, tk, os⟩ _ h1 q
    wp_walk using q1
    refine wpAny_stack_any fun st => wpAny_pure ?_
    split
    · rename_i c _ _ _ _ _
      cases (c == Value.type "enumerate")
      · wp_walk using q1
        exact ⟨_, rfl, h⟩
      · wp_walk using q1
        exact ⟨_, rfl, h⟩
    · wp_walk using q1
      exact ⟨_, rfl, h⟩
theorem enum_begins0 {v : Value} {o : Obj} {H : Heap → Prop} {Q : Value → Shared → Prop} (B : Begins v o H) (h1 : H s.heap)
    (h : ∀ h', IsEnum h' (s.heap.objs.size + 1) s.heap.objs.size 0 .none → h'.get? s.heap.objs.size = some o → h'.objs.size = s.heap.objs.size + 2 →
      (∀ b o, s.heap.get? b = some o → h'.get? b = some o) → Q (.ref (s.heap.objs.size + 1)) { s with heap := h' }) :
    wpAny (model prog w) A (call (.type "enumerate") [v]) Q E s := by
  refine callType_new F.called_enumerate (by decide) (F.typeCall_enumerate_1 _) (F.newCall_enumerate_1 _) (fun obj => F.args_object_init_2 obj _) F.entry_enumerate_new
    (meets_enumerate_newB0 B) ⟨h1, ?_⟩
  have hz : (s.heap.push o).objs.size = s.heap.objs.size + 1 := Heap.size_push ..
  show _ ∧ _
  rw [hz]
  have he : IsEnum ((s.heap.push o).push { cls := .type "enumerate", data := .fields #[.none, .bool false, .ref s.heap.objs.size, rawInt 0, .none, .none] }) (s.heap.objs.size + 1) s.heap.objs.size 0 .none := by
    have := Heap.get?_push_size (s.heap.push o) (o := { cls := .type "enumerate", data := .fields #[.none, .bool false, .ref s.heap.objs.size, rawInt 0, .none, .none] }) rfl
    rw [hz] at this; exact this
  refine ⟨⟨_, he, rfl⟩, h _ he (Heap.get?_push_of_some _ (Heap.get?_push_size _ B.free)) (by rw [Heap.size_push, hz]) fun b o x => Heap.get?_push_of_some _ (Heap.get?_push_of_some _ x)⟩
end
/-- the tuple at t (n items), each item in a new pair, counted from k0 -/
def Iten (K : PySem.W.Frag) (t : Addr) (n : Nat) (k0 : Int) : It :=
  ⟨fun i H => ∃ (xs : List V) (x : V), SqT K H t xs ∧ xs.length = n ∧ xs[i]? = some x, fun i H v H' => ∃ T x, v = .ref T ∧ H T = none ∧ H' = upd H T (.tup [.int (k0 + (i : Nat)), x]) ∧ ∀ xs, SqT K H t xs → xs[i]? = some x, fun i H => (∃ xs : List V, SqT K H t xs ∧ xs.length = n) ∧ n ≤ i⟩
theorem turn_enumT {P : Program} {w : World} {K : PySem.W.Frag} {elts : List Expr} {kk : Nat} {tpos : Pos} (t e it : Addr) (n : Nat) (k0 : Int) (hte : t ≠ e) (hti : t ≠ it) :
    Turn P w K (.Tuple elts kk tpos) (Iten K t n k0) [e, it] e (fun i h => (∃ old, IsEnum h e it (k0 + (i : Int)) old) ∧ h.IsTupleIter it t i ∧ e ≠ it ∧ i ≤ n) where
  mem := by simp
  obj := fun i h st b hb => by
    obtain ⟨⟨old, he⟩, ⟨o, ho, hc, hd⟩, _⟩ := st
    have e' : b = e ∨ b = it := by simpa using hb
    rcases e' with z | z
    · rw [z]; exact ⟨_, he, fun v q => nomatch q⟩
    · rw [z]; exact ⟨o, ho, fun v q => by rw [hd] at q; cases q⟩
  keep := fun i h h' st k => let ⟨⟨old, he⟩, hi, hne⟩ := st; ⟨⟨old, k e (by simp) _ he⟩, hi.at fun o q => k it (by simp) o q, hne⟩
  item := by
    intro X hP hw hK hc i pins s σ H E I hf st hg
    subst hP hw hK
    obtain ⟨⟨old, he⟩, hit, hne, hin⟩ := st
    obtain ⟨xs, x, hq, hxn, hx⟩ := hg
    obtain ⟨its, rv, p, hz⟩ := I.tuple hq
    have hlen : its.toArray.size = n := by rw [List.size_toArray, ← rv.length, hxn]
    have hi : i < its.toArray.size := by
      rw [hlen, ← hxn]
      exact (List.getElem?_eq_some_iff.mp hx).1
    have hel : e < s.heap.objs.size := Heap.lt_size he
    have hil : it < s.heap.objs.size := by obtain ⟨_, q, _⟩ := hit; exact Heap.lt_size q
    have W := GoesN.enumFrom (prog := X.prog) (w := X.w) (A := X.A) (elts := elts) (x1 := kk) (pos := tpos) k0 (Draws.tuple (prog := X.prog) (w := X.w) (A := X.A.in1) (I.ok.hd hc) it t hti its.toArray) e hne (by simp [hne, Ne.symm hte]) (by simp)
    refine W.goes i s _ E hi ⟨⟨old, he⟩, hit, p⟩ fun v h' tk hY st' hk _ => ?_
    obtain ⟨T, t', y, ev, hT, hy, hTup⟩ := hY
    obtain ⟨u, hu, ru⟩ := rv.get hx
    have hyu : y = u := by
      have hy' : its[i]? = some y := by simpa using hy
      rw [hu] at hy'
      exact (Option.some.inj hy').symm
    subst hyu
    have new : ObjOk X.prog X.w (upd H T (.tup [.int (k0 + (i : Nat)), x])) h' T (.tup [.int (k0 + (i : Nat)), x]) :=
      ⟨by show 2 ≤ sizeLine; decide, [.int (k0 + (i : Int)) t', y], .cons ⟨_, rfl⟩ (.cons ru .nil), hTup⟩
    have I1 : Inv X pins σ (upd H T (.tup [.int (k0 + (i : Nat)), x])) { s with heap := h', toks := tk } :=
      I.turnedNew (ch := [e, it]) (fun b ob hb q => hk b ob hb q) hf hT new
    refine ⟨.ref T, _, I1, ev, ⟨T, x, rfl, I.hok.fresh hT, rfl, fun ys hy => by rw [I.tuple_inj hy hq]; exact hx⟩, ⟨st'.1, st'.2.1, hne, by rw [hlen] at hi; omega⟩, fun b hb => ?_⟩
    have hb' : b < s.heap.objs.size := by
      have e' : b = e ∨ b = it := by simpa using hb
      rcases e' with z | z
      · rw [z]; exact hel
      · rw [z]; exact hil
    rw [upd_ne (Nat.ne_of_lt (Nat.lt_of_lt_of_le hb' hT))]
    exact (hf b hb).1
  done := by
    intro X hP hw hK hc i pins s σ H E I hf st hg
    subst hP hw hK
    obtain ⟨⟨old, he⟩, hit, hne, hin⟩ := st
    obtain ⟨⟨xs, hq, hxn⟩, hi⟩ := hg
    obtain ⟨its, rv, p, hz⟩ := I.tuple hq
    have hlen : its.toArray.size = n := by rw [List.size_toArray, ← rv.length, hxn]
    have ei : i = its.toArray.size := by omega
    subst ei
    have W := GoesN.enumFrom (prog := X.prog) (w := X.w) (A := X.A) (elts := elts) (x1 := kk) (pos := tpos) k0 (Draws.tuple (prog := X.prog) (w := X.w) (A := X.A.in1) (I.ok.hd hc) it t hti its.toArray) e hne (by simp [hne, Ne.symm hte]) (by simp)
    exact W.stops s _ E ⟨⟨old, he⟩, hit, p⟩ fun h' tk hk _ => I.turnedL (ch := [e, it]) hk hf
  self := fun A i s Q E st h => let ⟨⟨_, he⟩, _⟩ := st; wpAny_pyIter_enum he h
def iEnT (K : PySem.W.Frag) (ta : TA) : TI := fun σ H R => ta σ H fun vs H1 => ∃ a xs, vs = [.ref a] ∧ SqT K H1 a xs ∧ R (Iten K a xs.length 0) H1
theorem pi_enumT {X : Cx} {e : Expr} {ta : TA} {p pos tpos : Pos} {elts : List Expr} {kk : Nat} (hg : Gl X "enumerate") (hm : X.mg "enumerate" = none) (ha : PA X [e] ta) (hs : starEach [e] X.env = [(false, eval e X.env)] := by rfl) :
    PI X (.Tuple elts kk tpos) (.Call (.Name "enumerate" p) [e] [] pos) (iEnT X.K ta) := by
  refine ⟨fun pins s σ H R I h => ?_⟩
  refine Call_ (ld_blt I hg hm boot_enumerate (PyProof.Rows.callWith_type1 (thn (ha.run pos pins s σ H _ I h) fun us s1 ⟨vs, H1, I1, r1, q1⟩ => ?_) hs rfl))
  obtain ⟨a, xs, ex, hq, q⟩ := q1
  subst ex
  cases r1 with
  | cons r rr =>
    cases rr
    cases r
    obtain ⟨its, rv, p', hz⟩ := I1.tuple hq
    refine enum_begins0 (begins_tuple a its.toArray) p' fun h' he hit hsz hk => wpAny_pyIter_enum he ?_
    have I2 : Inv X pins σ H1 { s1 with heap := h' } := I1.kept (t' := s1.toks) hk
    have la : a < s1.heap.objs.size := p'.lt
    refine ⟨s1.heap.objs.size + 1, [s1.heap.objs.size + 1, s1.heap.objs.size], _, _, H1, rfl, I2, turn_enumT a (s1.heap.objs.size + 1) s1.heap.objs.size xs.length 0 (Nat.ne_of_lt (Nat.lt_succ_of_lt la)) (Nat.ne_of_lt la), ⟨⟨.none, he⟩, ⟨_, hit, rfl, rfl⟩, Nat.succ_ne_self _, Nat.zero_le _⟩, fun b hb => ?_, q⟩
    have e' : b = s1.heap.objs.size + 1 ∨ b = s1.heap.objs.size := by simpa using hb
    have hle : s1.heap.objs.size ≤ b := by
      rcases e' with z | z
      · rw [z]; exact Nat.le_add_right _ _
      · rw [z]; exact Nat.le_refl _
    exact I1.fpOk hle (I1.hok.fresh hle)
theorem callWith_typeK {M : Model} {A : Around} {E : Value → Shared → Prop} {s : Shared} {pos : Pos} {T : String} {first : List Value} {args : List (Bool × Sem Value)} {keywords : List (Option Str × Sem Value)} {Q : Value → Shared → Prop}
    (hplain : args.any (·.1) = false) (hkw : keywords.any (·.1.isNone) = false)
    (h : wpAny M A (evalArgs (.type T) true args keywords) (fun a s₁ => wpAny M A (call (.type T) (first ++ a.pos) a.kw) Q E s₁) E s) :
    wpAny M A (callWith pos (.type T) first args keywords) Q E s := by
  unfold callWith
  refine wpAny_bind (wpAny_holding (wpAny_mono h (fun a s₁ h₁ => wpAny_bind (wpAny_standAt ?_)) fun _ _ x => x))
  simp only [hplain, hkw, Bool.or_false]
  refine wpAny_bind (wpAny_pure ?_)
  exact wpAny_bind (wpAny_mono h₁ (fun r s₂ hr => wpAny_bind (wpAny_holding (wpAny_point (wpAny_pure hr)))) fun _ _ x => x)
/-- enumerate(e, start=1) -/
def iEnT1 (K : PySem.W.Frag) (ta : TA) : TI := fun σ H R => ta σ H fun vs H1 => ∃ a xs, vs = [.ref a] ∧ SqT K H1 a xs ∧ R (Iten K a xs.length 1) H1
theorem pi_enumT1 {X : Cx} {e : Expr} {ta : TA} {p pos tpos kp kp2 : Pos} {elts : List Expr} {kk k1 : Nat} (hg : Gl X "enumerate") (hm : X.mg "enumerate" = none) (ha : PA X [e] ta)
    (he' : starEach [e] X.env = (false, eval e X.env) :: starEach [] X.env := by rfl) (hpl : (backTo pos (starEach [e] X.env)).any (·.1) = false := by rfl)
    (hb : bootBuiltins "enumerate" = some (.type "enumerate"))
    (hall : (backToKw pos (keywordEach [⟨some "start", .Constant (.int 1) k1 kp, kp2⟩] X.env)).all (·.1.isSome) = true := by rfl) (hnone : (backToKw pos (keywordEach [⟨some "start", .Constant (.int 1) k1 kp, kp2⟩] X.env)).any (·.1.isNone) = false := by rfl) (hks : (backToKw pos (keywordEach [⟨some "start", .Constant (.int 1) k1 kp, kp2⟩] X.env)).filterMap (·.1) = [("start" : Str)] := by rfl) :
    PI X (.Tuple elts kk tpos) (.Call (.Name "enumerate" p) [e] [⟨some "start", .Constant (.int 1) k1 kp, kp2⟩] pos) (iEnT1 X.K ta) := by
  refine ⟨fun pins s σ H R I h => ?_⟩
  refine wpAny_Call_Name_kw (ld_blt I hg hm hb ?_)
  have hkw : PK X [⟨some "start", .Constant (.int 1) k1 kp, kp2⟩] (tCons (tC (.int 1)) tNil) := pk_cons pe_int pk_nil
  refine callWith_typeK hpl hnone (PyProof.Rows.evalArgs_kw2 hall (thn (ha.run pos pins s σ H _ I h) fun us s1 ⟨vs, H1, I1, r1, q1⟩ => thn (hkw.run pos pins s1 σ H1 (fun zs H2 => zs = [.int 1] ∧ H2 = H1) I1 ⟨rfl, rfl⟩) fun ws s2 ⟨zs, H2, I2, r2, ez, eH⟩ => ?_) he')
  rw [hks]
  subst ez
  rw [eH] at I2
  obtain ⟨w1, rfl, t1, rfl⟩ := vals1 r2
  obtain ⟨a, xs, ex, hq, q⟩ := q1
  subst ex
  cases r1 with
  | cons r rr =>
    cases rr
    cases r
    obtain ⟨its, rv, p', hz⟩ := I2.tuple hq
    show wpAny _ _ (call (.type "enumerate") [.ref a] [(Str.ofString "start", .int 1 t1)]) _ _ _
    refine enum_begins_start (begins_tuple a its.toArray) p' (by decide) (by decide) fun h' he hit hsz hk => wpAny_pyIter_enum he ?_
    have I3 : Inv X pins σ H1 { s2 with heap := h' } := I2.kept (t' := s2.toks) hk
    have la : a < s2.heap.objs.size := p'.lt
    refine ⟨s2.heap.objs.size + 1, [s2.heap.objs.size + 1, s2.heap.objs.size], _, _, H1, rfl, I3, turn_enumT a (s2.heap.objs.size + 1) s2.heap.objs.size xs.length 1 (Nat.ne_of_lt (Nat.lt_succ_of_lt la)) (Nat.ne_of_lt la), ⟨⟨.none, he⟩, ⟨_, hit, rfl, rfl⟩, Nat.succ_ne_self _, Nat.zero_le _⟩, fun b hb => ?_, q⟩
    have e' : b = s2.heap.objs.size + 1 ∨ b = s2.heap.objs.size := by simpa using hb
    have hle : s2.heap.objs.size ≤ b := by
      rcases e' with z | z
      · rw [z]; exact Nat.le_add_right _ _
      · rw [z]; exact Nat.le_refl _
    exact I2.fpOk hle (I2.hok.fresh hle)
/-- zip of two tuples -/
def Itzt (K : PySem.W.Frag) (a b : Addr) (n : Nat) : It :=
  ⟨fun i H => ∃ (xs ys : List V) (x y : V), SqT K H a xs ∧ SqT K H b ys ∧ xs.length = n ∧ ys.length = n ∧ xs[i]? = some x ∧ ys[i]? = some y,
    fun i H v H' => ∃ T x y, v = .ref T ∧ H T = none ∧ H' = upd H T (.tup [x, y]) ∧ (∀ xs, SqT K H a xs → xs[i]? = some x) ∧ ∀ ys, SqT K H b ys → ys[i]? = some y,
    fun i H => (∃ xs ys : List V, SqT K H a xs ∧ SqT K H b ys ∧ xs.length = n ∧ ys.length = n) ∧ n ≤ i⟩
theorem turn_zipT {P : Program} {w : World} {K : PySem.W.Frag} {elts : List Expr} {kk : Nat} {tpos : Pos} {a b z TI TO i1 i2 : Addr} {n : Nat} (Z : ZipSep2 z TI TO i1 i2 [i1, a] [i2, b]) (ha : a ≠ i1) (hb : b ≠ i2) (hTOz : z ≠ TO) :
    Turn P w K (.Tuple elts kk tpos) (Itzt K a b n) [z, TI, TO, i1, i2] z (fun i h => IsZip h z TI TO .none ∧ IsTupOf2 h TI (.ref i1) (.ref i2) ∧ (∃ x y, IsTupOf2 h TO x y) ∧ h.IsTupleIter i1 a i ∧ h.IsTupleIter i2 b i ∧ i ≤ n) where
  mem := by simp
  obj := fun i h st c hc => by
    obtain ⟨hz, hTI, ⟨x, y, hTO⟩, ⟨o1, e1, _, d1⟩, ⟨o2, e2, _, d2⟩, _⟩ := st
    have e' : c = z ∨ c = TI ∨ c = TO ∨ c = i1 ∨ c = i2 := by simpa using hc
    rcases e' with q | q | q | q | q
    · rw [q]; exact ⟨_, hz, fun v q => nomatch q⟩
    · rw [q]; exact ⟨_, hTI, fun v q => nomatch q⟩
    · rw [q]; exact ⟨_, hTO, fun v q => nomatch q⟩
    · rw [q]; exact ⟨o1, e1, fun v q => by rw [d1] at q; cases q⟩
    · rw [q]; exact ⟨o2, e2, fun v q => by rw [d2] at q; cases q⟩
  keep := fun i h h' st k => by
    obtain ⟨hz, hTI, ⟨x, y, hTO⟩, h1, h2, h3⟩ := st
    exact ⟨k z (by simp) _ hz, k TI (by simp) _ hTI, ⟨x, y, k TO (by simp) _ hTO⟩, h1.at fun o q => k i1 (by simp) o q, h2.at fun o q => k i2 (by simp) o q, h3⟩
  item := by
    intro X hP hw hK hc i pins s σ H E I hf st hg
    subst hP hw hK
    obtain ⟨hz, hTI, ⟨x0, y0, hTO⟩, h1, h2, hin⟩ := st
    obtain ⟨xs, ys, x, y, hqx, hqy, lx, ly, hx, hy⟩ := hg
    obtain ⟨its, rv, p, _⟩ := I.tuple hqx
    obtain ⟨its2, rv2, p2, _⟩ := I.tuple hqy
    obtain ⟨u, hu, ru⟩ := rv.get hx
    obtain ⟨u2, hu2, ru2⟩ := rv2.get hy
    have l1 : its.toArray.size = n := by rw [List.size_toArray, ← rv.length, lx]
    have l2 : its2.toArray.size = n := by rw [List.size_toArray, ← rv2.length, ly]
    have hi : i < min its.toArray.size its2.toArray.size := by
      rw [l1, l2, Nat.min_self, ← lx]
      exact (List.getElem?_eq_some_iff.mp hx).1
    have W := GoesN.zip2 (prog := X.prog) (w := X.w) (A := X.A) (elts := elts) (x1 := kk) (pos := tpos) Z (Draws.tuple (prog := X.prog) (w := X.w) (A := X.A.in1) (I.ok.hd hc) i1 a ha its.toArray) (Draws.tuple (prog := X.prog) (w := X.w) (A := X.A.in1) (I.ok.hd hc) i2 b hb its2.toArray)
    refine W.goes i s _ E hi ⟨hz, hTI, ⟨x0, y0, hTO⟩, ⟨h1, p⟩, h2, p2⟩ fun v h' tk hY st' hk _ => ?_
    obtain ⟨T, v1, v2, ev, hT, hv1, hv2, hTup⟩ := hY
    have e1 : v1 = u := by
      have q : its[i]? = some v1 := by simpa using hv1
      rw [hu] at q
      exact (Option.some.inj q).symm
    have e2 : v2 = u2 := by
      have q : its2[i]? = some v2 := by simpa using hv2
      rw [hu2] at q
      exact (Option.some.inj q).symm
    subst e1 e2
    have new : ObjOk X.prog X.w (upd H T (.tup [x, y])) h' T (.tup [x, y]) := ⟨by show 2 ≤ sizeLine; decide, [v1, v2], .cons ru (.cons ru2 .nil), hTup⟩
    have I1 : Inv X pins σ (upd H T (.tup [x, y])) { s with heap := h', toks := tk } :=
      I.turnedNew (ch := [z, TI, TO, i1, i2]) (fun c ob hc' q => hk c ob (fun w => hc' (by
        have w' : c = z ∨ c = TO ∨ c = i1 ∨ c = i2 := by simpa using w
        simp only [List.mem_cons, List.not_mem_nil, or_false]
        rcases w' with q | q | q | q <;> simp [q])) q) hf hT new
    have hTI' : h'.get? TI = some _ := hk TI _ (by
      simp only [List.mem_cons, List.not_mem_nil, or_false, not_or]
      exact ⟨Z.TIz, Z.TITO, Z.TIi1, Z.TIi2⟩) hTI
    refine ⟨.ref T, _, I1, ev, ⟨T, x, y, rfl, I.hok.fresh hT, rfl, fun l hl => by rw [I.tuple_inj hl hqx]; exact hx, fun l hl => by rw [I.tuple_inj hl hqy]; exact hy⟩, ⟨st'.1, st'.2.1, st'.2.2.1, st'.2.2.2.1.1, st'.2.2.2.2.1, by rw [l1, l2, Nat.min_self] at hi; omega⟩, fun c hcm => ?_⟩
    have hlt : c < s.heap.objs.size := by
      have e' : c = z ∨ c = TI ∨ c = TO ∨ c = i1 ∨ c = i2 := by simpa using hcm
      rcases e' with q | q | q | q | q
      · rw [q]; exact Heap.lt_size hz
      · rw [q]; exact Heap.lt_size hTI
      · rw [q]; exact Heap.lt_size hTO
      · rw [q]; obtain ⟨_, e1, _⟩ := h1; exact Heap.lt_size e1
      · rw [q]; obtain ⟨_, e2, _⟩ := h2; exact Heap.lt_size e2
    rw [upd_ne (Nat.ne_of_lt (Nat.lt_of_lt_of_le hlt hT))]
    exact (hf c hcm).1
  done := by
    intro X hP hw hK hc i pins s σ H E I hf st hg
    subst hP hw hK
    obtain ⟨hz, hTI, ⟨x0, y0, hTO⟩, h1, h2, hin⟩ := st
    obtain ⟨⟨xs, ys, hqx, hqy, lx, ly⟩, hi⟩ := hg
    obtain ⟨its, rv, p, _⟩ := I.tuple hqx
    obtain ⟨its2, rv2, p2, _⟩ := I.tuple hqy
    have l1 : its.toArray.size = n := by rw [List.size_toArray, ← rv.length, lx]
    have l2 : its2.toArray.size = n := by rw [List.size_toArray, ← rv2.length, ly]
    have ei : i = min its.toArray.size its2.toArray.size := by rw [l1, l2, Nat.min_self]; omega
    subst ei
    have W := GoesN.zip2 (prog := X.prog) (w := X.w) (A := X.A) (elts := elts) (x1 := kk) (pos := tpos) Z (Draws.tuple (prog := X.prog) (w := X.w) (A := X.A.in1) (I.ok.hd hc) i1 a ha its.toArray) (Draws.tuple (prog := X.prog) (w := X.w) (A := X.A.in1) (I.ok.hd hc) i2 b hb its2.toArray)
    refine W.stops s _ E ⟨hz, hTI, ⟨x0, y0, hTO⟩, ⟨h1, p⟩, h2, p2⟩ fun h' tk hk _ => I.turnedL (ch := [z, TI, TO, i1, i2]) (fun c o hc' q => hk c o (fun w => hc' (by
        have w' : c = z ∨ c = TO ∨ c = i1 ∨ c = i2 := by simpa using w
        simp only [List.mem_cons, List.not_mem_nil, or_false]
        rcases w' with q | q | q | q <;> simp [q])) q) hf
  self := fun A i s Q E st h => wpAny_pyIter_zip st.1 h
def iZipT (K : PySem.W.Frag) (ta : TA) : TI := fun σ H R => ta σ H fun vs H1 => ∃ a b xs ys, vs = [.ref a, .ref b] ∧ SqT K H1 a xs ∧ SqT K H1 b ys ∧ xs.length = ys.length ∧ R (Itzt K a b xs.length) H1
theorem pi_zipT {X : Cx} {e e2 : Expr} {ta : TA} {p pos tpos : Pos} {elts : List Expr} {kk : Nat} (hg : Gl X "zip") (hm : X.mg "zip" = none) (ha : PA X [e, e2] ta)
    (hs : starEach [e, e2] X.env = (false, eval e X.env) :: starEach [e2] X.env := by rfl) (hpl : (backTo pos (starEach [e2] X.env)).any (·.1) = false := by rfl) :
    PI X (.Tuple elts kk tpos) (.Call (.Name "zip" p) [e, e2] [] pos) (iZipT X.K ta) := by
  refine ⟨fun pins s σ H R I h => ?_⟩
  refine Call_ (ld_blt I hg hm PyProof.Rows.boot_zip (PyProof.Rows.callWith_type1 (thn (ha.run pos pins s σ H _ I h) fun us s1 ⟨vs, H1, I1, r1, q1⟩ => ?_) hs hpl))
  obtain ⟨a, b, xs, ys, ex, hqx, hqy, hll, q⟩ := q1
  subst ex
  cases r1 with
  | cons r rr =>
    cases rr with
    | cons r' rr =>
      cases rr
      cases r
      cases r'
      obtain ⟨its, rv, p1, _⟩ := I1.tuple hqx
      obtain ⟨its2, rv2, p2, _⟩ := I1.tuple hqy
      have la : a < s1.heap.objs.size := p1.lt
      have lb : b < s1.heap.objs.size := p2.lt
      refine zip_begins2 (begins_tuple a its.toArray) (begins_tuple b its2.toArray) p1 p2 fun h' hz hTI hTO h1 h2 hsz hk => wpAny_pyIter_zip hz ?_
      have I2 : Inv X pins σ H1 { s1 with heap := h' } := I1.kept (t' := s1.toks) hk
      have Z : ZipSep2 (s1.heap.objs.size + 4) (s1.heap.objs.size + 2) (s1.heap.objs.size + 3) s1.heap.objs.size (s1.heap.objs.size + 1) [s1.heap.objs.size, a] [s1.heap.objs.size + 1, b] :=
        zip_sep2 (fp1 := [a]) (fp2 := [b]) (fun c hc => by rw [List.mem_singleton.mp hc]; exact la) (fun c hc => by rw [List.mem_singleton.mp hc]; exact lb)
      refine ⟨s1.heap.objs.size + 4, [s1.heap.objs.size + 4, s1.heap.objs.size + 2, s1.heap.objs.size + 3, s1.heap.objs.size, s1.heap.objs.size + 1], _, _, H1, rfl, I2, turn_zipT (n := xs.length) Z (Nat.ne_of_lt la) (Nat.ne_of_lt (Nat.lt_succ_of_lt lb)) (Nat.succ_ne_self _), ⟨hz, hTI, ⟨_, _, hTO⟩, ⟨_, h1, rfl, rfl⟩, ⟨_, h2, rfl, rfl⟩, Nat.zero_le _⟩, fun c hcm => ?_, q⟩
      have e' : c = s1.heap.objs.size + 4 ∨ c = s1.heap.objs.size + 2 ∨ c = s1.heap.objs.size + 3 ∨ c = s1.heap.objs.size ∨ c = s1.heap.objs.size + 1 := by simpa using hcm
      have hle : s1.heap.objs.size ≤ c := by
        rcases e' with z | z | z | z | z
        · rw [z]; exact Nat.le_add_right _ _
        · rw [z]; exact Nat.le_add_right _ _
        · rw [z]; exact Nat.le_add_right _ _
        · rw [z]; exact Nat.le_refl _
        · rw [z]; exact Nat.le_add_right _ _
      exact I1.fpOk hle (I1.hok.fresh hle)

/-! ### .. by data -/
def enD : Int → List D → List D
  | _, [] => []
  | k, d :: r => .tup [.int k, d] :: enD (k + 1) r
theorem enD_get : ∀ {l : List D} {k : Int} {i : Nat} {d : D}, (enD k l)[i]? = some d → ∃ x, l[i]? = some x ∧ d = .tup [.int (k + (i : Int)), x]
  | [], _, _, _, h => by simp [enD] at h
  | x :: l, k, 0, d, h => by
    have h : D.tup [.int k, x] = d := Option.some.inj h
    exact ⟨x, rfl, by rw [← h]; simp⟩
  | x :: l, k, i + 1, d, h => by
    obtain ⟨y, h1, h2⟩ := enD_get (l := l) (k := k + 1) (i := i) h
    refine ⟨y, h1, ?_⟩
    rw [h2]
    have : k + 1 + (i : Int) = k + ((i + 1 : Nat) : Int) := by omega
    rw [this]
theorem enD_len : ∀ (l : List D) (k : Int), (enD k l).length = l.length
  | [], _ => rfl
  | x :: l, k => by
    show (enD (k + 1) l).length + 1 = l.length + 1
    rw [enD_len l]
def zpD : List D → List D → List D
  | x :: a, y :: b => .tup [x, y] :: zpD a b
  | _, _ => []
theorem zpD_get : ∀ {a b : List D} {i : Nat} {d : D}, (zpD a b)[i]? = some d → ∃ x y, a[i]? = some x ∧ b[i]? = some y ∧ d = .tup [x, y]
  | [], _, _, _, h => by simp [zpD] at h
  | _ :: _, [], _, _, h => by simp [zpD] at h
  | x :: a, y :: b, 0, d, h => by
    have h : D.tup [x, y] = d := Option.some.inj h
    exact ⟨x, y, rfl, rfl, h.symm⟩
  | x :: a, y :: b, i + 1, d, h => zpD_get (a := a) (b := b) (i := i) h
theorem zpD_len : ∀ (a b : List D), a.length = b.length → (zpD a b).length = a.length
  | [], _, _ => rfl
  | _ :: _, [], h => by cases h
  | x :: a, y :: b, h => by
    show (zpD a b).length + 1 = a.length + 1
    rw [zpD_len a b (Nat.succ.inj h)]
def iEnD (k : Int) (f : Env → Option D) : Env → Option (List D) := fun ρ => match f ρ with
  | some (.tup l) => some (enD k l)
  | _ => none
def iZpD (f g : Env → Option D) : Env → Option (List D) := fun ρ => match f ρ with
  | some (.tup a) => match g ρ with
    | some (.tup b) => gd (Nat.beq a.length b.length) (some (zpD a b))
    | _ => none
  | _ => none
section
variable {T : Tx} {X : Cx} {e e2 : Expr} {f f2 : Env → Option D} {p pos tpos : Pos} {elts : List Expr} {kk : Nat}
theorem wk_en {S1 : Hp} {a : Addr} {xs : List V} {l : List D} {k : Int} (h : S1 a = some (.tup xs)) (r : Reps S1 l xs) : Wk T (Iten X.K a xs.length k) S1 (enD k l) := fun i S2 H2 s12 c t => by
  have hq : SqT X.K H2 a xs := .inl (.inl (c a _ (s12 a _ h)))
  refine ⟨fun d hd => ?_, fun hl => ⟨⟨xs, hq, rfl⟩, by rw [enD_len] at hl; rw [r.len]; exact hl⟩⟩
  obtain ⟨x, h1, h2⟩ := enD_get hd
  obtain ⟨v, e1, r1⟩ := r.get h1
  refine ⟨⟨xs, v, hq, rfl, e1⟩, fun y H3 ⟨o, y', ey, ho, eH, hy⟩ => ?_⟩
  have e5 : y' = v := by
    have := hy xs hq
    rw [e1] at this
    exact (Option.some.inj this).symm
  subst e5
  have ee := Ext.new (T := T) (o := .tup [.int (k + (i : Nat)), y']) c t ho
  refine ⟨_, by rw [eH]; exact ee, ?_⟩
  rw [ey, h2]
  exact ⟨o, _, rfl, upd_same, .cons rfl (.one (Rep.mono (s12.trans ee.s) r1))⟩
theorem si_en (hg : Gl X "enumerate") (hm : X.mg "enumerate" = none) (h : SE T X e f) (hs : starEach [e] X.env = [(false, eval e X.env)] := by rfl) (hs1 : starEach (e :: []) X.env = (false, eval e X.env) :: starEach [] X.env := by rfl) :
    SI T X (.Tuple elts kk tpos) (.Call (.Name "enumerate" p) [e] [] pos) (iEnD 0 f) := piI (pi_enumT hg hm (pa_cons h pa_nil hs1) hs) fun σ H R ⟨ρ, ds, B, S0, S, e, k, q⟩ => by
  unfold iEnD at e
  split at e
  · rename_i l hl
    cases e
    refine ⟨ρ, _, B, S0, S, hl, k, fun v S' H' e1 r => ?_⟩
    obtain ⟨a, xs, ev, ha, r⟩ := r
    exact ⟨a, xs, by rw [ev], .inl (.inl (e1.c a _ ha)), q _ S' H' e1 (wk_en ha r)⟩
  · cases e
theorem boot_enum' : bootBuiltins "enumerate" = some (.type "enumerate") := by decide +kernel
theorem si_en1 {k1 : Nat} {kp kp2 : Pos} (hg : Gl X "enumerate") (hm : X.mg "enumerate" = none) (h : SE T X e f) (hs1 : starEach (e :: []) X.env = (false, eval e X.env) :: starEach [] X.env := by rfl)
    (he' : starEach [e] X.env = (false, eval e X.env) :: starEach [] X.env := by rfl) (hpl : (backTo pos (starEach [e] X.env)).any (·.1) = false := by rfl) :
    SI T X (.Tuple elts kk tpos) (.Call (.Name "enumerate" p) [e] [⟨some "start", .Constant (.int 1) k1 kp, kp2⟩] pos) (iEnD 1 f) := piI (pi_enumT1 hg hm (pa_cons h pa_nil hs1) he' hpl boot_enum') fun σ H R ⟨ρ, ds, B, S0, S, e, k, q⟩ => by
  unfold iEnD at e
  split at e
  · rename_i l hl
    cases e
    refine ⟨ρ, _, B, S0, S, hl, k, fun v S' H' e1 r => ?_⟩
    obtain ⟨a, xs, ev, ha, r⟩ := r
    exact ⟨a, xs, by rw [ev], .inl (.inl (e1.c a _ ha)), q _ S' H' e1 (wk_en ha r)⟩
  · cases e
theorem si_zp (hg : Gl X "zip") (hm : X.mg "zip" = none) (h : SE T X e f) (h2 : SE T X e2 f2) (hs : starEach (e :: [e2]) X.env = (false, eval e X.env) :: starEach [e2] X.env := by rfl) (hs2 : starEach (e2 :: []) X.env = (false, eval e2 X.env) :: starEach [] X.env := by rfl) (hpl : (backTo pos (starEach [e2] X.env)).any (·.1) = false := by rfl) :
    SI T X (.Tuple elts kk tpos) (.Call (.Name "zip" p) [e, e2] [] pos) (iZpD f f2) := piI (pi_zipT hg hm (pa_cons h (pa_cons h2 pa_nil hs2) hs) hs hpl) fun σ H R ⟨ρ, ds, B, S0, S, e, k, q⟩ => by
  unfold iZpD at e
  split at e
  · rename_i l hl
    split at e
    · rename_i m hm
      obtain ⟨h1, h2⟩ := gd_some e
      cases h2
      have h1 := Nat.eq_of_beq_eq_true h1
      refine ⟨ρ, _, B, S0, S, hl, k, fun v S' H' e1 r => ⟨ρ, _, B, S0, S', hm, k.ext e1, fun u S2 H2 e2 r2 => ?_⟩⟩
      obtain ⟨a, xs, ev, ha, r⟩ := Rep.mono e2.s r
      obtain ⟨b, ys, eu, hb, r2⟩ := r2
      refine ⟨a, b, xs, ys, by rw [ev, eu], .inl (.inl (e2.c a _ ha)), .inl (.inl (e2.c b _ hb)), by rw [r.len, r2.len, h1], q _ S2 H2 (e1.trans e2) fun i S3 H3 s12 c t => ?_⟩
      have hq : SqT X.K H3 a xs := .inl (.inl (c a _ (s12 a _ ha)))
      have hq2 : SqT X.K H3 b ys := .inl (.inl (c b _ (s12 b _ hb)))
      refine ⟨fun d hd => ?_, fun hl => ⟨⟨xs, ys, hq, hq2, rfl, by rw [r.len, r2.len, h1]⟩, by rw [zpD_len _ _ h1] at hl; rw [r.len]; exact hl⟩⟩
      obtain ⟨x, y, k1, k2, k3⟩ := zpD_get hd
      obtain ⟨v1, f1, r3⟩ := r.get k1
      obtain ⟨v2, f2, r4⟩ := r2.get k2
      refine ⟨⟨xs, ys, v1, v2, hq, hq2, rfl, by rw [r.len, r2.len, h1], f1, f2⟩, fun z H4 ⟨o, y1, y2, ez, ho, eH, hy1, hy2⟩ => ?_⟩
      have e5 : y1 = v1 := by
        have := hy1 xs hq
        rw [f1] at this
        exact (Option.some.inj this).symm
      have e6 : y2 = v2 := by
        have := hy2 ys hq2
        rw [f2] at this
        exact (Option.some.inj this).symm
      subst e5 e6
      have ee := Ext.new (T := T) (o := .tup [y1, y2]) c t ho
      refine ⟨_, by rw [eH]; exact ee, ?_⟩
      rw [ez, k3]
      exact ⟨o, _, rfl, upd_same, .cons (Rep.mono (s12.trans ee.s) r3) (.one (Rep.mono (s12.trans ee.s) r4))⟩
    · cases e
  · cases e
end
end DL

set_option Elab.async false
set_option linter.all false
set_option maxRecDepth 100000
set_option maxHeartbeats 2000000
namespace DL
open PySem PySem.Spec PyProof.Rows L2 LamX NdefX

/-! ### an expression as a statement; tuple(range), list(range) -/
def cExpr (f : Env → Option D) : Env → Option Out := fun ρ => match f ρ with
  | some _ => some (.nx ρ)
  | none => none
def lRg (f : Env → Option (List D)) : Env → Option (List D) := f
section
variable {T : Tx} {X : Cx} {e e2 a : Expr} {f f2 fa : Env → Option D} {p pos : Pos}
theorem ss_expr (he : SE T X e f) (hs : swapsWith e none pos.line X.env = pure false := by rfl) : SS T X (.Expr e pos) (cExpr f) := psI (ps_expr he hs) fun D σ H ⟨ρ, o, B, S0, S, e, k, q⟩ => by
  unfold cExpr at e
  split at e
  · rename_i d hd
    cases e
    exact ⟨ρ, d, B, S0, S, hd, k, fun v S' H' e1 r => q S' H' σ (k.ext e1)⟩
  · cases e
theorem rgV_rep {H : Hp} (a b : Int) : Reps H (rgD a (b - a).toNat) (rgV a b) := by
  unfold rgV
  generalize (b - a).toNat = n
  have : ∀ (n : Nat) (a : Int), Reps H (rgD a n) ((List.range n).map fun i => V.int (a + (i : Nat))) := by
    intro n
    induction n with
    | zero => intro a; exact rfl
    | succ n ih =>
      intro a
      rw [List.range_succ_eq_map, List.map_cons, List.map_map]
      refine .cons (by show V.int _ = V.int _; simp) ?_
      have := ih (a + 1)
      have e : ((fun i : Nat => V.int (a + (i : Int))) ∘ Nat.succ) = fun i : Nat => V.int (a + 1 + (i : Int)) := by
        funext i
        show V.int _ = V.int _
        congr 1
        rw [Nat.succ_eq_add_one, Int.natCast_add, Int.natCast_one]
        omega
      rw [e]
      exact this
  exact this n a
theorem rgOk {a b : Int} (h : (smI a && smI b) = true) : RgOk a b := by
  rw [Bool.and_eq_true] at h
  have h1 := smI_ok h.1
  have h2 := smI_ok h.2
  exact ⟨by omega, by omega, by omega, by omega, by omega⟩
/-- tuple(range(a, b)) -/
theorem se_tupRg2 {p2 pos2 : Pos} (hc : X.calm = true) (hgt : Gl X "tuple") (hmt : X.mg "tuple" = none) (hg : Gl X "range") (hm : X.mg "range" = none) (h : SE T X e f) (h2 : SE T X e2 f2)
    (na : starEach [.Call (.Name "range" p2) [e, e2] [] pos2] X.env = (false, eval (.Call (.Name "range" p2) [e, e2] [] pos2) X.env) :: starEach [] X.env := by rfl)
    (nb : starEach [e, e2] X.env = (false, eval e X.env) :: starEach [e2] X.env := by rfl) (nc : starEach [e2] X.env = (false, eval e2 X.env) :: starEach [] X.env := by rfl) (hp : (backTo pos2 (starEach [e2] X.env)).any (·.1) = false := by rfl) :
    SE T X (.Call (.Name "tuple" p) [.Call (.Name "range" p2) [e, e2] [] pos2] [] pos) (eTup (iRg2 f f2)) := peI (pe_tupRg hc hgt hmt (prg_2 hg hm h h2 nb nc hp) na) fun σ H Q ⟨ρ, z, B, S0, S, e, k, q⟩ => by
  unfold eTup at e
  split at e
  · rename_i l hl
    cases e
    unfold iRg2 at hl
    split at hl
    · rename_i a ha
      split at hl
      · rename_i b hb
        obtain ⟨h1, h2⟩ := gd_some hl
        cases h2
        refine ⟨ρ, _, B, S0, S, ha, k, fun v S1 H1 e1 r1 => ⟨ρ, _, B, S0, S1, hb, k.ext e1, fun u S2 H2 e2 r2 => ⟨a, b, r1, r2, rgOk h1, fun o ho => ?_⟩⟩⟩
        have e5 := Ext.new (T := T) (o := .tup (rgV a b)) e2.c e2.t ho
        exact q _ _ _ ((e1.trans e2).trans e5) ⟨o, _, rfl, upd_same, rgV_rep a b⟩
      · cases hl
    · cases hl
  · cases e
/-- list(range(n)) -/
theorem sl_lstRg1 {p2 pos2 : Pos} (hc : X.calm = true) (hgt : Gl X "list") (hmt : X.mg "list" = none) (hg : Gl X "range") (hm : X.mg "range" = none) (h : SE T X e f)
    (na : starEach [.Call (.Name "range" p2) [e] [] pos2] X.env = (false, eval (.Call (.Name "range" p2) [e] [] pos2) X.env) :: starEach [] X.env := by rfl)
    (nc : starEach [e] X.env = (false, eval e X.env) :: starEach [] X.env := by rfl) :
    SL T X (.Call (.Name "list" p) [.Call (.Name "range" p2) [e] [] pos2] [] pos) (iRg1 f) := peI (pe_listRg hc hgt hmt (prg_1 hg hm h nc) na) fun σ H Q ⟨ρ, z, B, S0, S, e, k, q⟩ => by
  unfold iRg1 at e
  split at e
  · rename_i a ha
    obtain ⟨h1, h2⟩ := gd_some e
    cases h2
    refine ⟨ρ, _, B, S0, S, ha, k, fun v S1 H1 e1 r1 => ⟨a, r1, rgOk (by rw [h1]; decide), fun o ho => ?_⟩⟩
    have e5 := Ext.newO (T := T) (o := .lst (rgV 0 a)) e1.c e1.t ho
    exact q o _ _ _ (e1.trans e5) upd_same (fresh_of e1.c ho) (e1.h.n o ho) (by have := rgV_rep (H := S1) 0 a; rwa [Int.sub_zero] at this)
  · cases e
end

/-! ### contracts -/
def spD (TT : List NTab) (n : Nat) (F : List D → Option D) : Sp := fun vs H Q _ => ∃ (T : Tx) (S : Hp) (ds : List D) (d : D), T.tabs = TT ∧ Same S H ∧ Tb T H ∧ Reps S ds vs ∧ ds.length = n ∧ F ds = some d ∧ ∀ v S' H', Ext T S H S' H' → Rep S' d v → Q v H'
def runFn (N n : Nat) (g : Env → Option Out) : List D → Option D := fun ds => gd (Nat.beq ds.length n) (match g (ds.map Sl.pu ++ List.replicate (N - n) Sl.no) with
  | some (.rt d) => some d
  | some (.nx _) => some .non
  | _ => none)
structure Md where
  P : Program
  w : World
  K : PySem.W.Frag
  mg : Str → Option Value
  base : Heap
  TT : List NTab
/-- the def x keeps its contract -/
structure Cal (M : Md) (k : Nat) (x : Str) (n : Nat) (F : List D → Option D) : Prop where
  ex : ∃ f fd ps, FnOk M.P M.w M.K M.mg M.base CX0 k f fd ps (spD M.TT n F) ∧ M.mg x = some (.ref f) ∧ PySem.W.keepIn M.K (.ref f) = true ∧ Binds M.K fd ps []
  ar : ∀ l d, F l = some d → l.length = n
structure DefAt (M : Md) (x : Str) (st : Stmt) (ps : List Str) : Prop where
  ex : ∃ f fd, Fun M.K x x st f fd ∧ M.mg x = some (.ref f) ∧ Binds M.K fd ps []
/-- the context of a def's body -/
abbrev XD (M : Md) (N : List Str) (x : Str) (sc : Scope) (f : Addr) (cdv : Value) (A : Around) (outer : List PySem.Env) (s : Shared) (H : Hp) (E : XK) : Cx := (cxOf CX0 M.P M.w M.K M.mg M.base N x sc f cdv A outer s H E).nox
def Body (M : Md) (k : Nat) (N : List Str) (x : Str) (st : Stmt) (g : Env → Option Out) : Prop :=
  ∀ (T : Tx) (f : Addr) (cdv : Value) (A : Around) (outer : List PySem.Env) (s : Shared) (H : Hp) (E : XK), T.tabs = M.TT → Room k (A.deeper (envOfC x (defScope st) s.heap.objs.size f cdv)) →
    SSs T (XD M N x (defScope st) f cdv A outer s H E) (defBody st) g
theorem runFn_ar {N n : Nat} {g : Env → Option Out} {l : List D} {d : D} (h : runFn N n g l = some d) : l.length = n := Nat.eq_of_beq_eq_true (gd_some h).1
theorem start_ok {T : Tx} {N : List Str} {S H : Hp} {ds : List D} {vs : List V} (c : Same S H) (t : Tb T H) (r : Reps S ds vs) (hn : ds.length ≤ N.length) : Ok T H S S H (start N vs) (ds.map Sl.pu ++ List.replicate (N.length - ds.length) Sl.no) := by
  have hl := r.len
  have at1 : ∀ (i : Nat) (s : Sl), (ds.map Sl.pu ++ List.replicate (N.length - ds.length) Sl.no)[i]? = some s → (∃ d, ds[i]? = some d ∧ s = .pu d) ∨ s = .no := by
    intro i s h
    by_cases hi : i < ds.length
    · rw [List.getElem?_append_left (by rw [List.length_map]; exact hi), List.getElem?_map, List.getElem?_eq_getElem hi] at h
      exact .inl ⟨_, List.getElem?_eq_getElem hi, (Option.some.inj h).symm⟩
    · rw [List.getElem?_append_right (by rw [List.length_map]; omega)] at h
      exact .inr (List.eq_of_mem_replicate (List.mem_of_getElem? h))
  refine ⟨Ext.refl c t, ?_, fun i s x e1 e2 => ?_, fun i j p a b hn e1 e2 _ _ => ?_⟩
  · unfold L2.start
    rw [List.length_append, List.length_append, List.length_map, List.length_map, List.length_replicate, List.length_replicate, hl]
  · rcases at1 i s e1 with ⟨d, hd, es⟩ | es
    · subst es
      obtain ⟨v, hv, rv⟩ := r.get hd
      have hi : i < vs.length := (List.getElem?_eq_some_iff.mp hv).1
      unfold L2.start at e2
      rw [List.getElem?_append_left (by rw [List.length_map]; exact hi), List.getElem?_map, hv] at e2
      exact ⟨v, (Option.some.inj e2).symm, rv⟩
    · subst es; exact True.intro
  · rcases at1 i _ e1 with ⟨_, _, es⟩ | es <;> cases es
theorem cal_of {M : Md} {k : Nat} {N ps : List Str} {x : Str} {st : Stmt} {g : Env → Option Out} (h : DefAt M x st ps) (S : FnScope N ps (defScope st)) (b : Body M k N x st g) : Cal M (k + 1) x ps.length (runFn N.length ps.length g) := by
  obtain ⟨f, fd, F, hm, hb⟩ := h.ex
  refine ⟨⟨f, fd, ps, F.ok S (fun vs H Q E ⟨T, Sx, ds, d, _, _, _, r, hl, _⟩ => by rw [r.len, hl]) fun cdv A outer s H vs Q E hr ⟨T, Sx, ds, d, hT, c, t, r, hl, hF, q⟩ => ?_, hm, F.kp, hb⟩, fun l d h => runFn_ar h⟩
  have hps : ps.length ≤ N.length := by
    have := congrArg List.length S.pre
    rw [List.length_take] at this
    omega
  refine ⟨_, b T f cdv A outer s H E hT hr, ?_⟩
  unfold runFn at hF
  obtain ⟨_, hF⟩ := gd_some hF
  have k0 := start_ok (N := N) c t r (by omega)
  rw [hl] at k0
  split at hF
  · rename_i d' hg
    cases hF
    exact ⟨_, _, H, Sx, Sx, hg, k0, fun v S' H' e rv => q v S' H' e rv⟩
  · rename_i ρ' hg
    cases hF
    exact ⟨_, _, H, Sx, Sx, hg, k0, fun S' H' σ' k' => q .non S' H' k'.e rfl⟩
  · cases hF
theorem Cal.lev {M : Md} {j k : Nat} {x : Str} {n : Nat} {F : List D → Option D} (c : Cal M j x n F) (h : j ≤ k) : Cal M k x n F := by
  obtain ⟨⟨f, fd, ps, Fn, r⟩, ar⟩ := c
  exact ⟨⟨f, fd, ps, Fn.mono h, r⟩, ar⟩
theorem cal_none {M : Md} {k : Nat} {x : Str} {st : Stmt} {ps : List Str} {n : Nat} (h : DefAt M x st ps) (hn : ps.length = n) : Cal M k x n (fun _ => none) := by
  obtain ⟨f, fd, F, hm, hb⟩ := h.ex
  refine ⟨⟨f, fd, ps, ⟨(fun vs H Q E ⟨_, _, _, _, _, _, _, _, _, e, _⟩ => by cases e), (fun A outer s H args us vs Q E _ _ _ _ ⟨_, _, _, _, _, _, _, _, _, e, _⟩ => by cases e)⟩, hm, F.kp, hb⟩, fun l d e => by cases e⟩
section
variable {T : Tx} {M : Md} {X : Cx} {k : Nat} {x : Str} {n : Nat} {F : List D → Option D} {a : Expr} {es : List Expr} {fr : Env → Option (List D)} {p pos : Pos}
theorem se_call (C : Cal M k x n F) (hT : T.tabs = M.TT) (hX : (⟨X.prog, X.w, X.K, X.mg, X.base, M.TT⟩ : Md) = M) (hr : Room k X.A) (hg : Gl X x) (ha : SA T X (a :: es) fr) (hdb : (x == ("__debug__" : Str)) = false := by decide)
    (he : starEach (a :: es) X.env = (false, eval a X.env) :: starEach es X.env := by rfl) (hpl : (backTo pos (starEach es X.env)).any (·.1) = false := by rfl) :
    SE T X (.Call (.Name x p) (a :: es) [] pos) (eCall F fr) := by
  obtain ⟨P', w', K', mg', base', TT'⟩ := M
  simp only [Md.mk.injEq] at hX
  obtain ⟨h1, h2, h3, h4, h5, _⟩ := hX
  subst h1 h2 h3 h4 h5
  obtain ⟨⟨f, fd, ps, Fn, hm, hk, hb⟩, ar⟩ := C
  refine peI (pe_call (E := E0) Fn hr hg hm hk hb .nil pass0 ha hdb he hpl) fun σ H Q ⟨ρ, z, B, S0, S, e, k, q⟩ => ?_
  unfold eCall at e
  split at e
  · rename_i l hl
    refine ⟨ρ, l, B, S0, S, hl, k, fun vs S1 H1 e1 r1 => ⟨T, S1, l, z, hT, e1.c, e1.t, by rw [List.append_nil]; exact r1, ar l z e, e, fun v S' H' e2 r2 => q v S' H' (e1.trans e2) r2⟩⟩
  · cases e
end
/-- the built-ins' names stand for the built-ins -/
structure Blt (mg : Str → Option Value) : Prop where
  isi : mg "isinstance" = none
  int : mg "int" = none
  bool : mg "bool" = none
  tuple : mg "tuple" = none
  str : mg "str" = none
  len : mg "len" = none
  range : mg "range" = none
  enumerate : mg "enumerate" = none
  zip : mg "zip" = none
  sorted : mg "sorted" = none
  max : mg "max" = none
  min : mg "min" = none
  sum : mg "sum" = none
  any : mg "any" = none
  all : mg "all" = none
  list : mg "list" = none
  reversed : mg "reversed" = none
  abs : mg "abs" = none
  comb : mg "comb" = some (.builtin "math.comb")
  gb : ∃ t, mg "GREATEST_BOUND" = some (.int 999 t)
end DL

set_option Elab.async false
set_option linter.all false
set_option maxRecDepth 100000
set_option maxHeartbeats 4000000
namespace DL
open PySem PySem.Spec PyProof.Rows L2 LamX NdefX
abbrev topS (i : Nat) : Stmt := PySem.Challenge.pw_sincemarks_k70_whole_sorted_counts_as_bo.main.body.getD i (.Pass ⟨0, 0, 0, 0⟩)
theorem bt_int : bootBuiltins "int" = some (.type "int") := by decide +kernel
theorem bt_bool : bootBuiltins "bool" = some (.type "bool") := by decide +kernel
theorem bt_str : bootBuiltins "str" = some (.type "str") := by decide +kernel
theorem bt_tuple : bootBuiltins "tuple" = some (.type "tuple") := by decide +kernel
theorem bt_len : bootBuiltins "len" = some (.builtin "len") := by decide +kernel
theorem bt_min : bootBuiltins "min" = some (.builtin "min") := by decide +kernel
theorem bt_max : bootBuiltins "max" = some (.builtin "max") := by decide +kernel
theorem bt_sum : bootBuiltins "sum" = some (.builtin "sum") := by decide +kernel
theorem bt_any : bootBuiltins "any" = some (.builtin "any") := by decide +kernel
theorem bt_all : bootBuiltins "all" = some (.builtin "all") := by decide +kernel
theorem bt_sorted : bootBuiltins "sorted" = some (.builtin "sorted") := by decide +kernel
abbrev N_is_integer : List PySem.Str := ["thing"]
theorem nd_is_integer : N_is_integer.Nodup := by decide +kernel
def g_is_integer : Env → Option Out := (cRet (eAnd (eUn (gIs isInt) (eVar 0)) (eNot (eUn (gIs isBl) (eVar 0)))))
def F_is_integer : List D → Option D := runFn 1 1 g_is_integer
theorem b_is_integer {M : Md} (B : Blt M.mg) : Body M 0 N_is_integer "is_integer" (topS 7) g_is_integer := fun T f cdv A outer s H E hT hr =>
  (ss_one (ss_ret (se_and (se_isi rfl B.isi (se_var (i := 0)) rfl B.int bt_int kit_int) (se_one (se_not (se_isi rfl B.isi (se_var (i := 0)) rfl B.bool bt_bool kit_bool))))))
theorem c_is_integer {M : Md} (B : Blt M.mg) (h : DefAt M "is_integer" (topS 7) ["thing"]) : Cal M 1 "is_integer" 1 F_is_integer := cal_of h ⟨rfl, rfl, rfl, nd_is_integer, rfl, by decide +kernel, by decide +kernel⟩ (b_is_integer B)
abbrev N_is_number : List PySem.Str := ["thing"]
theorem nd_is_number : N_is_number.Nodup := by decide +kernel
def g_is_number : Env → Option Out := (cRet (eAnd (eCall F_is_integer (aCons (eVar 0) aNil)) (eOp (gI fun i j => decide (j ≤ i)) (eVar 0) (eC (.int 0)))))
def F_is_number : List D → Option D := runFn 1 1 g_is_number
theorem b_is_number {M : Md} (B : Blt M.mg) (C_is_integer : Cal M 1 "is_integer" 1 F_is_integer) : Body M 1 N_is_number "is_number" (topS 8) g_is_number := fun T f cdv A outer s H E hT hr =>
  (ss_one (ss_ret (se_and (se_call C_is_integer hT rfl (hr.mono (by decide)) rfl (sa_cons (se_var (i := 0)) sa_nil)) (se_one (se_cmp od_ge (se_var (i := 0)) se_int)))))
theorem c_is_number {M : Md} (B : Blt M.mg) (h : DefAt M "is_number" (topS 8) ["thing"]) (C_is_integer : Cal M 1 "is_integer" 1 F_is_integer) : Cal M 2 "is_number" 1 F_is_number := cal_of h ⟨rfl, rfl, rfl, nd_is_number, rfl, by decide +kernel, by decide +kernel⟩ (b_is_number B C_is_integer)
abbrev N_is_natural : List PySem.Str := ["thing"]
theorem nd_is_natural : N_is_natural.Nodup := by decide +kernel
def g_is_natural : Env → Option Out := (cRet (eAnd (eCall F_is_integer (aCons (eVar 0) aNil)) (eOp (gI fun i j => decide (j ≤ i)) (eVar 0) (eC (.int 1)))))
def F_is_natural : List D → Option D := runFn 1 1 g_is_natural
theorem b_is_natural {M : Md} (B : Blt M.mg) (C_is_integer : Cal M 1 "is_integer" 1 F_is_integer) : Body M 1 N_is_natural "is_natural" (topS 9) g_is_natural := fun T f cdv A outer s H E hT hr =>
  (ss_one (ss_ret (se_and (se_call C_is_integer hT rfl (hr.mono (by decide)) rfl (sa_cons (se_var (i := 0)) sa_nil)) (se_one (se_cmp od_ge (se_var (i := 0)) se_int)))))
theorem c_is_natural {M : Md} (B : Blt M.mg) (h : DefAt M "is_natural" (topS 9) ["thing"]) (C_is_integer : Cal M 1 "is_integer" 1 F_is_integer) : Cal M 2 "is_natural" 1 F_is_natural := cal_of h ⟨rfl, rfl, rfl, nd_is_natural, rfl, by decide +kernel, by decide +kernel⟩ (b_is_natural B C_is_integer)
abbrev N_choose : List PySem.Str := ["top", "few"]
theorem nd_choose : N_choose.Nodup := by decide +kernel
def g_choose : Env → Option Out := (cSeq (cIf (bNot (bOf (eCall F_is_number (aCons (eVar 0) aNil)))) cNo cNext) (cSeq (cIf (bNot (bOf (eCall F_is_number (aCons (eVar 1) aNil)))) cNo cNext) (cSeq (cIf (bOf (eOp (gI fun i j => decide (j < i)) (eVar 1) (eVar 0))) (cRet (eC (.int 0))) cNext) (cRet (eCall gComb (aCons (eVar 0) (aCons (eVar 1) aNil)))))))
def F_choose : List D → Option D := runFn 2 2 g_choose
theorem b_choose {M : Md} (B : Blt M.mg) (C_is_number : Cal M 2 "is_number" 1 F_is_number) : Body M 2 N_choose "choose" (topS 11) g_choose := fun T f cdv A outer s H E hT hr =>
  (ss_cons (ss_if (st_not (st_val (se_call C_is_number hT rfl (hr.mono (by decide)) rfl (sa_cons (se_var (i := 0)) sa_nil)))) sss_never ss_nil) (ss_cons (ss_if (st_not (st_val (se_call C_is_number hT rfl (hr.mono (by decide)) rfl (sa_cons (se_var (i := 1)) sa_nil)))) sss_never ss_nil) (ss_cons (ss_if (st_cmp od_gt (se_var (i := 1)) (se_var (i := 0))) (ss_one (ss_ret se_int)) ss_nil) (ss_one (ss_ret (se_callM cd_comb rfl B.comb (sa_cons (se_var (i := 0)) (sa_cons (se_var (i := 1)) sa_nil))))))))
theorem c_choose {M : Md} (B : Blt M.mg) (h : DefAt M "choose" (topS 11) ["top", "few"]) (C_is_number : Cal M 2 "is_number" 1 F_is_number) : Cal M 3 "choose" 2 F_choose := cal_of h ⟨rfl, rfl, rfl, nd_choose, rfl, by decide +kernel, by decide +kernel⟩ (b_choose B C_is_number)
abbrev N_is_nested : List PySem.Str := ["thing", "chain", "version", "base"]
theorem nd_is_nested : N_is_nested.Nodup := by decide +kernel
def g_is_nested : Env → Option Out := (cSeq (cIf (bNot (bOf (eUn (gIs isTupD) (eVar 0)))) (cRet (eC (.bl false))) cNext) (cSeq (cNew 1 (aSz (aCons (eC (.int 0)) aNil))) (cSeq (cSet 2 (eC (.int 0))) (cSeq (cFor (iTupD (eVar 0)) (.one 3) (cSeq (cAug 2 (eC (.int 1))) (cSeq (cIf (bNot (bOf (eCall F_is_number (aCons (eVar 3) aNil)))) (cRet (eC (.bl false))) cNext) (cSeq (whileL (bOf (eOp (gI fun i j => decide (j < i)) (eIxOw 1 (eUn gNeg (eC (.int 1)))) (eVar 3))) (cPop 1) 80) (cSeq (cIf (bOf (eOp gNe (eIxOw 1 (eUn gNeg (eC (.int 1)))) (eVar 3))) (cRet (eC (.bl false))) cNext) (cApp 1 (eVar 2))))))) (cRet (eC (.bl true)))))))
def F_is_nested : List D → Option D := runFn 4 1 g_is_nested
theorem b_is_nested {M : Md} (B : Blt M.mg) (C_is_number : Cal M 2 "is_number" 1 F_is_number) : Body M 2 N_is_nested "is_nested" (topS 13) g_is_nested := fun T f cdv A outer s H E hT hr =>
  (ss_cons (ss_if (st_not (st_val (se_isi rfl B.isi (se_var (i := 0)) rfl B.tuple bt_tuple kit_tuple))) (ss_one (ss_ret se_bl)) ss_nil) (ss_cons (ss_new (i := 1) nd_is_nested rfl (by first | exact Or.inl rfl | exact Or.inr rfl) (sl_lst (sa_cons se_int sa_nil))) (ss_cons (ss_set (i := 2) nd_is_nested rfl (by first | exact Or.inl rfl | exact Or.inr rfl) se_int) (ss_cons (ss_for PassesOwn.never rfl (si_tup (se_var (i := 0))) (pg_name (i := 3) nd_is_nested rfl (by first | exact Or.inl rfl | exact Or.inr rfl)) (ss_cons (ss_aug (i := 2) nd_is_nested rfl (by first | exact Or.inl rfl | exact Or.inr rfl) se_int) (ss_cons (ss_if (st_not (st_val (se_call C_is_number hT rfl (hr.mono (by decide)) rfl (sa_cons (se_var (i := 3)) sa_nil)))) (ss_one (ss_ret se_bl)) ss_nil) (ss_cons (ss_while (n := 80) PassesOwn.never (st_cmp od_gt (se_ixOw (i := 1) rfl (by first | exact Or.inl rfl | exact Or.inr (Or.inl rfl) | exact Or.inr (Or.inr rfl)) (se_neg se_int)) (se_var (i := 3))) (ss_one (ss_pop (i := 1) rfl (by first | exact Or.inl rfl | exact Or.inr (Or.inl rfl) | exact Or.inr (Or.inr rfl))))) (ss_cons (ss_if (st_cmp od_ne (se_ixOw (i := 1) rfl (by first | exact Or.inl rfl | exact Or.inr (Or.inl rfl) | exact Or.inr (Or.inr rfl)) (se_neg se_int)) (se_var (i := 3))) (ss_one (ss_ret se_bl)) ss_nil) (ss_one (ss_app (i := 1) rfl (by first | exact Or.inl rfl | exact Or.inr (Or.inl rfl) | exact Or.inr (Or.inr rfl)) (se_var (i := 2))))))))) (ss_one (ss_ret se_bl))))))
theorem c_is_nested {M : Md} (B : Blt M.mg) (h : DefAt M "is_nested" (topS 13) ["thing"]) (C_is_number : Cal M 2 "is_number" 1 F_is_number) : Cal M 3 "is_nested" 1 F_is_nested := cal_of h ⟨rfl, rfl, rfl, nd_is_nested, rfl, by decide +kernel, by decide +kernel⟩ (b_is_nested B C_is_number)
abbrev N_need_plan : List PySem.Str := ["word", "thing"]
theorem nd_need_plan : N_need_plan.Nodup := by decide +kernel
def g_need_plan : Env → Option Out := (cIf (bNot (bOf (eCall F_is_nested (aCons (eVar 1) aNil)))) cNo cNext)
def F_need_plan : List D → Option D := runFn 2 2 g_need_plan
theorem b_need_plan {M : Md} (B : Blt M.mg) (C_is_nested : Cal M 3 "is_nested" 1 F_is_nested) : Body M 3 N_need_plan "need_plan" (topS 14) g_need_plan := fun T f cdv A outer s H E hT hr =>
  (ss_one (ss_if (st_not (st_val (se_call C_is_nested hT rfl (hr.mono (by decide)) rfl (sa_cons (se_var (i := 1)) sa_nil)))) sss_never ss_nil))
theorem c_need_plan {M : Md} (B : Blt M.mg) (h : DefAt M "need_plan" (topS 14) ["word", "thing"]) (C_is_nested : Cal M 3 "is_nested" 1 F_is_nested) : Cal M 4 "need_plan" 2 F_need_plan := cal_of h ⟨rfl, rfl, rfl, nd_need_plan, rfl, by decide +kernel, by decide +kernel⟩ (b_need_plan B C_is_nested)
abbrev N_need_number : List PySem.Str := ["word", "thing"]
theorem nd_need_number : N_need_number.Nodup := by decide +kernel
def g_need_number : Env → Option Out := (cIf (bNot (bOf (eCall F_is_number (aCons (eVar 1) aNil)))) cNo cNext)
def F_need_number : List D → Option D := runFn 2 2 g_need_number
theorem b_need_number {M : Md} (B : Blt M.mg) (C_is_number : Cal M 2 "is_number" 1 F_is_number) : Body M 2 N_need_number "need_number" (topS 15) g_need_number := fun T f cdv A outer s H E hT hr =>
  (ss_one (ss_if (st_not (st_val (se_call C_is_number hT rfl (hr.mono (by decide)) rfl (sa_cons (se_var (i := 1)) sa_nil)))) sss_never ss_nil))
theorem c_need_number {M : Md} (B : Blt M.mg) (h : DefAt M "need_number" (topS 15) ["word", "thing"]) (C_is_number : Cal M 2 "is_number" 1 F_is_number) : Cal M 3 "need_number" 2 F_need_number := cal_of h ⟨rfl, rfl, rfl, nd_need_number, rfl, by decide +kernel, by decide +kernel⟩ (b_need_number B C_is_number)
abbrev N_need_natural : List PySem.Str := ["word", "thing"]
theorem nd_need_natural : N_need_natural.Nodup := by decide +kernel
def g_need_natural : Env → Option Out := (cIf (bNot (bOf (eCall F_is_natural (aCons (eVar 1) aNil)))) cNo cNext)
def F_need_natural : List D → Option D := runFn 2 2 g_need_natural
theorem b_need_natural {M : Md} (B : Blt M.mg) (C_is_natural : Cal M 2 "is_natural" 1 F_is_natural) : Body M 2 N_need_natural "need_natural" (topS 16) g_need_natural := fun T f cdv A outer s H E hT hr =>
  (ss_one (ss_if (st_not (st_val (se_call C_is_natural hT rfl (hr.mono (by decide)) rfl (sa_cons (se_var (i := 1)) sa_nil)))) sss_never ss_nil))
theorem c_need_natural {M : Md} (B : Blt M.mg) (h : DefAt M "need_natural" (topS 16) ["word", "thing"]) (C_is_natural : Cal M 2 "is_natural" 1 F_is_natural) : Cal M 3 "need_natural" 2 F_need_natural := cal_of h ⟨rfl, rfl, rfl, nd_need_natural, rfl, by decide +kernel, by decide +kernel⟩ (b_need_natural B C_is_natural)
abbrev N_last_full : List PySem.Str := ["bases", "found", "version", "base"]
theorem nd_last_full : N_last_full.Nodup := by decide +kernel
def g_last_full : Env → Option Out := (cSeq (cSet 1 (eC (.int 0))) (cSeq (cFor (iEnD 1 (eVar 0)) (.two 2 3) (cIf (bOf (eOp gEq (eVar 3) (eC (.int 0)))) (cSet 1 (eVar 2)) cNext)) (cRet (eVar 1))))
def F_last_full : List D → Option D := runFn 4 1 g_last_full
theorem b_last_full {M : Md} (B : Blt M.mg) : Body M 0 N_last_full "last_full" (topS 17) g_last_full := fun T f cdv A outer s H E hT hr =>
  (ss_cons (ss_set (i := 1) nd_last_full rfl (by first | exact Or.inl rfl | exact Or.inr rfl) se_int) (ss_cons (ss_for PassesOwn.never rfl (si_en1 rfl B.enumerate (se_var (i := 0))) (pg_tup rfl (pgs_cons (pg_name (i := 2) nd_last_full rfl (by first | exact Or.inl rfl | exact Or.inr rfl)) (pgs_cons (pg_name (i := 3) nd_last_full rfl (by first | exact Or.inl rfl | exact Or.inr rfl)) pgs_nil))) (ss_one (ss_if (st_cmp od_eq (se_var (i := 3)) se_int) (ss_one (ss_set (i := 1) nd_last_full rfl (by first | exact Or.inl rfl | exact Or.inr rfl) (se_var (i := 2)))) ss_nil))) (ss_one (ss_ret (se_var (i := 1))))))
theorem c_last_full {M : Md} (B : Blt M.mg) (h : DefAt M "last_full" (topS 17) ["bases"]) : Cal M 1 "last_full" 1 F_last_full := cal_of h ⟨rfl, rfl, rfl, nd_last_full, rfl, by decide +kernel, by decide +kernel⟩ (b_last_full B)
abbrev N_ahead_and_behind : List PySem.Str := ["bases", "cut", "ahead", "behind", "base"]
theorem nd_ahead_and_behind : N_ahead_and_behind.Nodup := by decide +kernel
def g_ahead_and_behind : Env → Option Out := (cSeq (cSet 1 (eCall F_last_full (aCons (eVar 0) aNil))) (cSeq (cSet 2 (eSl (eVar 0) oNo (oYes (eOp gSub (eVar 1) (eC (.int 1)))))) (cSeq (cSet 3 (eCall gTupl (aCons (eFz (fLc (iTupD (eSl (eVar 0) (oYes (eVar 1)) oNo)) (.one 4) (List.map (·.2) ([("base", 4)] : List (PySem.Str × Nat))) bYes (eOp gSub (eVar 4) (eVar 1)))) aNil))) (cRet (eTup (aSz (aCons (eVar 2) (aCons (eVar 3) aNil))))))))
def F_ahead_and_behind : List D → Option D := runFn 5 1 g_ahead_and_behind
theorem b_ahead_and_behind {M : Md} (B : Blt M.mg) (C_last_full : Cal M 1 "last_full" 1 F_last_full) : Body M 1 N_ahead_and_behind "ahead_and_behind" (topS 18) g_ahead_and_behind := fun T f cdv A outer s H E hT hr =>
  (ss_cons (ss_set (i := 1) nd_ahead_and_behind rfl (by first | exact Or.inl rfl | exact Or.inr rfl) (se_call C_last_full hT rfl (hr.mono (by decide)) rfl (sa_cons (se_var (i := 0)) sa_nil))) (ss_cons (ss_set (i := 2) nd_ahead_and_behind rfl (by first | exact Or.inl rfl | exact Or.inr rfl) (se_sl (se_var (i := 0)) so_none (so_some (se_op od_sub (se_var (i := 1)) se_int)))) (ss_cons (ss_set (i := 3) nd_ahead_and_behind rfl (by first | exact Or.inl rfl | exact Or.inr rfl) (se_callTy cd_tuple rfl B.tuple bt_tuple (sa_cons (se_fz (sl_lc (own := [("base", 4)]) (by decide) rfl nd_ahead_and_behind  (si_tup (se_sl (se_var (i := 0)) (so_some (se_var (i := 1))) so_none)) (blkOk_by (show blkC N_ahead_and_behind (defScope (topS 18)) _ _ = true by decide +kernel)) (fun s H C cl fp => (pg_name (i := 4) nd_ahead_and_behind rfl (by first | exact Or.inl rfl | exact Or.inr rfl))) (fun s H C cl fp => sts_nil) (fun s H C cl fp => (se_op od_sub (se_var (i := 4)) (se_var (i := 1)))))) sa_nil))) (ss_one (ss_ret (se_tup (sa_cons (se_var (i := 2)) (sa_cons (se_var (i := 3)) sa_nil))))))))
theorem c_ahead_and_behind {M : Md} (B : Blt M.mg) (h : DefAt M "ahead_and_behind" (topS 18) ["bases"]) (C_last_full : Cal M 1 "last_full" 1 F_last_full) : Cal M 2 "ahead_and_behind" 1 F_ahead_and_behind := cal_of h ⟨rfl, rfl, rfl, nd_ahead_and_behind, rfl, by decide +kernel, by decide +kernel⟩ (b_ahead_and_behind B C_last_full)
abbrev N_put_beside : List PySem.Str := ["ahead", "behind", "cut", "base"]
theorem nd_put_beside : N_put_beside.Nodup := by decide +kernel
def g_put_beside : Env → Option Out := (cSeq (cSet 2 (eOp gAdd (eCall gLen (aCons (eVar 0) aNil)) (eC (.int 1)))) (cRet (eOp gAdd (eOp gAdd (eVar 0) (eTup (aSz (aCons (eC (.int 0)) aNil)))) (eCall gTupl (aCons (eFz (fLc (iTupD (eVar 1)) (.one 3) (List.map (·.2) ([("base", 3)] : List (PySem.Str × Nat))) bYes (eOp gAdd (eVar 2) (eVar 3)))) aNil)))))
def F_put_beside : List D → Option D := runFn 4 2 g_put_beside
theorem b_put_beside {M : Md} (B : Blt M.mg) : Body M 0 N_put_beside "put_beside" (topS 19) g_put_beside := fun T f cdv A outer s H E hT hr =>
  (ss_cons (ss_set (i := 2) nd_put_beside rfl (by first | exact Or.inl rfl | exact Or.inr rfl) (se_op od_add (se_callB cd_len rfl B.len bt_len (sa_cons (se_var (i := 0)) sa_nil)) se_int)) (ss_one (ss_ret (se_op od_add (se_op od_add (se_var (i := 0)) (se_tup (sa_cons se_int sa_nil))) (se_callTy cd_tuple rfl B.tuple bt_tuple (sa_cons (se_fz (sl_lc (own := [("base", 3)]) (by decide) rfl nd_put_beside  (si_tup (se_var (i := 1))) (blkOk_by (show blkC N_put_beside (defScope (topS 19)) _ _ = true by decide +kernel)) (fun s H C cl fp => (pg_name (i := 3) nd_put_beside rfl (by first | exact Or.inl rfl | exact Or.inr rfl))) (fun s H C cl fp => sts_nil) (fun s H C cl fp => (se_op od_add (se_var (i := 2)) (se_var (i := 3)))))) sa_nil))))))
theorem c_put_beside {M : Md} (B : Blt M.mg) (h : DefAt M "put_beside" (topS 19) ["ahead", "behind"]) : Cal M 1 "put_beside" 2 F_put_beside := cal_of h ⟨rfl, rfl, rfl, nd_put_beside, rfl, by decide +kernel, by decide +kernel⟩ (b_put_beside B)
end DL

set_option Elab.async false
set_option linter.all false
set_option maxRecDepth 100000
set_option maxHeartbeats 4000000
namespace DL
open PySem PySem.Spec PyProof.Rows L2 LamX NdefX
abbrev N_sorted_least : List PySem.Str := ["many", "reach", "least", "width", "capacity", "place"]
theorem nd_sorted_least : N_sorted_least.Nodup := by decide +kernel
def g_sorted_least : Env → Option Out := (cSeq (cExpr (eCall F_need_number (aCons (eC (.str ("many" : PySem.Str))) (aCons (eVar 0) aNil)))) (cSeq (cExpr (eCall F_need_natural (aCons (eC (.str ("reach" : PySem.Str))) (aCons (eVar 1) aNil)))) (cSeq (cNew 2 (aSz aNil)) (cSeq (cSet 3 (eC (.int 0))) (cSeq (cSet 4 (eC (.int 1))) (cSeq (cFor (iRg2 (eC (.int 1)) (eOp gAdd (eVar 0) (eC (.int 1)))) (.one 5) (cSeq (whileL (bOf (eOp (gI fun i j => decide (i ≤ j)) (eVar 4) (eVar 5))) (cSeq (cAug 3 (eC (.int 1))) (cSet 4 (eCall F_choose (aCons (eOp gAdd (eVar 3) (eVar 1)) (aCons (eVar 1) aNil))))) 80) (cApp 2 (eVar 3)))) (cFrz 2 (cRet (eCall gTupl (aCons (eVar 2) aNil))))))))))
def F_sorted_least : List D → Option D := runFn 6 2 g_sorted_least
theorem b_sorted_least {M : Md} (B : Blt M.mg) (C_choose : Cal M 3 "choose" 2 F_choose) (C_need_natural : Cal M 3 "need_natural" 2 F_need_natural) (C_need_number : Cal M 3 "need_number" 2 F_need_number) : Body M 3 N_sorted_least "sorted_least" (topS 21) g_sorted_least := fun T f cdv A outer s H E hT hr =>
  (ss_cons (ss_expr (se_call C_need_number hT rfl (hr.mono (by decide)) rfl (sa_cons se_str (sa_cons (se_var (i := 0)) sa_nil)))) (ss_cons (ss_expr (se_call C_need_natural hT rfl (hr.mono (by decide)) rfl (sa_cons se_str (sa_cons (se_var (i := 1)) sa_nil)))) (ss_cons (ss_new (i := 2) nd_sorted_least rfl (by first | exact Or.inl rfl | exact Or.inr rfl) (sl_lst sa_nil)) (ss_cons (ss_set (i := 3) nd_sorted_least rfl (by first | exact Or.inl rfl | exact Or.inr rfl) se_int) (ss_cons (ss_set (i := 4) nd_sorted_least rfl (by first | exact Or.inl rfl | exact Or.inr rfl) se_int) (ss_cons (ss_for PassesOwn.never rfl (si_rg2 rfl B.range se_int (se_op od_add (se_var (i := 0)) se_int)) (pg_name (i := 5) nd_sorted_least rfl (by first | exact Or.inl rfl | exact Or.inr rfl)) (ss_cons (ss_while (n := 80) PassesOwn.never (st_cmp od_le (se_var (i := 4)) (se_var (i := 5))) (ss_cons (ss_aug (i := 3) nd_sorted_least rfl (by first | exact Or.inl rfl | exact Or.inr rfl) se_int) (ss_one (ss_set (i := 4) nd_sorted_least rfl (by first | exact Or.inl rfl | exact Or.inr rfl) (se_call C_choose hT rfl (hr.mono (by decide)) rfl (sa_cons (se_op od_add (se_var (i := 3)) (se_var (i := 1))) (sa_cons (se_var (i := 1)) sa_nil))))))) (ss_one (ss_app (i := 2) rfl (by first | exact Or.inl rfl | exact Or.inr (Or.inl rfl) | exact Or.inr (Or.inr rfl)) (se_var (i := 3)))))) (ss_one (ss_frz (i := 2) (ss_ret (se_callTy cd_tuple rfl B.tuple bt_tuple (sa_cons (se_var (i := 2)) sa_nil)))))))))))
theorem c_sorted_least {M : Md} (B : Blt M.mg) (h : DefAt M "sorted_least" (topS 21) ["many", "reach"]) (C_choose : Cal M 3 "choose" 2 F_choose) (C_need_natural : Cal M 3 "need_natural" 2 F_need_natural) (C_need_number : Cal M 3 "need_number" 2 F_need_number) : Cal M 4 "sorted_least" 2 F_sorted_least := cal_of h ⟨rfl, rfl, rfl, nd_sorted_least, rfl, by decide +kernel, by decide +kernel⟩ (b_sorted_least B C_choose C_need_natural C_need_number)
abbrev N_least_sum : List PySem.Str := ["many", "reach"]
theorem nd_least_sum : N_least_sum.Nodup := by decide +kernel
def g_least_sum : Env → Option Out := (cRet (eCall gSum (aCons (eCall F_sorted_least (aCons (eVar 0) (aCons (eVar 1) aNil))) aNil)))
def F_least_sum : List D → Option D := runFn 2 2 g_least_sum
theorem b_least_sum {M : Md} (B : Blt M.mg) (C_sorted_least : Cal M 4 "sorted_least" 2 F_sorted_least) : Body M 4 N_least_sum "least_sum" (topS 22) g_least_sum := fun T f cdv A outer s H E hT hr =>
  (ss_one (ss_ret (se_callB (cd_sum rfl) rfl B.sum bt_sum (sa_cons (se_call C_sorted_least hT rfl (hr.mono (by decide)) rfl (sa_cons (se_var (i := 0)) (sa_cons (se_var (i := 1)) sa_nil))) sa_nil))))
theorem c_least_sum {M : Md} (B : Blt M.mg) (h : DefAt M "least_sum" (topS 22) ["many", "reach"]) (C_sorted_least : Cal M 4 "sorted_least" 2 F_sorted_least) : Cal M 5 "least_sum" 2 F_least_sum := cal_of h ⟨rfl, rfl, rfl, nd_least_sum, rfl, by decide +kernel, by decide +kernel⟩ (b_least_sum B C_sorted_least)
abbrev N_least_greatest : List PySem.Str := ["many", "reach", "high", "low", "middle"]
theorem nd_least_greatest : N_least_greatest.Nodup := by decide +kernel
def g_least_greatest : Env → Option Out := (cSeq (cExpr (eCall F_need_number (aCons (eC (.str ("many" : PySem.Str))) (aCons (eVar 0) aNil)))) (cSeq (cExpr (eCall F_need_natural (aCons (eC (.str ("reach" : PySem.Str))) (aCons (eVar 1) aNil)))) (cSeq (cIf (bOr (bOf (eOp gEq (eVar 0) (eC (.int 0)))) (bOf (eOp gEq (eVar 1) (eC (.int 1))))) (cRet (eVar 0)) cNext) (cSeq (cSet 2 (eC (.int 1))) (cSeq (whileL (bOf (eOp (gI fun i j => decide (i ≤ j)) (eCall F_choose (aCons (eOp gAdd (eVar 2) (eVar 1)) (aCons (eVar 1) aNil))) (eVar 0))) (cSet 2 (eOp gMul (eC (.int 2)) (eVar 2))) 80) (cSeq (cSet 3 (eOp gDiv (eVar 2) (eC (.int 2)))) (cSeq (whileL (bOf (eOp (gI fun i j => decide (j < i)) (eOp gSub (eVar 2) (eVar 3)) (eC (.int 1)))) (cSeq (cSet 4 (eOp gDiv (eOp gAdd (eVar 3) (eVar 2)) (eC (.int 2)))) (cIf (bOf (eOp (gI fun i j => decide (i ≤ j)) (eCall F_choose (aCons (eOp gAdd (eVar 4) (eVar 1)) (aCons (eVar 1) aNil))) (eVar 0))) (cSet 3 (eVar 4)) (cSet 2 (eVar 4)))) 80) (cRet (eVar 2)))))))))
def F_least_greatest : List D → Option D := runFn 5 2 g_least_greatest
theorem b_least_greatest {M : Md} (B : Blt M.mg) (C_choose : Cal M 3 "choose" 2 F_choose) (C_need_natural : Cal M 3 "need_natural" 2 F_need_natural) (C_need_number : Cal M 3 "need_number" 2 F_need_number) : Body M 3 N_least_greatest "least_greatest" (topS 23) g_least_greatest := fun T f cdv A outer s H E hT hr =>
  (ss_cons (ss_expr (se_call C_need_number hT rfl (hr.mono (by decide)) rfl (sa_cons se_str (sa_cons (se_var (i := 0)) sa_nil)))) (ss_cons (ss_expr (se_call C_need_natural hT rfl (hr.mono (by decide)) rfl (sa_cons se_str (sa_cons (se_var (i := 1)) sa_nil)))) (ss_cons (ss_if (st_pw (sw_or (st_cmp od_eq (se_var (i := 0)) se_int) (sw_or1 (st_cmp od_eq (se_var (i := 1)) se_int)))) (ss_one (ss_ret (se_var (i := 0)))) ss_nil) (ss_cons (ss_set (i := 2) nd_least_greatest rfl (by first | exact Or.inl rfl | exact Or.inr rfl) se_int) (ss_cons (ss_while (n := 80) PassesOwn.never (st_cmp od_le (se_call C_choose hT rfl (hr.mono (by decide)) rfl (sa_cons (se_op od_add (se_var (i := 2)) (se_var (i := 1))) (sa_cons (se_var (i := 1)) sa_nil))) (se_var (i := 0))) (ss_one (ss_set (i := 2) nd_least_greatest rfl (by first | exact Or.inl rfl | exact Or.inr rfl) (se_op od_mul se_int (se_var (i := 2)))))) (ss_cons (ss_set (i := 3) nd_least_greatest rfl (by first | exact Or.inl rfl | exact Or.inr rfl) (se_op od_div (se_var (i := 2)) se_int)) (ss_cons (ss_while (n := 80) PassesOwn.never (st_cmp od_gt (se_op od_sub (se_var (i := 2)) (se_var (i := 3))) se_int) (ss_cons (ss_set (i := 4) nd_least_greatest rfl (by first | exact Or.inl rfl | exact Or.inr rfl) (se_op od_div (se_op od_add (se_var (i := 3)) (se_var (i := 2))) se_int)) (ss_one (ss_if (st_cmp od_le (se_call C_choose hT rfl (hr.mono (by decide)) rfl (sa_cons (se_op od_add (se_var (i := 4)) (se_var (i := 1))) (sa_cons (se_var (i := 1)) sa_nil))) (se_var (i := 0))) (ss_one (ss_set (i := 3) nd_least_greatest rfl (by first | exact Or.inl rfl | exact Or.inr rfl) (se_var (i := 4)))) (ss_one (ss_set (i := 2) nd_least_greatest rfl (by first | exact Or.inl rfl | exact Or.inr rfl) (se_var (i := 4)))))))) (ss_one (ss_ret (se_var (i := 2)))))))))))
theorem c_least_greatest {M : Md} (B : Blt M.mg) (h : DefAt M "least_greatest" (topS 23) ["many", "reach"]) (C_choose : Cal M 3 "choose" 2 F_choose) (C_need_natural : Cal M 3 "need_natural" 2 F_need_natural) (C_need_number : Cal M 3 "need_number" 2 F_need_number) : Cal M 4 "least_greatest" 2 F_least_greatest := cal_of h ⟨rfl, rfl, rfl, nd_least_greatest, rfl, by decide +kernel, by decide +kernel⟩ (b_least_greatest B C_choose C_need_natural C_need_number)
abbrev N__built : List PySem.Str := ["track", "is_mirrored", "held", "sign", "ahead", "behind"]
theorem nd__built : N__built.Nodup := by decide +kernel
def g__built : Env → Option Out := (cSeq (cNew 2 (aSz aNil)) (cSeq (cFor (iStrD (eUn gRevS (eVar 0))) (.one 3) (cSeq (cIf (bOf (eOp gEq (eVar 3) (eC (.str ("-" : PySem.Str))))) (cSeq (cApp 2 (eTup (aSz aNil))) cCnt) cNext) (cSeq (cSetPop 4 2) (cSeq (cSetPop 5 2) (cIf (bOf (eVar 1)) (cApp 2 (eCall F_put_beside (aCons (eVar 5) (aCons (eVar 4) aNil)))) (cApp 2 (eCall F_put_beside (aCons (eVar 4) (aCons (eVar 5) aNil))))))))) (cRet (eIxOw 2 (eC (.int 0))))))
def F__built : List D → Option D := runFn 6 2 g__built
theorem b__built {M : Md} (B : Blt M.mg) (C_put_beside : Cal M 1 "put_beside" 2 F_put_beside) : Body M 1 N__built "_built" (topS 25) g__built := fun T f cdv A outer s H E hT hr =>
  (ss_cons (ss_new (i := 2) nd__built rfl (by first | exact Or.inl rfl | exact Or.inr rfl) (sl_lst sa_nil)) (ss_cons (ss_for PassesOwn.never rfl (si_str (se_revS (se_var (i := 0)))) (pg_name (i := 3) nd__built rfl (by first | exact Or.inl rfl | exact Or.inr rfl)) (ss_cons (ss_if (st_cmp od_eq (se_var (i := 3)) se_str) (ss_cons (ss_app (i := 2) rfl (by first | exact Or.inl rfl | exact Or.inr (Or.inl rfl) | exact Or.inr (Or.inr rfl)) (se_tup sa_nil)) (ss_one ss_cnt)) ss_nil) (ss_cons (ss_setPop (i := 2) (j := 4) nd__built rfl (by first | exact Or.inl rfl | exact Or.inr rfl) rfl (by first | exact Or.inl rfl | exact Or.inr (Or.inl rfl) | exact Or.inr (Or.inr rfl))) (ss_cons (ss_setPop (i := 2) (j := 5) nd__built rfl (by first | exact Or.inl rfl | exact Or.inr rfl) rfl (by first | exact Or.inl rfl | exact Or.inr (Or.inl rfl) | exact Or.inr (Or.inr rfl))) (ss_one (ss_if (st_val (se_var (i := 1))) (ss_one (ss_app (i := 2) rfl (by first | exact Or.inl rfl | exact Or.inr (Or.inl rfl) | exact Or.inr (Or.inr rfl)) (se_call C_put_beside hT rfl (hr.mono (by decide)) rfl (sa_cons (se_var (i := 5)) (sa_cons (se_var (i := 4)) sa_nil))))) (ss_one (ss_app (i := 2) rfl (by first | exact Or.inl rfl | exact Or.inr (Or.inl rfl) | exact Or.inr (Or.inr rfl)) (se_call C_put_beside hT rfl (hr.mono (by decide)) rfl (sa_cons (se_var (i := 4)) (sa_cons (se_var (i := 5)) sa_nil))))))))))) (ss_one (ss_ret (se_ixOw (i := 2) rfl (by first | exact Or.inl rfl | exact Or.inr (Or.inl rfl) | exact Or.inr (Or.inr rfl)) se_int)))))
theorem c__built {M : Md} (B : Blt M.mg) (h : DefAt M "_built" (topS 25) ["track", "is_mirrored"]) (C_put_beside : Cal M 1 "put_beside" 2 F_put_beside) : Cal M 2 "_built" 2 F__built := cal_of h ⟨rfl, rfl, rfl, nd__built, rfl, by decide +kernel, by decide +kernel⟩ (b__built B C_put_beside)
abbrev N_track_of : List PySem.Str := ["bases", "signs", "waiting", "plan", "ahead", "behind"]
theorem nd_track_of : N_track_of.Nodup := by decide +kernel
def g_track_of : Env → Option Out := (cSeq (cExpr (eCall F_need_plan (aCons (eC (.str ("bases" : PySem.Str))) (aCons (eVar 0) aNil)))) (cSeq (cNew 1 (aSz aNil)) (cSeq (cNew 2 (aSz (aCons (eVar 0) aNil))) (cSeq (whileL (bOf (eOp (gI fun i j => decide (j < i)) (eLenOw 2) (eC (.int 0)))) (cSeq (cSetPop 3 2) (cSeq (cIf (bOf (eOp gEq (eCall gLen (aCons (eVar 3) aNil)) (eC (.int 0)))) (cSeq (cApp 1 (eC (.str ("-" : PySem.Str)))) cCnt) cNext) (cSeq (cUnp 4 5 (eCall F_ahead_and_behind (aCons (eVar 3) aNil))) (cSeq (cApp 1 (eC (.str ("+" : PySem.Str)))) (cSeq (cApp 2 (eVar 5)) (cApp 2 (eVar 4))))))) 80) (cFrz 1 (cRet (eUn gJoin (eVar 1))))))))
def F_track_of : List D → Option D := runFn 6 1 g_track_of
theorem b_track_of {M : Md} (B : Blt M.mg) (C_ahead_and_behind : Cal M 2 "ahead_and_behind" 1 F_ahead_and_behind) (C_need_plan : Cal M 4 "need_plan" 2 F_need_plan) : Body M 4 N_track_of "track_of" (topS 26) g_track_of := fun T f cdv A outer s H E hT hr =>
  (ss_cons (ss_expr (se_call C_need_plan hT rfl (hr.mono (by decide)) rfl (sa_cons se_str (sa_cons (se_var (i := 0)) sa_nil)))) (ss_cons (ss_new (i := 1) nd_track_of rfl (by first | exact Or.inl rfl | exact Or.inr rfl) (sl_lst sa_nil)) (ss_cons (ss_new (i := 2) nd_track_of rfl (by first | exact Or.inl rfl | exact Or.inr rfl) (sl_lst (sa_cons (se_var (i := 0)) sa_nil))) (ss_cons (ss_while (n := 80) PassesOwn.never (st_cmp od_gt (se_lenOw (i := 2) rfl B.len rfl (by first | exact Or.inl rfl | exact Or.inr (Or.inl rfl) | exact Or.inr (Or.inr rfl))) se_int) (ss_cons (ss_setPop (i := 2) (j := 3) nd_track_of rfl (by first | exact Or.inl rfl | exact Or.inr rfl) rfl (by first | exact Or.inl rfl | exact Or.inr (Or.inl rfl) | exact Or.inr (Or.inr rfl))) (ss_cons (ss_if (st_cmp od_eq (se_callB cd_len rfl B.len bt_len (sa_cons (se_var (i := 3)) sa_nil)) se_int) (ss_cons (ss_app (i := 1) rfl (by first | exact Or.inl rfl | exact Or.inr (Or.inl rfl) | exact Or.inr (Or.inr rfl)) se_str) (ss_one ss_cnt)) ss_nil) (ss_cons (ss_unp (i := 4) (j := 5) rfl nd_track_of rfl rfl (by first | exact Or.inl rfl | exact Or.inr rfl) (by first | exact Or.inl rfl | exact Or.inr rfl) (se_call C_ahead_and_behind hT rfl (hr.mono (by decide)) rfl (sa_cons (se_var (i := 3)) sa_nil))) (ss_cons (ss_app (i := 1) rfl (by first | exact Or.inl rfl | exact Or.inr (Or.inl rfl) | exact Or.inr (Or.inr rfl)) se_str) (ss_cons (ss_app (i := 2) rfl (by first | exact Or.inl rfl | exact Or.inr (Or.inl rfl) | exact Or.inr (Or.inr rfl)) (se_var (i := 5))) (ss_one (ss_app (i := 2) rfl (by first | exact Or.inl rfl | exact Or.inr (Or.inl rfl) | exact Or.inr (Or.inr rfl)) (se_var (i := 4)))))))))) (ss_one (ss_frz (i := 1) (ss_ret (se_join rfl (se_var (i := 1))))))))))
theorem c_track_of {M : Md} (B : Blt M.mg) (h : DefAt M "track_of" (topS 26) ["bases"]) (C_ahead_and_behind : Cal M 2 "ahead_and_behind" 1 F_ahead_and_behind) (C_need_plan : Cal M 4 "need_plan" 2 F_need_plan) : Cal M 5 "track_of" 1 F_track_of := cal_of h ⟨rfl, rfl, rfl, nd_track_of, rfl, by decide +kernel, by decide +kernel⟩ (b_track_of B C_ahead_and_behind C_need_plan)
abbrev N_mirrored : List PySem.Str := ["bases"]
theorem nd_mirrored : N_mirrored.Nodup := by decide +kernel
def g_mirrored : Env → Option Out := (cRet (eCall F__built (aCons (eCall F_track_of (aCons (eVar 0) aNil)) (aCons (eC (.bl true)) aNil))))
def F_mirrored : List D → Option D := runFn 1 1 g_mirrored
theorem b_mirrored {M : Md} (B : Blt M.mg) (C_track_of : Cal M 5 "track_of" 1 F_track_of) (C__built : Cal M 2 "_built" 2 F__built) : Body M 5 N_mirrored "mirrored" (topS 27) g_mirrored := fun T f cdv A outer s H E hT hr =>
  (ss_one (ss_ret (se_call C__built hT rfl (hr.mono (by decide)) rfl (sa_cons (se_call C_track_of hT rfl (hr.mono (by decide)) rfl (sa_cons (se_var (i := 0)) sa_nil)) (sa_cons se_bl sa_nil)))))
theorem c_mirrored {M : Md} (B : Blt M.mg) (h : DefAt M "mirrored" (topS 27) ["bases"]) (C_track_of : Cal M 5 "track_of" 1 F_track_of) (C__built : Cal M 2 "_built" 2 F__built) : Cal M 6 "mirrored" 1 F_mirrored := cal_of h ⟨rfl, rfl, rfl, nd_mirrored, rfl, by decide +kernel, by decide +kernel⟩ (b_mirrored B C_track_of C__built)
abbrev N__shaped : List PySem.Str := ["buds", "lefts", "rights", "least_behind", "most_ahead", "ahead", "first", "second"]
theorem nd__shaped : N__shaped.Nodup := by decide +kernel
def g__shaped (F : List D → Option D) : Env → Option Out := (cSeq (cIf (bOf (eOp gEq (eVar 0) (eC (.int 1)))) (cRet (eTup (aSz aNil))) cNext) (cSeq (cSet 3 (eCall F_choose (aCons (eOp gSub (eOp gAdd (eVar 1) (eVar 2)) (eC (.int 2))) (aCons (eOp gSub (eVar 2) (eC (.int 1))) aNil)))) (cSeq (cSet 4 (eCall F_choose (aCons (eOp gSub (eOp gAdd (eVar 1) (eVar 2)) (eC (.int 1))) (aCons (eVar 2) aNil)))) (cSeq (cSet 5 (eCall gMin (aCons (eVar 4) (aCons (eOp gSub (eVar 0) (eVar 3)) aNil)))) (cSeq (cSet 6 (eCall F (aCons (eVar 5) (aCons (eOp gSub (eVar 1) (eC (.int 1))) (aCons (eVar 2) aNil))))) (cSeq (cSet 7 (eCall F (aCons (eOp gSub (eVar 0) (eVar 5)) (aCons (eVar 1) (aCons (eOp gSub (eVar 2) (eC (.int 1))) aNil))))) (cRet (eCall F_put_beside (aCons (eVar 6) (aCons (eVar 7) aNil))))))))))
def F__shaped_ : Nat → List D → Option D
  | 0 => fun _ => none
  | n + 1 => runFn 8 3 (g__shaped (F__shaped_ n))
def F__shaped : List D → Option D := F__shaped_ 34
theorem b__shaped {M : Md} {k : Nat} {F : List D → Option D} (hk : 3 ≤ k) (B : Blt M.mg) (C_put_beside : Cal M 1 "put_beside" 2 F_put_beside) (C_choose : Cal M 3 "choose" 2 F_choose) (CF : Cal M k "_shaped" 3 F) : Body M k N__shaped "_shaped" (topS 29) (g__shaped F) := fun T f cdv A outer s H E hT hr =>
  (ss_cons (ss_if (st_cmp od_eq (se_var (i := 0)) se_int) (ss_one (ss_ret (se_tup sa_nil))) ss_nil) (ss_cons (ss_set (i := 3) nd__shaped rfl (by first | exact Or.inl rfl | exact Or.inr rfl) (se_call C_choose hT rfl (hr.mono (by omega)) rfl (sa_cons (se_op od_sub (se_op od_add (se_var (i := 1)) (se_var (i := 2))) se_int) (sa_cons (se_op od_sub (se_var (i := 2)) se_int) sa_nil)))) (ss_cons (ss_set (i := 4) nd__shaped rfl (by first | exact Or.inl rfl | exact Or.inr rfl) (se_call C_choose hT rfl (hr.mono (by omega)) rfl (sa_cons (se_op od_sub (se_op od_add (se_var (i := 1)) (se_var (i := 2))) se_int) (sa_cons (se_var (i := 2)) sa_nil)))) (ss_cons (ss_set (i := 5) nd__shaped rfl (by first | exact Or.inl rfl | exact Or.inr rfl) (se_callB (cd_min rfl) rfl B.min bt_min (sa_cons (se_var (i := 4)) (sa_cons (se_op od_sub (se_var (i := 0)) (se_var (i := 3))) sa_nil)))) (ss_cons (ss_set (i := 6) nd__shaped rfl (by first | exact Or.inl rfl | exact Or.inr rfl) (se_call CF hT rfl hr rfl (sa_cons (se_var (i := 5)) (sa_cons (se_op od_sub (se_var (i := 1)) se_int) (sa_cons (se_var (i := 2)) sa_nil))))) (ss_cons (ss_set (i := 7) nd__shaped rfl (by first | exact Or.inl rfl | exact Or.inr rfl) (se_call CF hT rfl hr rfl (sa_cons (se_op od_sub (se_var (i := 0)) (se_var (i := 5))) (sa_cons (se_var (i := 1)) (sa_cons (se_op od_sub (se_var (i := 2)) se_int) sa_nil))))) (ss_one (ss_ret (se_call C_put_beside hT rfl (hr.mono (by omega)) rfl (sa_cons (se_var (i := 6)) (sa_cons (se_var (i := 7)) sa_nil)))))))))))
theorem cr__shaped {M : Md} (B : Blt M.mg) (h : DefAt M "_shaped" (topS 29) ["buds", "lefts", "rights"]) (C_put_beside : Cal M 1 "put_beside" 2 F_put_beside) (C_choose : Cal M 3 "choose" 2 F_choose) : ∀ d : Nat, Cal M (d + 3) "_shaped" 3 (F__shaped_ d)
  | 0 => cal_none h rfl
  | d + 1 => (cal_of h ⟨rfl, rfl, rfl, nd__shaped, rfl, by decide +kernel, by decide +kernel⟩ (b__shaped (k := d + 3) (by omega) B C_put_beside C_choose (cr__shaped B h C_put_beside C_choose d))).lev (by omega)
theorem c__shaped {M : Md} (B : Blt M.mg) (h : DefAt M "_shaped" (topS 29) ["buds", "lefts", "rights"]) (C_put_beside : Cal M 1 "put_beside" 2 F_put_beside) (C_choose : Cal M 3 "choose" 2 F_choose) : Cal M 37 "_shaped" 3 F__shaped := cr__shaped B h C_put_beside C_choose 34
abbrev N_best_plan : List PySem.Str := ["many", "reach"]
theorem nd_best_plan : N_best_plan.Nodup := by decide +kernel
def g_best_plan : Env → Option Out := (cSeq (cExpr (eCall F_need_number (aCons (eC (.str ("many" : PySem.Str))) (aCons (eVar 0) aNil)))) (cSeq (cExpr (eCall F_need_natural (aCons (eC (.str ("reach" : PySem.Str))) (aCons (eVar 1) aNil)))) (cRet (eCall F__shaped (aCons (eOp gAdd (eVar 0) (eC (.int 1))) (aCons (eCall F_least_greatest (aCons (eVar 0) (aCons (eVar 1) aNil))) (aCons (eVar 1) aNil)))))))
def F_best_plan : List D → Option D := runFn 2 2 g_best_plan
theorem b_best_plan {M : Md} (B : Blt M.mg) (C_least_greatest : Cal M 4 "least_greatest" 2 F_least_greatest) (C__shaped : Cal M 37 "_shaped" 3 F__shaped) (C_need_natural : Cal M 3 "need_natural" 2 F_need_natural) (C_need_number : Cal M 3 "need_number" 2 F_need_number) : Body M 37 N_best_plan "best_plan" (topS 30) g_best_plan := fun T f cdv A outer s H E hT hr =>
  (ss_cons (ss_expr (se_call C_need_number hT rfl (hr.mono (by decide)) rfl (sa_cons se_str (sa_cons (se_var (i := 0)) sa_nil)))) (ss_cons (ss_expr (se_call C_need_natural hT rfl (hr.mono (by decide)) rfl (sa_cons se_str (sa_cons (se_var (i := 1)) sa_nil)))) (ss_one (ss_ret (se_call C__shaped hT rfl (hr.mono (by decide)) rfl (sa_cons (se_op od_add (se_var (i := 0)) se_int) (sa_cons (se_call C_least_greatest hT rfl (hr.mono (by decide)) rfl (sa_cons (se_var (i := 0)) (sa_cons (se_var (i := 1)) sa_nil))) (sa_cons (se_var (i := 1)) sa_nil))))))))
theorem c_best_plan {M : Md} (B : Blt M.mg) (h : DefAt M "best_plan" (topS 30) ["many", "reach"]) (C_least_greatest : Cal M 4 "least_greatest" 2 F_least_greatest) (C__shaped : Cal M 37 "_shaped" 3 F__shaped) (C_need_natural : Cal M 3 "need_natural" 2 F_need_natural) (C_need_number : Cal M 3 "need_number" 2 F_need_number) : Cal M 38 "best_plan" 2 F_best_plan := cal_of h ⟨rfl, rfl, rfl, nd_best_plan, rfl, by decide +kernel, by decide +kernel⟩ (b_best_plan B C_least_greatest C__shaped C_need_natural C_need_number)
abbrev N_best_for_writes : List PySem.Str := ["many", "width"]
theorem nd_best_for_writes : N_best_for_writes.Nodup := by decide +kernel
def g_best_for_writes : Env → Option Out := (cSeq (cExpr (eCall F_need_number (aCons (eC (.str ("many" : PySem.Str))) (aCons (eVar 0) aNil)))) (cSeq (cExpr (eCall F_need_natural (aCons (eC (.str ("width" : PySem.Str))) (aCons (eVar 1) aNil)))) (cRet (eCall F_mirrored (aCons (eCall F_best_plan (aCons (eVar 0) (aCons (eVar 1) aNil))) aNil)))))
def F_best_for_writes : List D → Option D := runFn 2 2 g_best_for_writes
theorem b_best_for_writes {M : Md} (B : Blt M.mg) (C_best_plan : Cal M 38 "best_plan" 2 F_best_plan) (C_mirrored : Cal M 6 "mirrored" 1 F_mirrored) (C_need_natural : Cal M 3 "need_natural" 2 F_need_natural) (C_need_number : Cal M 3 "need_number" 2 F_need_number) : Body M 38 N_best_for_writes "best_for_writes" (topS 31) g_best_for_writes := fun T f cdv A outer s H E hT hr =>
  (ss_cons (ss_expr (se_call C_need_number hT rfl (hr.mono (by decide)) rfl (sa_cons se_str (sa_cons (se_var (i := 0)) sa_nil)))) (ss_cons (ss_expr (se_call C_need_natural hT rfl (hr.mono (by decide)) rfl (sa_cons se_str (sa_cons (se_var (i := 1)) sa_nil)))) (ss_one (ss_ret (se_call C_mirrored hT rfl (hr.mono (by decide)) rfl (sa_cons (se_call C_best_plan hT rfl (hr.mono (by decide)) rfl (sa_cons (se_var (i := 0)) (sa_cons (se_var (i := 1)) sa_nil))) sa_nil))))))
theorem c_best_for_writes {M : Md} (B : Blt M.mg) (h : DefAt M "best_for_writes" (topS 31) ["many", "width"]) (C_best_plan : Cal M 38 "best_plan" 2 F_best_plan) (C_mirrored : Cal M 6 "mirrored" 1 F_mirrored) (C_need_natural : Cal M 3 "need_natural" 2 F_need_natural) (C_need_number : Cal M 3 "need_number" 2 F_need_number) : Cal M 39 "best_for_writes" 2 F_best_for_writes := cal_of h ⟨rfl, rfl, rfl, nd_best_for_writes, rfl, by decide +kernel, by decide +kernel⟩ (b_best_for_writes B C_best_plan C_mirrored C_need_natural C_need_number)
end DL

set_option Elab.async false
set_option linter.all false
set_option maxRecDepth 100000
set_option maxHeartbeats 4000000
namespace DL
open PySem PySem.Spec PyProof.Rows L2 LamX NdefX
abbrev N_up_to : List PySem.Str := ["thing", "greatest"]
theorem nd_up_to : N_up_to.Nodup := by decide +kernel
def g_up_to : Env → Option Out := (cRet (eAnd (eCall F_is_natural (aCons (eVar 0) aNil)) (eOp (gI fun i j => decide (i ≤ j)) (eVar 0) (eVar 1))))
def F_up_to : List D → Option D := runFn 2 2 g_up_to
theorem b_up_to {M : Md} (B : Blt M.mg) (C_is_natural : Cal M 2 "is_natural" 1 F_is_natural) : Body M 2 N_up_to "up_to" (topS 34) g_up_to := fun T f cdv A outer s H E hT hr =>
  (ss_one (ss_ret (se_and (se_call C_is_natural hT rfl (hr.mono (by decide)) rfl (sa_cons (se_var (i := 0)) sa_nil)) (se_one (se_cmp od_le (se_var (i := 0)) (se_var (i := 1)))))))
theorem c_up_to {M : Md} (B : Blt M.mg) (h : DefAt M "up_to" (topS 34) ["thing", "greatest"]) (C_is_natural : Cal M 2 "is_natural" 1 F_is_natural) : Cal M 3 "up_to" 2 F_up_to := cal_of h ⟨rfl, rfl, rfl, nd_up_to, rfl, by decide +kernel, by decide +kernel⟩ (b_up_to B C_is_natural)
abbrev N_is_pair : List PySem.Str := ["thing"]
theorem nd_is_pair : N_is_pair.Nodup := by decide +kernel
def g_is_pair : Env → Option Out := (cRet (eAnd (eUn (gIs isTupD) (eVar 0)) (eOp gEq (eCall gLen (aCons (eVar 0) aNil)) (eC (.int 2)))))
def F_is_pair : List D → Option D := runFn 1 1 g_is_pair
theorem b_is_pair {M : Md} (B : Blt M.mg) : Body M 0 N_is_pair "is_pair" (topS 35) g_is_pair := fun T f cdv A outer s H E hT hr =>
  (ss_one (ss_ret (se_and (se_isi rfl B.isi (se_var (i := 0)) rfl B.tuple bt_tuple kit_tuple) (se_one (se_cmp od_eq (se_callB cd_len rfl B.len bt_len (sa_cons (se_var (i := 0)) sa_nil)) se_int)))))
theorem c_is_pair {M : Md} (B : Blt M.mg) (h : DefAt M "is_pair" (topS 35) ["thing"]) : Cal M 1 "is_pair" 1 F_is_pair := cal_of h ⟨rfl, rfl, rfl, nd_is_pair, rfl, by decide +kernel, by decide +kernel⟩ (b_is_pair B)
abbrev N_bound_fault : List PySem.Str := ["history", "thing", "roof", "pairs", "k", "pair"]
theorem nd_bound_fault : N_bound_fault.Nodup := by decide +kernel
def g_bound_fault : Env → Option Out := (cSeq (cIf (bNot (bOf (eCall F_is_pair (aCons (eVar 1) aNil)))) (cRet (eTup (aSz (aCons (eC (.str ("shape" : PySem.Str))) (aCons (eUn gNeg (eC (.int 1))) aNil))))) cNext) (cSeq (cUnp 2 3 (eVar 1)) (cSeq (cIf (bNot (bOf (eCall F_up_to (aCons (eVar 2) (aCons (eC (.int 999)) aNil))))) (cRet (eTup (aSz (aCons (eC (.str ("roof" : PySem.Str))) (aCons (eC (.int 0)) aNil))))) cNext) (cSeq (cIf (bOr (bNot (bOf (eUn (gIs isTupD) (eVar 3)))) (bOf (eOp gNe (eCall gLen (aCons (eVar 3) aNil)) (eCall gLen (aCons (eVar 0) aNil))))) (cRet (eTup (aSz (aCons (eC (.str ("many" : PySem.Str))) (aCons (eC (.int 1)) aNil))))) cNext) (cSeq (cFor (iEnD 0 (eVar 3)) (.two 4 5) (cSeq (cIf (bNot (bOf (eCall F_is_pair (aCons (eVar 5) aNil)))) (cRet (eTup (aSz (aCons (eC (.str ("pair" : PySem.Str))) (aCons (eVar 4) aNil))))) cNext) (cSeq (cIf (bNot (bOf (eCall F_up_to (aCons (eOp gIx (eVar 5) (eC (.int 0))) (aCons (eC (.int 999)) aNil))))) (cRet (eTup (aSz (aCons (eC (.str ("width" : PySem.Str))) (aCons (eVar 4) aNil))))) cNext) (cIf (bNot (bOf (eCall F_up_to (aCons (eOp gIx (eVar 5) (eC (.int 1))) (aCons (eVar 2) aNil))))) (cRet (eTup (aSz (aCons (eC (.str ("reach" : PySem.Str))) (aCons (eVar 4) aNil))))) cNext)))) (cRet (eC .non)))))))
def F_bound_fault : List D → Option D := runFn 6 2 g_bound_fault
theorem b_bound_fault {M : Md} (B : Blt M.mg) (C_up_to : Cal M 3 "up_to" 2 F_up_to) (C_is_pair : Cal M 1 "is_pair" 1 F_is_pair) : Body M 3 N_bound_fault "bound_fault" (topS 36) g_bound_fault := fun T f cdv A outer s H E hT hr =>
  (ss_cons (ss_if (st_not (st_val (se_call C_is_pair hT rfl (hr.mono (by decide)) rfl (sa_cons (se_var (i := 1)) sa_nil)))) (ss_one (ss_ret (se_tup (sa_cons se_str (sa_cons (se_neg se_int) sa_nil))))) ss_nil) (ss_cons (ss_unp (i := 2) (j := 3) rfl nd_bound_fault rfl rfl (by first | exact Or.inl rfl | exact Or.inr rfl) (by first | exact Or.inl rfl | exact Or.inr rfl) (se_var (i := 1))) (ss_cons (ss_if (st_not (st_val (se_call C_up_to hT rfl (hr.mono (by decide)) rfl (sa_cons (se_var (i := 2)) (sa_cons (se_glob rfl B.gb.choose_spec) sa_nil))))) (ss_one (ss_ret (se_tup (sa_cons se_str (sa_cons se_int sa_nil))))) ss_nil) (ss_cons (ss_if (st_pw (sw_or (st_not (st_val (se_isi rfl B.isi (se_var (i := 3)) rfl B.tuple bt_tuple kit_tuple))) (sw_or1 (st_cmp od_ne (se_callB cd_len rfl B.len bt_len (sa_cons (se_var (i := 3)) sa_nil)) (se_callB cd_len rfl B.len bt_len (sa_cons (se_var (i := 0)) sa_nil)))))) (ss_one (ss_ret (se_tup (sa_cons se_str (sa_cons se_int sa_nil))))) ss_nil) (ss_cons (ss_for PassesOwn.never rfl (si_en rfl B.enumerate (se_var (i := 3))) (pg_tup rfl (pgs_cons (pg_name (i := 4) nd_bound_fault rfl (by first | exact Or.inl rfl | exact Or.inr rfl)) (pgs_cons (pg_name (i := 5) nd_bound_fault rfl (by first | exact Or.inl rfl | exact Or.inr rfl)) pgs_nil))) (ss_cons (ss_if (st_not (st_val (se_call C_is_pair hT rfl (hr.mono (by decide)) rfl (sa_cons (se_var (i := 5)) sa_nil)))) (ss_one (ss_ret (se_tup (sa_cons se_str (sa_cons (se_var (i := 4)) sa_nil))))) ss_nil) (ss_cons (ss_if (st_not (st_val (se_call C_up_to hT rfl (hr.mono (by decide)) rfl (sa_cons (se_ix ix_any (se_var (i := 5)) se_int) (sa_cons (se_glob rfl B.gb.choose_spec) sa_nil))))) (ss_one (ss_ret (se_tup (sa_cons se_str (sa_cons (se_var (i := 4)) sa_nil))))) ss_nil) (ss_one (ss_if (st_not (st_val (se_call C_up_to hT rfl (hr.mono (by decide)) rfl (sa_cons (se_ix ix_any (se_var (i := 5)) se_int) (sa_cons (se_var (i := 2)) sa_nil))))) (ss_one (ss_ret (se_tup (sa_cons se_str (sa_cons (se_var (i := 4)) sa_nil))))) ss_nil))))) (ss_one (ss_ret se_non)))))))
theorem c_bound_fault {M : Md} (B : Blt M.mg) (h : DefAt M "bound_fault" (topS 36) ["history", "thing"]) (C_up_to : Cal M 3 "up_to" 2 F_up_to) (C_is_pair : Cal M 1 "is_pair" 1 F_is_pair) : Cal M 4 "bound_fault" 2 F_bound_fault := cal_of h ⟨rfl, rfl, rfl, nd_bound_fault, rfl, by decide +kernel, by decide +kernel⟩ (b_bound_fault B C_up_to C_is_pair)
abbrev N_need_bounds : List PySem.Str := ["history", "bounds"]
theorem nd_need_bounds : N_need_bounds.Nodup := by decide +kernel
def g_need_bounds : Env → Option Out := (cIf (bOf (eOp gNotN (eCall F_bound_fault (aCons (eVar 0) (aCons (eVar 1) aNil))) (eC .non))) cNo cNext)
def F_need_bounds : List D → Option D := runFn 2 2 g_need_bounds
theorem b_need_bounds {M : Md} (B : Blt M.mg) (C_bound_fault : Cal M 4 "bound_fault" 2 F_bound_fault) : Body M 4 N_need_bounds "need_bounds" (topS 37) g_need_bounds := fun T f cdv A outer s H E hT hr =>
  (ss_one (ss_if (st_cmp od_notN (se_call C_bound_fault hT rfl (hr.mono (by decide)) rfl (sa_cons (se_var (i := 0)) (sa_cons (se_var (i := 1)) sa_nil))) se_non) sss_never ss_nil))
theorem c_need_bounds {M : Md} (B : Blt M.mg) (h : DefAt M "need_bounds" (topS 37) ["history", "bounds"]) (C_bound_fault : Cal M 4 "bound_fault" 2 F_bound_fault) : Cal M 5 "need_bounds" 2 F_need_bounds := cal_of h ⟨rfl, rfl, rfl, nd_need_bounds, rfl, by decide +kernel, by decide +kernel⟩ (b_need_bounds B C_bound_fault)
abbrev N_need_version : List PySem.Str := ["history", "version"]
theorem nd_need_version : N_need_version.Nodup := by decide +kernel
def g_need_version : Env → Option Out := (cIf (bNot (bOf (eCall F_up_to (aCons (eVar 1) (aCons (eCall gLen (aCons (eVar 0) aNil)) aNil))))) cNo cNext)
def F_need_version : List D → Option D := runFn 2 2 g_need_version
theorem b_need_version {M : Md} (B : Blt M.mg) (C_up_to : Cal M 3 "up_to" 2 F_up_to) : Body M 3 N_need_version "need_version" (topS 38) g_need_version := fun T f cdv A outer s H E hT hr =>
  (ss_one (ss_if (st_not (st_val (se_call C_up_to hT rfl (hr.mono (by decide)) rfl (sa_cons (se_var (i := 1)) (sa_cons (se_callB cd_len rfl B.len bt_len (sa_cons (se_var (i := 0)) sa_nil)) sa_nil))))) sss_never ss_nil))
theorem c_need_version {M : Md} (B : Blt M.mg) (h : DefAt M "need_version" (topS 38) ["history", "version"]) (C_up_to : Cal M 3 "up_to" 2 F_up_to) : Cal M 4 "need_version" 2 F_need_version := cal_of h ⟨rfl, rfl, rfl, nd_need_version, rfl, by decide +kernel, by decide +kernel⟩ (b_need_version B C_up_to)
abbrev N_all_versions : List PySem.Str := ["history"]
theorem nd_all_versions : N_all_versions.Nodup := by decide +kernel
def g_all_versions : Env → Option Out := (cRet (eTup (iRg2 (eC (.int 1)) (eOp gAdd (eCall gLen (aCons (eVar 0) aNil)) (eC (.int 1))))))
def F_all_versions : List D → Option D := runFn 1 1 g_all_versions
theorem b_all_versions {M : Md} (B : Blt M.mg) : Body M 0 N_all_versions "all_versions" (topS 39) g_all_versions := fun T f cdv A outer s H E hT hr =>
  (ss_one (ss_ret (se_tupRg2 rfl rfl B.tuple rfl B.range se_int (se_op od_add (se_callB cd_len rfl B.len bt_len (sa_cons (se_var (i := 0)) sa_nil)) se_int))))
theorem c_all_versions {M : Md} (B : Blt M.mg) (h : DefAt M "all_versions" (topS 39) ["history"]) : Cal M 1 "all_versions" 1 F_all_versions := cal_of h ⟨rfl, rfl, rfl, nd_all_versions, rfl, by decide +kernel, by decide +kernel⟩ (b_all_versions B)
abbrev N_falling : List PySem.Str := ["members"]
theorem nd_falling : N_falling.Nodup := by decide +kernel
def g_falling : Env → Option Out := (cRet (eCall gTupl (aCons (eFz (lSortR (eVar 0))) aNil)))
def F_falling : List D → Option D := runFn 1 1 g_falling
theorem b_falling {M : Md} (B : Blt M.mg) : Body M 0 N_falling "falling" (topS 40) g_falling := fun T f cdv A outer s H E hT hr =>
  (ss_one (ss_ret (se_callTy cd_tuple rfl B.tuple bt_tuple (sa_cons (se_fz (sl_sortR rfl B.sorted (se_var (i := 0)))) sa_nil))))
theorem c_falling {M : Md} (B : Blt M.mg) (h : DefAt M "falling" (topS 40) ["members"]) : Cal M 1 "falling" 1 F_falling := cal_of h ⟨rfl, rfl, rfl, nd_falling, rfl, by decide +kernel, by decide +kernel⟩ (b_falling B)
abbrev N_row_after : List PySem.Str := ["width", "floor", "row", "height", "member"]
theorem nd_row_after : N_row_after.Nodup := by decide +kernel
def g_row_after : Env → Option Out := (cSeq (cSet 3 (eVar 1)) (cSeq (cIf (bAnd (bOf (eOp (gI fun i j => decide (j ≤ i)) (eCall gLen (aCons (eVar 2) aNil)) (eVar 0))) (bOf (eOp (gI fun i j => decide (j ≤ i)) (eOp gIx (eVar 2) (eOp gSub (eVar 0) (eC (.int 1)))) (eVar 1)))) (cSet 3 (eOp gAdd (eOp gIx (eVar 2) (eOp gSub (eVar 0) (eC (.int 1)))) (eC (.int 1)))) cNext) (cRet (eOp gAdd (eCall gTupl (aCons (eFz (fLc (iTupD (eVar 2)) (.one 4) (List.map (·.2) ([("member", 4)] : List (PySem.Str × Nat))) (bOf (eOp (gI fun i j => decide (j ≤ i)) (eVar 4) (eVar 3))) (eVar 4))) aNil)) (eTup (aSz (aCons (eVar 3) aNil)))))))
def F_row_after : List D → Option D := runFn 5 3 g_row_after
theorem b_row_after {M : Md} (B : Blt M.mg) : Body M 0 N_row_after "row_after" (topS 41) g_row_after := fun T f cdv A outer s H E hT hr =>
  (ss_cons (ss_set (i := 3) nd_row_after rfl (by first | exact Or.inl rfl | exact Or.inr rfl) (se_var (i := 1))) (ss_cons (ss_if (st_pw (sw_and (st_cmp od_ge (se_callB cd_len rfl B.len bt_len (sa_cons (se_var (i := 2)) sa_nil)) (se_var (i := 0))) (sw_and1 (st_cmp od_ge (se_ix ix_any (se_var (i := 2)) (se_op od_sub (se_var (i := 0)) se_int)) (se_var (i := 1)))))) (ss_one (ss_set (i := 3) nd_row_after rfl (by first | exact Or.inl rfl | exact Or.inr rfl) (se_op od_add (se_ix ix_any (se_var (i := 2)) (se_op od_sub (se_var (i := 0)) se_int)) se_int))) ss_nil) (ss_one (ss_ret (se_op od_add (se_callTy cd_tuple rfl B.tuple bt_tuple (sa_cons (se_fz (sl_lc (own := [("member", 4)]) (by decide) rfl nd_row_after  (si_tup (se_var (i := 2))) (blkOk_by (show blkC N_row_after (defScope (topS 41)) _ _ = true by decide +kernel)) (fun s H C cl fp => (pg_name (i := 4) nd_row_after rfl (by first | exact Or.inl rfl | exact Or.inr rfl))) (fun s H C cl fp => (sts_one (st_cmp od_ge (se_var (i := 4)) (se_var (i := 3))))) (fun s H C cl fp => (se_var (i := 4))))) sa_nil)) (se_tup (sa_cons (se_var (i := 3)) sa_nil)))))))
theorem c_row_after {M : Md} (B : Blt M.mg) (h : DefAt M "row_after" (topS 41) ["width", "floor", "row"]) : Cal M 1 "row_after" 3 F_row_after := cal_of h ⟨rfl, rfl, rfl, nd_row_after, rfl, by decide +kernel, by decide +kernel⟩ (b_row_after B)
abbrev N_step_of : List PySem.Str := ["bounds", "version", "members", "roof", "pairs", "width", "reach"]
theorem nd_step_of : N_step_of.Nodup := by decide +kernel
def g_step_of : Env → Option Out := (cSeq (cUnp 3 4 (eVar 0)) (cSeq (cUnp 5 6 (eOp gIx (eVar 4) (eOp gSub (eVar 1) (eC (.int 1))))) (cRet (eCall F_row_after (aCons (eVar 5) (aCons (eOp gSub (eOp gAdd (eVar 3) (eC (.int 1))) (eVar 6)) (aCons (eCall F_falling (aCons (eVar 2) aNil)) aNil)))))))
def F_step_of : List D → Option D := runFn 7 3 g_step_of
theorem b_step_of {M : Md} (B : Blt M.mg) (C_falling : Cal M 1 "falling" 1 F_falling) (C_row_after : Cal M 1 "row_after" 3 F_row_after) : Body M 1 N_step_of "step_of" (topS 42) g_step_of := fun T f cdv A outer s H E hT hr =>
  (ss_cons (ss_unp (i := 3) (j := 4) rfl nd_step_of rfl rfl (by first | exact Or.inl rfl | exact Or.inr rfl) (by first | exact Or.inl rfl | exact Or.inr rfl) (se_var (i := 0))) (ss_cons (ss_unp (i := 5) (j := 6) rfl nd_step_of rfl rfl (by first | exact Or.inl rfl | exact Or.inr rfl) (by first | exact Or.inl rfl | exact Or.inr rfl) (se_ix ix_any (se_var (i := 4)) (se_op od_sub (se_var (i := 1)) se_int))) (ss_one (ss_ret (se_call C_row_after hT rfl (hr.mono (by decide)) rfl (sa_cons (se_var (i := 5)) (sa_cons (se_op od_sub (se_op od_add (se_var (i := 3)) se_int) (se_var (i := 6))) (sa_cons (se_call C_falling hT rfl (hr.mono (by decide)) rfl (sa_cons (se_var (i := 2)) sa_nil)) sa_nil))))))))
theorem c_step_of {M : Md} (B : Blt M.mg) (h : DefAt M "step_of" (topS 42) ["bounds", "version", "members"]) (C_falling : Cal M 1 "falling" 1 F_falling) (C_row_after : Cal M 1 "row_after" 3 F_row_after) : Cal M 2 "step_of" 3 F_step_of := cal_of h ⟨rfl, rfl, rfl, nd_step_of, rfl, by decide +kernel, by decide +kernel⟩ (b_step_of B C_falling C_row_after)
abbrev N_near_elder : List PySem.Str := ["history", "marked", "version", "elder"]
theorem nd_near_elder : N_near_elder.Nodup := by decide +kernel
def g_near_elder : Env → Option Out := (cSeq (cSet 3 (eOp gIx (eVar 0) (eOp gSub (eVar 2) (eC (.int 1))))) (cSeq (whileL (bAnd (bOf (eOp gNe (eVar 3) (eC (.int 0)))) (bNot (bOf (eOp gIx (eVar 1) (eVar 3))))) (cSet 3 (eOp gIx (eVar 0) (eOp gSub (eVar 3) (eC (.int 1))))) 80) (cRet (eVar 3))))
def F_near_elder : List D → Option D := runFn 4 3 g_near_elder
theorem b_near_elder {M : Md} (B : Blt M.mg) : Body M 0 N_near_elder "near_elder" (topS 43) g_near_elder := fun T f cdv A outer s H E hT hr =>
  (ss_cons (ss_set (i := 3) nd_near_elder rfl (by first | exact Or.inl rfl | exact Or.inr rfl) (se_ix ix_any (se_var (i := 0)) (se_op od_sub (se_var (i := 2)) se_int))) (ss_cons (ss_while (n := 80) PassesOwn.never (st_pw (sw_and (st_cmp od_ne (se_var (i := 3)) se_int) (sw_and1 (st_not (st_val (se_ix ix_any (se_var (i := 1)) (se_var (i := 3)))))))) (ss_one (ss_set (i := 3) nd_near_elder rfl (by first | exact Or.inl rfl | exact Or.inr rfl) (se_ix ix_any (se_var (i := 0)) (se_op od_sub (se_var (i := 3)) se_int))))) (ss_one (ss_ret (se_var (i := 3))))))
theorem c_near_elder {M : Md} (B : Blt M.mg) (h : DefAt M "near_elder" (topS 43) ["history", "marked", "version"]) : Cal M 1 "near_elder" 3 F_near_elder := cal_of h ⟨rfl, rfl, rfl, nd_near_elder, rfl, by decide +kernel, by decide +kernel⟩ (b_near_elder B)
end DL

set_option Elab.async false
set_option linter.all false
set_option maxRecDepth 100000
set_option maxHeartbeats 4000000
namespace DL
open PySem PySem.Spec PyProof.Rows L2 LamX NdefX
/-- the second loop of walked: below, a list of lists; the pairs -/
def walkL (h b m : D) : List D → List (List D) → List D → Option (List D)
  | [], _, acc => some acc
  | v :: vs, ls, acc => match v with
    | .int (.ofNat i) => match ls[i]? with
      | some l => match F_step_of [b, v, .lst l] with
        | some (.tup row) => match intsOf row with
          | some _ => match F_near_elder [h, m, v] with
            | some (.int (.ofNat j)) => match ls[j]? with
              | some l2 => gd (szOk (l2 ++ row) && szOk acc) (walkL h b m vs (ls.set j (l2 ++ row)) (acc ++ [.tup [v, .tup row]]))
              | none => none
            | _ => none
          | none => none
        | _ => none
      | none => none
    | _ => none
def noOw (ρ : Env) : Bool := ρ.all fun s => match s with
  | .ow _ => false
  | _ => true
def cWalk : Env → Option Out := fun ρ => gd (Nat.beq ρ.length 9 && noOw ρ) (match ρ[(0 : Nat)]?, ρ[(1 : Nat)]?, ρ[(2 : Nat)]?, ρ[(3 : Nat)]? with
  | some (.pu (.tup h)), some (.pu b), some (.pu (.tup vs)), some (.pu m) => gd (Nat.ble h.length 1000) (match walkL (.tup h) b m vs.reverse (List.replicate (h.length + 1) []) [] with
    | some l => some (.rt (.lst l))
    | none => none)
  | _, _, _, _ => none)
abbrev N_walked : List PySem.Str := ["history", "bounds", "versions", "marked", "version", "below", "pairs", "row", "_"]
def g_walked : Env → Option Out := cSeq (cNew 3 (eOpL gRep (eFz (aSz (aCons (eC (.bl false)) aNil))) (eOp gAdd (eCall gLen (aCons (eVar 0) aNil)) (eC (.int 1)))))
  (cSeq (cFor (iTupD (eVar 2)) (.one 4) (cSetIx 3 (eVar 4) (eC (.bl true)))) (cFrz 3 cWalk))
def F_walked : List D → Option D := runFn 9 3 g_walked
end DL

set_option Elab.async false
set_option linter.all false
set_option maxRecDepth 100000
set_option maxHeartbeats 4000000
namespace DL
open PySem PySem.Spec PyProof.Rows L2 LamX NdefX PySem.AutoSeq1 PySem.Calls
theorem list_extend_tup (l : Addr) (items : Array Value) (n : Nat) (b : Addr) (items2 : Array Value) (n2 : Nat) (dc : Option Addr) (sl : Array (Option Value)) (hs0 : ¬(!items.isEmpty && Builtin.List.listTooLong (items.size + items2.size)) = true) (hs1 : items.size ≤ sizeLine) (hs2 : items.size + items2.size ≤ sizeLine + 1) :
    Meets (Builtin.«list.extend» ⟨[.ref l, .ref b], []⟩) (fun _ R s => s.heap.get? l = some { cls := .type "list", dict := none, data := .seq items n, slots := #[] } ∧ s.heap.get? b = some { cls := .type "tuple", dict := dc, data := .seq items2 n2, slots := sl } ∧ R (.ok (.ret Value.none)) { s with heap := s.heap.update l (Obj.mapSeq fun x => x ++ items2), toks := s.toks }) :=
  .of_wp fun prog w A R s h => by
    obtain ⟨hp, g, d, tk, os⟩ := s; obtain ⟨hl, hb, h⟩ := h; have f1 := idx_int; have f2 := AutoSeq1.sub_tuple_tuple; have f3 := AutoSeq1.sub_list_list; have f4 := AutoSeq1.sub_tuple_list; have f5 := AutoSeq1.sub_list_tuple;
    have hz' : (items ++ items2).size ≤ sizeLine + 1 := by rw [Array.size_append]; exact hs2
    wp_walk using (wpAny_updateSeq hl rfl (hz := hs1) (_hz' := hz')), wpAny_loadPart' hl, wpAny_loadPart' hb; exact ⟨_, rfl, h⟩
def rExtendT (K : PySem.W.Frag) : V → List V → Hp → VK → Prop := fun x vs H Q => ∃ l b xs zs, x = .ref l ∧ vs = [.ref b] ∧ H l = some (.lst xs) ∧ SqT K H b zs ∧ xs.length + zs.length ≤ sizeLine ∧ Q .non (upd H l (.lst (xs ++ zs)))
theorem mt_extendT {X : Cx} : MtM X "list.extend" (rExtendT X.K) := by
  intro pins s σ H x vs v us Q I rx rv h
  obtain ⟨l, b, xs, zs, rfl, rfl, hH, hB, hz, q⟩ := h
  cases rx
  obtain ⟨u, rfl, ru⟩ := rv.one
  cases ru
  obtain ⟨z, its, n, r, hl, e⟩ := I.lstM hH
  obtain ⟨its2, r2, ⟨o, e2, hc, n2, hd⟩, z2⟩ := I.tuple hB
  obtain ⟨oc, od, oda, osl⟩ := o
  have hc : oc = _ := hc
  have hd : oda = _ := hd
  subst hc hd
  have hl2 := r2.length
  have hsz : its.toArray.size + its2.toArray.size ≤ sizeLine := by rw [List.size_toArray, List.size_toArray]; omega
  have hlong : ¬ (!its.toArray.isEmpty && Builtin.List.listTooLong (its.toArray.size + its2.toArray.size)) = true := by
    rw [notLongL hsz, Bool.and_false]
    exact Bool.false_ne_true
  refine call_meets F.slot_list_extend ⟨_, e, rfl⟩ F.entry_list_extend (F.args_list_extend_2 _ _)
    (list_extend_tup l its.toArray n b its2.toArray n2 od osl hlong (by rw [List.size_toArray]; omega) (by omega)) ⟨e, e2, ?_⟩
  refine ⟨.non, _, I.lset (its' := its ++ its2) hH e (by simp) (r.append r2) ?_, rfl, q⟩
  rw [List.length_append]
  omega
end DL

set_option Elab.async false
set_option linter.all false
set_option maxRecDepth 100000
set_option maxHeartbeats 4000000
namespace DL
open PySem PySem.Spec PyProof.Rows L2 LamX NdefX
/-! ### lists within a fixed list -/
structure Inn (S B H : Hp) (qs : List Addr) (ls : List (List D)) : Prop where
  len : qs.length = ls.length
  nd : qs.Nodup
  it : ∀ (i : Nat) (q : Addr) (l : List D), qs[i]? = some q → ls[i]? = some l → ∃ xs, H q = some (.lst xs) ∧ S q = none ∧ B q = none ∧ Reps S l xs
section
variable {T : Tx} {S B H S' H' : Hp} {qs : List Addr} {ls : List (List D)}
theorem no_of {q : Addr} (hb : HandOk T B) (h : B q = none) : ¬T.is q := fun ⟨a, cs, e⟩ => by
  obtain ⟨_, _, _, _, e1, _⟩ := hb.1 q a cs e
  rw [h] at e1
  cases e1
theorem ext_none {q : Addr} {xs : List V} (e : Ext T S H S' H') (h : H q = some (.lst xs)) (hs : S q = none) : S' q = none := by
  cases z : S' q with
  | none => rfl
  | some o =>
    rcases e.f q o z with y | y
    · rw [hs] at y; cases y
    · rw [h] at y; cases y
theorem Inn.ext (n : Inn S B H qs ls) (hb : HandOk T B) (e : Ext T S H S' H') : Inn S' B H' qs ls := ⟨n.len, n.nd, fun i q l h1 h2 => by
  obtain ⟨xs, e1, e2, e3, e4⟩ := n.it i q l h1 h2
  exact ⟨xs, e.h.lst e1 (no_of hb e3), ext_none e e1 e2, e3, Reps.mono e.s e4⟩⟩
theorem Inn.in (n : Inn S B H qs ls) {q : Addr} (h : q ∈ qs) : H q ≠ none ∧ S q = none ∧ B q = none := by
  obtain ⟨i, hi, e⟩ := List.getElem_of_mem h
  have e1 : qs[i]? = some q := by rw [List.getElem?_eq_getElem hi, e]
  have hi2 : i < ls.length := by rw [← n.len]; exact hi
  have e2 : ls[i]? = some ls[i] := List.getElem?_eq_getElem hi2
  obtain ⟨xs, h1, h2, h3, _⟩ := n.it i q _ e1 e2
  exact ⟨by rw [h1]; exact Option.some_ne_none _, h2, h3⟩
/-- another own list is written -/
theorem Inn.other (n : Inn S B H qs ls) {p : Addr} (h : p ∉ qs) {o : HO} : Inn S B (upd H p o) qs ls := ⟨n.len, n.nd, fun i q l h1 h2 => by
  obtain ⟨xs, e1, e2⟩ := n.it i q l h1 h2
  refine ⟨xs, ?_, e2⟩
  rw [upd_ne]
  · exact e1
  · intro z
    exact h (z ▸ List.mem_of_getElem? h1)⟩
theorem Inn.put (n : Inn S B H qs ls) {j : Nat} {q : Addr} {l : List D} {ys : List V} (hq : qs[j]? = some q) (r : Reps S l ys) : Inn S B (upd H q (.lst ys)) qs (ls.set j l) := ⟨by rw [List.length_set]; exact n.len, n.nd, fun i q' l' h1 h2 => by
  rcases getSet h2 with ⟨z, e⟩ | ⟨z, e⟩
  · subst z
    rw [hq] at h1
    cases h1
    subst e
    have hj : i < ls.length := by rw [← n.len]; exact (List.getElem?_eq_some_iff.mp hq).1
    obtain ⟨xs, _, e2, e3, _⟩ := n.it i _ _ hq (List.getElem?_eq_getElem hj)
    exact ⟨ys, upd_same, e2, e3, r⟩
  · obtain ⟨xs, e1, e2⟩ := n.it i q' l' h1 e
    refine ⟨xs, ?_, e2⟩
    rw [upd_ne]
    · exact e1
    · intro y
      subst y
      exact z ((List.getElem?_inj (List.getElem?_eq_some_iff.mp h1).1 n.nd).mp (h1.trans hq.symm))⟩
/-- what is own, but not in an own slot, is written -/
theorem Ok.hot {S0 : Hp} {σ : L2.St} {ρ : Env} (k : Ok T B S0 S H σ ρ) {q : Addr} {xs ys : List V} (h : H q = some (.lst xs)) (hs : S q = none) (hb : B q = none) (ho : ∀ (i : Nat) (l : List D), ρ[i]? = some (.ow l) → σ[i]? ≠ some (some (.ref q))) : Ok T B S0 S (upd H q (.lst ys)) σ ρ := by
  have upd' : ∀ b o, H b = some o → b ≠ q → upd H q (.lst ys) b = some o := fun b o z n => by rw [upd_ne n]; exact z
  refine ⟨⟨k.e.s, ⟨fun b o z n m => ?_, fun b z => ?_⟩, ⟨fun b o z => ?_, k.e.c.z⟩, k.e.f, tabs_upd k.e.t k.e.b hb h, k.e.b⟩, k.len, fun j s x e1 e2 => ?_, k.di⟩
  · exact upd' b o (k.e.h.k b o z n m) (ne_of_none z hb)
  · by_cases y : b = q
    · rw [y]; exact hb
    · rw [upd_ne y] at z; exact k.e.h.n b z
  · exact upd' b o (k.e.c b o z) (ne_of_none z hs)
  · have w := k.sl j s x e1 e2
    cases s with
    | no => exact True.intro
    | pu d => exact w
    | ow us =>
      obtain ⟨p, zs, e3, h4, r'⟩ := w
      refine ⟨p, zs, e3, upd' p _ h4 fun y => ?_, r'⟩
      subst y
      subst e3
      exact ho j us e1 e2
/-- a fixed list is taken out again -/
def rm (S : Hp) (q : Addr) : Hp := fun b => if b = q then none else S b
theorem fix_back {q : Addr} {xs : List V} {S2 H2 : Hp} {row : List D} {ns : List Int} {v : V} (cs : Same S H) (hs : S q = none) (e : Ext T (upd S q (.lst xs)) H S2 H2) (r : Rep S2 (.tup row) v) (hi : intsOf row = some ns) : ∃ S', Ext T S H S' H2 ∧ Rep S' (.tup row) v := by
  have s2 : S2 q = some (.lst xs) := e.s q _ upd_same
  refine ⟨rm S2 q, ⟨⟨fun b o z => ?_, cs.z⟩, e.h, ⟨fun b o z => ?_, fun b ps z => ?_⟩, fun b o z => ?_, e.t, e.b⟩, ?_⟩
  · have hn : b ≠ q := ne_of_none z hs
    unfold rm
    rw [if_neg hn]
    exact e.s b o (by rw [upd_ne hn]; exact z)
  · unfold rm at z
    split at z
    · cases z
    · exact e.c b o z
  · unfold rm at z
    split at z
    · cases z
    · exact e.c.z b ps z
  · unfold rm at z
    split at z
    · cases z
    · rename_i hn
      rcases e.f b o z with y | y
      · rw [upd_ne hn] at y; exact .inl y
      · exact .inr y
  · obtain ⟨p, ys, e1, e2, e3⟩ := r
    have hn : p ≠ q := fun z => by rw [z, s2] at e2; cases e2
    rw [intsOf_eq hi] at e3 ⊢
    refine ⟨p, ys, e1, ?_, ?_⟩
    · unfold rm
      rw [if_neg hn]
      exact e2
    · rw [e3.ints]
      exact Reps.ofInts ns
theorem Inn.snoc (n : Inn S B H qs ls) {q : Addr} (h : H q = some (.lst [])) (hs : S q = none) (hb : B q = none) (hn : q ∉ qs) : Inn S B H (qs ++ [q]) (ls ++ [[]]) := by
  refine ⟨by rw [List.length_append, List.length_append, n.len] <;> rfl, ?_, fun i q' l h1 h2 => ?_⟩
  · rw [List.nodup_append]
    exact ⟨n.nd, List.nodup_cons.mpr ⟨by simp, List.nodup_nil⟩, fun a ha b hb z => hn (by rw [List.mem_singleton.mp hb] at z; exact z ▸ ha)⟩
  · by_cases hi : i < qs.length
    · rw [List.getElem?_append_left hi] at h1
      rw [List.getElem?_append_left (by rw [← n.len]; exact hi)] at h2
      exact n.it i q' l h1 h2
    · rw [List.getElem?_append_right (by omega)] at h1
      rw [List.getElem?_append_right (by rw [← n.len]; omega)] at h2
      have e1 := List.mem_of_getElem? h1
      have e2 := List.mem_of_getElem? h2
      rw [List.mem_singleton] at e1 e2
      subst e1 e2
      exact ⟨[], h, hs, hb, rfl⟩
theorem Inn.base {B' S2 : Hp} (n : Inn S B H qs ls) (h : ∀ q, B q = none → B' q = none) (hs : ∀ q, q ∈ qs → S2 q = none) (s : Same S S2) : Inn S2 B' H qs ls := ⟨n.len, n.nd, fun i q l h1 h2 => by
  obtain ⟨xs, e1, e2, e3, e4⟩ := n.it i q l h1 h2
  exact ⟨xs, e1, hs q (List.mem_of_getElem? h1), h q e3, Reps.mono s e4⟩⟩
theorem Ext.wr {p : Addr} {xs : List V} {o : HO} (e : Ext T S H S' H') (h0 : H p = none) (hs : S' p = none) (h : H' p = some (.lst xs)) : Ext T S H S' (upd H' p o) := by
  refine ⟨e.s, ⟨fun b u z n m => ?_, fun b z => ?_⟩, ⟨fun b u z => ?_, e.c.z⟩, e.f, tabs_upd e.t e.b h0 h, e.b⟩
  · rw [upd_ne (ne_of_none z h0)]
    exact e.h.k b u z n m
  · by_cases y : b = p
    · rw [y]; exact h0
    · rw [upd_ne y] at z; exact e.h.n b z
  · rw [upd_ne (ne_of_none z hs)]
    exact e.c b u z
theorem tYes_of {σ : L2.St} {H : Hp} {Q : Bool → Hp → Prop} (h : Q true H) : tYes σ H Q := h
theorem ev_pu {ρ : Env} {i : Nat} {d : D} (h : ρ[i]? = some (.pu d)) : eVar i ρ = some d := by
  unfold eVar
  rw [h]
theorem rgD_at {n i : Nat} (h : i < n) (a : Int) : ∃ d, (rgD a n)[i]? = some d := ⟨_, List.getElem?_eq_getElem (by rw [rgD_len]; exact h)⟩
theorem adrs_rep {qs : List Addr} : Reps S (qs.map D.adr) (qs.map V.ref) := by
  induction qs with
  | nil => exact rfl
  | cons q qs ih => exact .cons rfl ih
theorem adrs_eq : ∀ {qs : List Addr} {xs : List V}, Reps S (qs.map D.adr) xs → xs = qs.map V.ref
  | [], xs, h => h
  | q :: qs, xs, h => by
    obtain ⟨x, r, e1, h1, h2⟩ := (show ∃ x r, xs = x :: r ∧ Rep S (.adr q) x ∧ Reps S (qs.map D.adr) r from h)
    have h1 : x = .ref q := h1
    rw [e1, h1, adrs_eq h2] <;> rfl
end
/-! ### walked -/
theorem nd_walked : N_walked.Nodup := by decide +kernel
/-- the state ahead of a turn of the second loop -/
def Wst (T : Tx) (B S0 : Hp) (h b m : D) (S H : Hp) (σ : L2.St) (ls : List (List D)) (acc : List D) : Prop :=
  ∃ (ρ : Env) (qs : List Addr), Ok T B S0 S H σ ρ ∧ Inn S B H qs ls ∧ ρ[(0 : Nat)]? = some (.pu h) ∧ ρ[(1 : Nat)]? = some (.pu b) ∧ ρ[(3 : Nat)]? = some (.pu m) ∧ ρ[(5 : Nat)]? = some (.pu (.lst (qs.map .adr))) ∧ ρ[(6 : Nat)]? = some (.ow acc) ∧ ρ.length = 9 ∧
    (∀ p, σ[(6 : Nat)]? = some (some (.ref p)) → p ∉ qs) ∧ ∀ (i : Nat) (l : List D), ρ[i]? = some (.ow l) → i = 6
theorem b_walked {M : Md} (B0 : Blt M.mg) (C_step_of : Cal M 3 "step_of" 3 F_step_of) (C_near_elder : Cal M 3 "near_elder" 3 F_near_elder) : Body M 7 N_walked "walked" (topS 44) g_walked := fun T f cdv A outer s H E hT hr => by
  have B := B0
  obtain ⟨⟨fs, fds, pss, Fs, hms, hks, hbs⟩, ars⟩ := C_step_of
  refine (ss_cons (ss_new (i := 3) nd_walked rfl (by first | exact Or.inl rfl | exact Or.inr rfl) (sl_op ol_rep (se_fz (sl_lst (sa_cons se_bl sa_nil))) (se_op od_add (se_callB cd_len rfl B.len bt_len (sa_cons (se_var (i := 0)) sa_nil)) se_int)))
    (ss_cons (ss_for PassesOwn.never rfl (si_tup (se_var (i := 2))) (pg_name (i := 4) nd_walked rfl (by first | exact Or.inl rfl | exact Or.inr rfl)) (ss_one (ss_setIx (i := 3) rfl (by first | exact Or.inl rfl | exact Or.inr (Or.inl rfl) | exact Or.inr (Or.inr rfl)) (se_var (i := 4)) se_bl)))
    (sss_frz (i := 3) ?_)))
  refine pssI (pss_cons (ps_setLc (own := [("_", 8)]) (i := 5) rfl nd_walked rfl rfl rfl (si_rg1 (T := T) rfl B.range (se_op od_add (se_callB cd_len rfl B.len bt_len (sa_cons (se_var (i := 0)) sa_nil)) se_int)) (blkOk_by (show blkC N_walked (defScope (topS 44)) _ _ = true by decide +kernel)) (fun s H C cl fp => (pg_name (i := 8) nd_walked rfl (by first | exact Or.inl rfl | exact Or.inr rfl))) (fun s H C cl fp => pts_nil) (fun s H C cl fp => pe_lst pa_nil) (by intro _; rfl))
    (pss_cons (ps_set (i := 6) nd_walked rfl (by first | exact Or.inl rfl | exact Or.inr rfl) (pe_lst pa_nil))
    (pss_cons (ps_for PassesOwn.never rfl (si_tup (T := T) (se_revT (se_var (i := 2)))) (pg_name (i := 4) nd_walked rfl (by first | exact Or.inl rfl | exact Or.inr rfl))
      (pss_cons (ps_set (i := 7) nd_walked rfl (by first | exact Or.inl rfl | exact Or.inr rfl) (pe_call (E := E0) Fs (hr.mono (by decide)) rfl hms hks hbs .nil pass0 (pa_cons (pe_var (i := 1) rfl (by first | exact Or.inl rfl | exact Or.inr (Or.inl rfl) | exact Or.inr (Or.inr rfl))) (pa_cons (pe_var (i := 4) rfl (by first | exact Or.inl rfl | exact Or.inr (Or.inl rfl) | exact Or.inr (Or.inr rfl)))
          (pa_cons (pe_ix ix_list (pe_var (i := 5) rfl (by first | exact Or.inl rfl | exact Or.inr (Or.inl rfl) | exact Or.inr (Or.inr rfl))) (pe_var (i := 4) rfl (by first | exact Or.inl rfl | exact Or.inr (Or.inl rfl) | exact Or.inr (Or.inr rfl))) (fun _ _ => rfl)) pa_nil)))))
      (pss_cons (ps_expr (pe_bm PySem.F.plainAttrs_list PySem.F.slot_list_append PySem.F.type_list_append mt_append (pe_var (i := 6) rfl (by first | exact Or.inl rfl | exact Or.inr (Or.inl rfl) | exact Or.inr (Or.inr rfl))) (pa_cons (se_tup (T := T) (sa_cons (se_var (i := 4)) (sa_cons (se_var (i := 7)) sa_nil))) pa_nil)))
      (pss_one (ps_expr (pe_bm PySem.F.plainAttrs_list PySem.F.slot_list_extend PySem.F.type_list_extend mt_extendT
        (pe_ix ix_list (pe_var (i := 5) rfl (by first | exact Or.inl rfl | exact Or.inr (Or.inl rfl) | exact Or.inr (Or.inr rfl))) (se_call (T := T) C_near_elder hT rfl (hr.mono (by decide)) rfl (sa_cons (se_var (i := 0)) (sa_cons (se_var (i := 3)) (sa_cons (se_var (i := 4)) sa_nil)))) (fun _ _ => rfl))
        (pa_cons (pe_var (i := 7) rfl (by first | exact Or.inl rfl | exact Or.inr (Or.inl rfl) | exact Or.inr (Or.inr rfl))) pa_nil)))))) (by intro _; rfl))
    (pss_one (ps_ret (pe_var (i := 6) rfl (by first | exact Or.inl rfl | exact Or.inr (Or.inl rfl) | exact Or.inr (Or.inr rfl)))))))) fun D0 σ H0 ⟨ρ, o, Bs, S0, S, e, k, post⟩ => ?_
  unfold cWalk at e
  obtain ⟨hg, e⟩ := gd_some e
  rw [Bool.and_eq_true] at hg
  have hlen := Nat.eq_of_beq_eq_true hg.1
  have hno := hg.2
  split at e
  · rename_i h b vs m v0 v1 v2 v3
    obtain ⟨hz, e⟩ := gd_some e
    have hz := Nat.le_of_ble_eq_true hz
    split at e
    · rename_i l hw
      cases e
      have hsrc : iRg1 (eOp gAdd (eCall gLen (aCons (eVar 0) aNil)) (eC (.int 1))) ρ = some (rgD 0 (h.length + 1)) := by
        unfold iRg1 eOp eCall aCons aNil eC
        rw [ev_pu v0]
        show gd (smI ((h.length : Int) + 1)) (some (rgD 0 ((h.length : Int) + 1).toNat)) = _
        have : smI ((h.length : Int) + 1) = true := by
          unfold smI
          rw [Bool.and_eq_true, decide_eq_true_iff, decide_eq_true_iff]
          omega
        rw [this]
        show some (rgD 0 ((h.length : Int) + 1).toNat) = _
        have : ((h.length : Int) + 1).toNat = h.length + 1 := by omega
        rw [this]
      refine ⟨ρ, _, Bs, S0, S, hsrc, k, fun J S1 H1 e1 wk Dl hD => ?_⟩
      have hD0 : H0 Dl = none := e1.h.n Dl hD
      have hS1 : S1 Dl = none := fresh_of e1.c hD
      refine ⟨fun i mm H' => mm = h.length + 1 - i ∧ i ≤ h.length + 1 ∧ ∃ S' qs, Ext T S H0 S' H' ∧ Same S1 S' ∧ S' Dl = none ∧ H' Dl = some (.lst (qs.map V.ref)) ∧ qs.length = i ∧ Dl ∉ qs ∧ Inn S' H0 H' qs (List.replicate i []),
        ⟨_, rfl, Nat.zero_le _, S1, [], e1.trans (Ext.newO e1.c e1.t hD), e1.c.rf, hS1, upd_same, rfl, by simp, ⟨rfl, List.nodup_nil, fun i q l h1 h2 => by simp at h1⟩⟩, ?_⟩
      rintro i mm H' ⟨em, hin, S', qs, e2, s12, hSD, hHD, hql, hnot, inn⟩
      have w := wk i S' H' s12 e2.c e2.t
      by_cases hlt : i < h.length + 1
      · obtain ⟨d, hd⟩ := rgD_at hlt 0
        obtain ⟨hgo, hy⟩ := w.1 _ hd
        refine .inr ⟨hgo, fun H'' => ∃ S' qs, Ext T S H0 S' H'' ∧ Same S1 S' ∧ S' Dl = none ∧ H'' Dl = some (.lst (qs.map V.ref)) ∧ qs.length = i + 1 ∧ Dl ∉ qs ∧ Inn S' H0 H'' qs (List.replicate (i + 1) []), fun H'' hh => ⟨h.length + 1 - (i + 1), by omega, rfl, hlt, hh⟩, fun x H3 yl => ?_⟩
        obtain ⟨S3, e3, r3⟩ := hy x H3 yl
        refine ⟨?_, ?_⟩
        · show ((σ.set 8 none).set 8 (some x)).set 8 none = σ.set 8 none
          rw [List.set_set, List.set_set]
        · refine tYes_of ?_
          dsimp only
          rw [if_pos rfl]
          refine ⟨Nat.zero_le _, fun q hq => ?_⟩
          have e4 : Ext T S3 H3 S3 (upd H3 q (.lst [])) := Ext.newO e3.c e3.t hq
          have ee := e2.trans (e3.trans e4)
          have h3D : H3 Dl = some (.lst (qs.map V.ref)) := e3.h.lst hHD (e2.no hD0)
          have s3D := ext_none e3 hHD hSD
          have hqD : q ≠ Dl := fun z => by rw [z, h3D] at hq; cases hq
          have h4D : upd H3 q (.lst []) Dl = some (.lst (qs.map V.ref)) := by rw [upd_ne (Ne.symm hqD)]; exact h3D
          have i4 := inn.ext e2.b (e3.trans e4)
          have hqq : q ∉ qs := fun z => ((inn.ext e2.b e3).in z).1 hq
          refine ⟨qs.map V.ref, h4D, ?_, S3, qs ++ [q], ee.wr hD0 s3D h4D, s12.trans e3.s, s3D, ?_, ?_, ?_, ?_⟩
          · rw [List.length_map, hql, sizeLine_eq]; omega
          · rw [upd_same, List.map_append] <;> rfl
          · rw [List.length_append, hql] <;> rfl
          · intro z
            rcases List.mem_append.mp z with z | z
            · exact hnot z
            · exact hqD (List.mem_singleton.mp z).symm
          · rw [List.replicate_succ']
            refine (i4.other hnot).snoc ?_ (fresh_of e3.c hq) ((e2.trans e3).h.n q hq) hqq
            rw [upd_ne hqD, upd_same]
      · have hi : i = h.length + 1 := by omega
        refine .inl ⟨w.2 (by rw [rgD_len]; omega), ?_⟩
        subst hi
        have k5 : Ok T Bs S0 (upd S' Dl (.lst (qs.map V.ref))) H' (σ.set 5 (some (.ref Dl))) (ρ.set 5 (.pu (.lst (qs.map D.adr)))) := (k.ext (e2.fix hHD hSD hD0)).set ⟨Dl, _, rfl, upd_same, adrs_rep⟩
        have inn5 : Inn (upd S' Dl (.lst (qs.map V.ref))) Bs H' qs (List.replicate (h.length + 1) []) := inn.base (fun q z => k.e.h.n q z) (fun q z => by
          rw [upd_ne (fun y => hnot (by rw [← y]; exact z))]
          exact (inn.in z).2.1) (same_fix e2.c hSD)
        refine ⟨Nat.zero_le _, fun p hp => ?_⟩
        have k6 := k5.own (i := 6) (ds := []) (Ext.newO (o := .lst []) k5.c k5.t hp) upd_same (fresh_of k5.c hp) hp rfl
        have inn6 := inn5.ext k5.e.b (Ext.newO (o := .lst []) k5.c k5.t hp)
        have hpq : p ∉ qs := fun z => (inn5.in z).1 hp
        have rl6 : ((ρ.set 5 (.pu (.lst (qs.map D.adr)))).set 6 (.ow [])).length = 9 := by rw [List.length_set, List.length_set, hlen]
        have g6 : ∀ (j : Nat) (s : Sl), j ≠ 5 → j ≠ 6 → ρ[j]? = some s → ((ρ.set 5 (.pu (.lst (qs.map D.adr)))).set 6 (.ow []))[j]? = some s := fun j s h1 h2 h3 => by
          rw [List.getElem?_set_ne (Ne.symm h2), List.getElem?_set_ne (Ne.symm h1)]
          exact h3
        have f5 : ((ρ.set 5 (.pu (.lst (qs.map D.adr)))).set 6 (.ow []))[(5 : Nat)]? = some (.pu (.lst (qs.map D.adr))) := by
          rw [List.getElem?_set_ne (by decide), List.getElem?_set_self (by rw [hlen]; decide)]
        have f6 : ((ρ.set 5 (.pu (.lst (qs.map D.adr)))).set 6 (.ow []))[(6 : Nat)]? = some (.ow []) := List.getElem?_set_self (by rw [List.length_set, hlen]; decide)
        have src2 : iTupD (eUn gRevT (eVar 2)) ((ρ.set 5 (.pu (.lst (qs.map D.adr)))).set 6 (.ow [])) = some vs.reverse := by
          unfold iTupD eUn
          rw [ev_pu (g6 2 _ (by decide) (by decide) v2)] <;> rfl
        refine ⟨_, _, Bs, S0, _, src2, k6, fun J2 S2 H2 e6 wk2 => ?_⟩
        have kk := k6.ext e6
        have only6 : ∀ (i : Nat) (l : List D), ((ρ.set 5 (.pu (.lst (qs.map D.adr)))).set 6 (.ow []))[i]? = some (.ow l) → i = 6 := fun i l hi => by
          rcases getSet hi with ⟨z, _⟩ | ⟨_, hi⟩
          · exact z
          · rcases getSet hi with ⟨_, z⟩ | ⟨_, hi⟩
            · cases z
            · have hm := List.mem_of_getElem? hi
              unfold noOw at hno
              have := (List.all_eq_true.mp hno) _ hm
              cases this
        have sl : σ.length = 9 := by rw [k.len, hlen]
        refine ⟨fun i mm σ' H' => mm = vs.length - i ∧ ∃ S' ls acc, Wst T Bs S2 (.tup h) b m S' H' σ' ls acc ∧ walkL (.tup h) b m (vs.reverse.drop i) ls acc = some l,
          ⟨_, rfl, S2, _, [], ⟨_, qs, kk.anchor, inn6.ext k6.e.b e6, g6 0 _ (by decide) (by decide) v0, g6 1 _ (by decide) (by decide) v1, g6 3 _ (by decide) (by decide) v3, f5, f6, rl6, fun q hq => ?_, only6⟩, hw⟩, ?_⟩
        · rw [List.getElem?_set_self (by rw [List.length_set, sl]; decide)] at hq
          cases hq
          exact hpq
        rintro i2 mm2 σ2 H3 ⟨em2, S3, ls, acc, ⟨ρ3, qs3, k3, inn3, a0, a1, a3, a5, a6, al, app, aow⟩, hw3⟩
        have w2 := wk2 i2 S3 H3 k3.e.s k3.c k3.t
        cases hd : vs.reverse.drop i2 with
        | nil =>
          rw [hd] at hw3
          cases hw3
          have hl : vs.reverse.length ≤ i2 := by
            by_cases z : i2 < vs.reverse.length
            · rw [List.drop_eq_getElem_cons z] at hd
              cases hd
            · omega
          refine .inl ⟨w2.2 hl, ?_⟩
          obtain ⟨S4, k4⟩ := (kk.back k3).frz a6
          have f6' : (ρ3.set 6 (.pu (.lst l)))[(6 : Nat)]? = some (.pu (.lst l)) := List.getElem?_set_self (by rw [al]; decide)
          obtain ⟨v, hv, rv⟩ := k4.pu f6'
          exact ⟨v, hv, post v S4 H3 k4.e rv⟩
        | cons d rs =>
          obtain ⟨q1, q2, q3⟩ := drop_cons hd
          rw [hd] at hw3
          obtain ⟨hgo, hy⟩ := w2.1 d q1
          refine .inr ⟨hgo, fun σ' H' => ∃ S' ls acc, Wst T Bs S2 (.tup h) b m S' H' σ' ls acc ∧ walkL (.tup h) b m (vs.reverse.drop (i2 + 1)) ls acc = some l, fun σ' H' hh => ⟨vs.length - (i2 + 1), by rw [List.length_reverse] at q3; omega, rfl, hh⟩, fun x H4 yl => ?_⟩
          obtain ⟨S4, e4, r4⟩ := hy x H4 yl
          unfold walkL at hw3
          split at hw3
          case h_2 => cases hw3
          rename_i vi
          split at hw3
          case h_2 => cases hw3
          rename_i lv hlv
          split at hw3
          case h_2 => cases hw3
          rename_i row hrow
          split at hw3
          case h_2 => cases hw3
          rename_i ns hns
          split at hw3
          case h_2 => cases hw3
          rename_i j hj
          split at hw3
          case h_2 => cases hw3
          rename_i l2 hl2
          obtain ⟨hsz, hw3⟩ := gd_some hw3
          rw [Bool.and_eq_true] at hsz
          have k4 := (k3.ext e4).set (i := 4) r4
          have inn4 := inn3.ext k3.e.b e4
          have l4 : (ρ3.set 4 (.pu (.int (.ofNat vi)))).length = 9 := by rw [List.length_set, al]
          have g4 : ∀ (j : Nat) (s : Sl), j ≠ 4 → ρ3[j]? = some s → (ρ3.set 4 (.pu (.int (.ofNat vi))))[j]? = some s := fun j s h1 h2 => by
            rw [List.getElem?_set_ne (Ne.symm h1)]
            exact h2
          have f4 : (ρ3.set 4 (.pu (.int (.ofNat vi))))[(4 : Nat)]? = some (.pu (.int (.ofNat vi))) := List.getElem?_set_self (by rw [al]; decide)
          obtain ⟨vb, hvb, rvb⟩ := k4.pu (g4 1 _ (by decide) a1)
          obtain ⟨vx, hvx, rvx⟩ := k4.pu f4
          have rvx : vx = .int (.ofNat vi) := rvx
          subst rvx
          obtain ⟨v5, hv5, p5, xs5, ev5, s5, r5⟩ := k4.pu (g4 5 _ (by decide) a5)
          have r5 := adrs_eq r5
          subst r5 ev5
          have hvq : vi < qs3.length := by rw [inn3.len]; exact (List.getElem?_eq_some_iff.mp hlv).1
          have hq : qs3[vi]? = some qs3[vi] := List.getElem?_eq_getElem hvq
          obtain ⟨xsq, hHq, hSq, hBq, rq⟩ := inn4.it vi _ lv hq hlv
          have sf : Same S4 (upd S4 qs3[vi] (.lst xsq)) := same_fix k4.c hSq
          have cf : Same (upd S4 qs3[vi] (.lst xsq)) H4 := ⟨fun b o z => by
            by_cases y : b = qs3[vi]
            · rw [y, upd_same] at z
              rw [y, ← Option.some.inj z]
              exact hHq
            · rw [upd_ne y] at z
              exact k4.c b o z, noTb_upd k4.c.z (by intro _ z; cases z)⟩
          have at5 : ∀ {i : Nat} {q : Addr}, qs3[i]? = some q → atI (qs3.map V.ref) (Int.ofNat i) = some (.ref q) := fun {i q} h => atI_nat (by rw [List.getElem?_map, h] <;> rfl)
          refine ⟨vb, hvb, .int (.ofNat vi), hvx, .ref p5, hv5, .int (.ofNat vi), hvx, p5, _, _, _, rfl, rfl, .inl (.inl (k4.c _ _ s5)), at5 hq, T, upd S4 qs3[vi] (.lst xsq), [b, .int (.ofNat vi), .lst lv], .tup row, hT, cf, k4.t, .cons (Rep.mono sf rvb) (.cons rfl (.one ⟨_, xsq, rfl, upd_same, Reps.mono sf rq⟩)), rfl, hrow, fun v S5x H5 e5x r5x => ?_⟩
          obtain ⟨S5, e5, r5⟩ := fix_back k4.c hSq e5x r5x hns
          have k5 := (k4.ext e5).set (i := 7) r5
          have inn5 := inn4.ext k4.e.b e5
          have l5 : ((ρ3.set 4 (.pu (.int (.ofNat vi)))).set 7 (.pu (.tup row))).length = 9 := by rw [List.length_set, l4]
          have g5 : ∀ (j : Nat) (s : Sl), j ≠ 4 → j ≠ 7 → ρ3[j]? = some s → ((ρ3.set 4 (.pu (.int (.ofNat vi)))).set 7 (.pu (.tup row)))[j]? = some s := fun j s h1 h3 h2 => by
            rw [List.getElem?_set_ne (Ne.symm h3)]
            exact g4 j s h1 h2
          have f54 : ((ρ3.set 4 (.pu (.int (.ofNat vi)))).set 7 (.pu (.tup row)))[(4 : Nat)]? = some (.pu (.int (.ofNat vi))) := by
            rw [List.getElem?_set_ne (by decide)]
            exact f4
          have f57 : ((ρ3.set 4 (.pu (.int (.ofNat vi)))).set 7 (.pu (.tup row)))[(7 : Nat)]? = some (.pu (.tup row)) := List.getElem?_set_self (by rw [l4]; decide)
          have a6' := g5 6 _ (by decide) (by decide) a6
          obtain ⟨p6, xs6, hp6, hH6, hS6, hB6, r6⟩ := k5.ow a6'
          have hd6 : eTup (aSz (aCons (eVar 4) (aCons (eVar 7) aNil))) ((ρ3.set 4 (.pu (.int (.ofNat vi)))).set 7 (.pu (.tup row))) = some (.tup [.int (.ofNat vi), .tup row]) := by
            unfold eTup aSz aCons
            rw [ev_pu f54, ev_pu f57] <;> rfl
          refine ⟨.ref p6, hp6, .inl ⟨rfl, xs6, .inl (.inl hH6)⟩, _, _, Bs, S2, S5, hd6, k5, fun v6 S6 H6 e6 rv6 => ⟨p6, xs6, v6, rfl, rfl, e6.h.lst hH6 (no_of k5.e.b hB6), by rw [r6.len]; exact szOk_lt hsz.2, ?_⟩⟩
          have k6 := (k5.ext e6).write a6' hp6 ((Reps.mono e6.s r6).append (.one rv6))
          have hp6q : p6 ∉ qs3 := app p6 (by
            rw [List.getElem?_set_ne (by decide), List.getElem?_set_ne (by decide)] at hp6
            exact hp6)
          have inn6 := (inn5.ext k5.e.b e6).other (o := .lst (xs6 ++ [v6])) hp6q
          have l6 : (((ρ3.set 4 (.pu (.int (.ofNat vi)))).set 7 (.pu (.tup row))).set 6 (.ow (acc ++ [.tup [.int (.ofNat vi), .tup row]]))).length = 9 := by rw [List.length_set, l5]
          have g6' : ∀ (j : Nat) (s : Sl), j ≠ 6 → ((ρ3.set 4 (.pu (.int (.ofNat vi)))).set 7 (.pu (.tup row)))[j]? = some s → (((ρ3.set 4 (.pu (.int (.ofNat vi)))).set 7 (.pu (.tup row))).set 6 (.ow (acc ++ [.tup [.int (.ofNat vi), .tup row]])))[j]? = some s := fun j s h1 h2 => by
            rw [List.getElem?_set_ne (Ne.symm h1)]
            exact h2
          obtain ⟨w5, hw5, p5', xs5', ew5, sw5, rw5⟩ := k6.pu (g6' 5 _ (by decide) (g5 5 _ (by decide) (by decide) a5))
          have rw5 := adrs_eq rw5
          subst rw5 ew5
          have hj6 : eCall F_near_elder (aCons (eVar 0) (aCons (eVar 3) (aCons (eVar 4) aNil))) (((ρ3.set 4 (.pu (.int (.ofNat vi)))).set 7 (.pu (.tup row))).set 6 (.ow (acc ++ [.tup [.int (.ofNat vi), .tup row]]))) = some (.int (.ofNat j)) := by
            unfold eCall aCons
            rw [ev_pu (g6' 0 _ (by decide) (g5 0 _ (by decide) (by decide) a0)), ev_pu (g6' 3 _ (by decide) (g5 3 _ (by decide) (by decide) a3)), ev_pu (g6' 4 _ (by decide) f54)]
            exact hj
          refine ⟨.ref p5', hw5, _, _, Bs, S2, S6, hj6, k6, fun u S7 H7 e7 r7 => ?_⟩
          have k7 := k6.ext e7
          have inn7 := inn6.ext k6.e.b e7
          have hjq : j < qs3.length := by rw [inn3.len]; exact (List.getElem?_eq_some_iff.mp hl2).1
          have hq2 : qs3[j]? = some qs3[j] := List.getElem?_eq_getElem hjq
          obtain ⟨xs2, hH2, hS2, hB2, r2⟩ := inn7.it j _ l2 hq2 hl2
          obtain ⟨w7, hw7, b7, zs7, ew7, sw7, rw7⟩ := k7.pu (g6' 7 _ (by decide) f57)
          subst ew7
          refine ⟨p5', _, Int.ofNat j, _, rfl, r7, .inl (.inl (k7.c _ _ (e7.s _ _ sw5))), at5 hq2, .inl ⟨rfl, xs2, .inl (.inl hH2)⟩, .ref b7, hw7, qs3[j], b7, xs2, zs7, rfl, rfl, hH2, .inl (.inl (k7.c _ _ sw7)), ?_, ?_⟩
          · have := szOk_le hsz.1
            rw [List.length_append] at this
            rw [r2.len, rw7.len]
            exact this
          · refine ⟨S7, ls.set j (l2 ++ row), acc ++ [.tup [.int (.ofNat vi), .tup row]], ⟨_, qs3, k7.hot hH2 hS2 hB2 fun i l hi hp => ?_, inn7.put hq2 (r2.append rw7), g6' 0 _ (by decide) (g5 0 _ (by decide) (by decide) a0), g6' 1 _ (by decide) (g5 1 _ (by decide) (by decide) a1), g6' 3 _ (by decide) (g5 3 _ (by decide) (by decide) a3), g6' 5 _ (by decide) (g5 5 _ (by decide) (by decide) a5), List.getElem?_set_self (by rw [l5]; decide), l6, fun p hp => ?_, fun i l hi => ?_⟩, by rw [q2]; exact hw3⟩
            · rcases getSet hi with ⟨z, _⟩ | ⟨z, hi⟩
              · subst z
                rw [hp6] at hp
                cases hp
                exact hp6q (List.mem_of_getElem? hq2)
              · rcases getSet hi with ⟨_, y⟩ | ⟨_, hi⟩
                · cases y
                · rcases getSet hi with ⟨_, y⟩ | ⟨_, hi⟩
                  · cases y
                  · exact z (aow i l hi)
            · rw [hp6] at hp
              cases hp
              exact hp6q
            · rcases getSet hi with ⟨z, _⟩ | ⟨z, hi⟩
              · exact z
              · rcases getSet hi with ⟨_, y⟩ | ⟨_, hi⟩
                · cases y
                · rcases getSet hi with ⟨_, y⟩ | ⟨_, hi⟩
                  · cases y
                  · exact aow i l hi
    · cases e
  · cases e
theorem c_walked {M : Md} (B : Blt M.mg) (h : DefAt M "walked" (topS 44) ["history", "bounds", "versions"]) (C_step_of : Cal M 3 "step_of" 3 F_step_of) (C_near_elder : Cal M 3 "near_elder" 3 F_near_elder) : Cal M 8 "walked" 3 F_walked :=
  (cal_of h ⟨rfl, rfl, rfl, nd_walked, rfl, by decide +kernel, by decide +kernel⟩ (b_walked B C_step_of C_near_elder))
end DL

set_option Elab.async false
set_option linter.all false
set_option maxRecDepth 100000
set_option maxHeartbeats 4000000
namespace DL
open PySem PySem.Spec PyProof.Rows L2 LamX NdefX
abbrev N_goes_above : List PySem.Str := ["history", "bounds", "versions", "pair"]
theorem nd_goes_above : N_goes_above.Nodup := by decide +kernel
def g_goes_above : Env → Option Out := (cRet (eCall gAny (aCons (eFz (fLc (iLstD (eCall F_walked (aCons (eVar 0) (aCons (eVar 1) (aCons (eVar 2) aNil))))) (.one 3) (List.map (·.2) ([("pair", 3)] : List (PySem.Str × Nat))) bYes (eOp (gI fun i j => decide (j < i)) (eOp gIx (eOp gIx (eVar 3) (eC (.int 1))) (eC (.int 0))) (eOp gIx (eVar 1) (eC (.int 0)))))) aNil)))
def F_goes_above : List D → Option D := runFn 4 3 g_goes_above
theorem b_goes_above {M : Md} (B : Blt M.mg) (C_walked : Cal M 8 "walked" 3 F_walked) : Body M 8 N_goes_above "goes_above" (topS 45) g_goes_above := fun T f cdv A outer s H E hT hr =>
  (ss_one (ss_ret (se_callB (cd_any rfl) rfl B.any bt_any (sa_cons (se_fz (sl_lc (own := [("pair", 3)]) (by decide) rfl nd_goes_above  (si_lst (se_call C_walked hT rfl (hr.mono (by decide)) rfl (sa_cons (se_var (i := 0)) (sa_cons (se_var (i := 1)) (sa_cons (se_var (i := 2)) sa_nil))))) (blkOk_by (show blkC N_goes_above (defScope (topS 45)) _ _ = true by decide +kernel)) (fun s H C cl fp => (pg_name (i := 3) nd_goes_above rfl (by first | exact Or.inl rfl | exact Or.inr rfl))) (fun s H C cl fp => sts_nil) (fun s H C cl fp => (se_cmp od_gt (se_ix ix_any (se_ix ix_any (se_var (i := 3)) se_int) se_int) (se_ix ix_any (se_var (i := 1)) se_int))))) sa_nil))))
theorem c_goes_above {M : Md} (B : Blt M.mg) (h : DefAt M "goes_above" (topS 45) ["history", "bounds", "versions"]) (C_walked : Cal M 8 "walked" 3 F_walked) : Cal M 9 "goes_above" 3 F_goes_above := cal_of h ⟨rfl, rfl, rfl, nd_goes_above, rfl, by decide +kernel, by decide +kernel⟩ (b_goes_above B C_walked)
abbrev N_one_bound : List PySem.Str := ["history", "bounds", "version", "width", "reach", "roof", "pairs"]
theorem nd_one_bound : N_one_bound.Nodup := by decide +kernel
def g_one_bound : Env → Option Out := (cSeq (cExpr (eCall F_need_bounds (aCons (eVar 0) (aCons (eVar 1) aNil)))) (cSeq (cExpr (eCall F_need_version (aCons (eVar 0) (aCons (eVar 2) aNil)))) (cSeq (cUnp 5 6 (eVar 1)) (cSeq (cIf (bNot (bOf (eCall F_up_to (aCons (eVar 3) (aCons (eC (.int 999)) aNil))))) cNo cNext) (cSeq (cIf (bNot (bOf (eCall F_up_to (aCons (eVar 4) (aCons (eVar 5) aNil))))) cNo cNext) (cRet (eTup (aSz (aCons (eVar 5) (aCons (eOp gAdd (eOp gAdd (eSl (eVar 6) oNo (oYes (eOp gSub (eVar 2) (eC (.int 1))))) (eTup (aSz (aCons (eTup (aSz (aCons (eVar 3) (aCons (eVar 4) aNil)))) aNil)))) (eSl (eVar 6) (oYes (eVar 2)) oNo)) aNil))))))))))
def F_one_bound : List D → Option D := runFn 7 5 g_one_bound
theorem b_one_bound {M : Md} (B : Blt M.mg) (C_up_to : Cal M 3 "up_to" 2 F_up_to) (C_need_version : Cal M 4 "need_version" 2 F_need_version) (C_need_bounds : Cal M 5 "need_bounds" 2 F_need_bounds) : Body M 5 N_one_bound "one_bound" (topS 47) g_one_bound := fun T f cdv A outer s H E hT hr =>
  (ss_cons (ss_expr (se_call C_need_bounds hT rfl (hr.mono (by decide)) rfl (sa_cons (se_var (i := 0)) (sa_cons (se_var (i := 1)) sa_nil)))) (ss_cons (ss_expr (se_call C_need_version hT rfl (hr.mono (by decide)) rfl (sa_cons (se_var (i := 0)) (sa_cons (se_var (i := 2)) sa_nil)))) (ss_cons (ss_unp (i := 5) (j := 6) rfl nd_one_bound rfl rfl (by first | exact Or.inl rfl | exact Or.inr rfl) (by first | exact Or.inl rfl | exact Or.inr rfl) (se_var (i := 1))) (ss_cons (ss_if (st_not (st_val (se_call C_up_to hT rfl (hr.mono (by decide)) rfl (sa_cons (se_var (i := 3)) (sa_cons (se_glob rfl B.gb.choose_spec) sa_nil))))) sss_never ss_nil) (ss_cons (ss_if (st_not (st_val (se_call C_up_to hT rfl (hr.mono (by decide)) rfl (sa_cons (se_var (i := 4)) (sa_cons (se_var (i := 5)) sa_nil))))) sss_never ss_nil) (ss_one (ss_ret (se_tup (sa_cons (se_var (i := 5)) (sa_cons (se_op od_add (se_op od_add (se_sl (se_var (i := 6)) so_none (so_some (se_op od_sub (se_var (i := 2)) se_int))) (se_tup (sa_cons (se_tup (sa_cons (se_var (i := 3)) (sa_cons (se_var (i := 4)) sa_nil))) sa_nil))) (se_sl (se_var (i := 6)) (so_some (se_var (i := 2))) so_none)) sa_nil))))))))))
theorem c_one_bound {M : Md} (B : Blt M.mg) (h : DefAt M "one_bound" (topS 47) ["history", "bounds", "version", "width", "reach"]) (C_up_to : Cal M 3 "up_to" 2 F_up_to) (C_need_version : Cal M 4 "need_version" 2 F_need_version) (C_need_bounds : Cal M 5 "need_bounds" 2 F_need_bounds) : Cal M 6 "one_bound" 5 F_one_bound := cal_of h ⟨rfl, rfl, rfl, nd_one_bound, rfl, by decide +kernel, by decide +kernel⟩ (b_one_bound B C_up_to C_need_version C_need_bounds)
abbrev N_is_heights : List PySem.Str := ["history", "thing", "height"]
theorem nd_is_heights : N_is_heights.Nodup := by decide +kernel
def g_is_heights : Env → Option Out := (cSeq (cIf (bOr (bNot (bOf (eUn (gIs isTupD) (eVar 1)))) (bOf (eOp gNe (eCall gLen (aCons (eVar 1) aNil)) (eCall gLen (aCons (eVar 0) aNil))))) (cRet (eC (.bl false))) cNext) (cRet (eCall gAll (aCons (eFz (fLc (iTupD (eVar 1)) (.one 2) (List.map (·.2) ([("height", 2)] : List (PySem.Str × Nat))) bYes (eCall F_is_natural (aCons (eVar 2) aNil)))) aNil))))
def F_is_heights : List D → Option D := runFn 3 2 g_is_heights
theorem b_is_heights {M : Md} (B : Blt M.mg) (C_is_natural : Cal M 2 "is_natural" 1 F_is_natural) : Body M 2 N_is_heights "is_heights" (topS 49) g_is_heights := fun T f cdv A outer s H E hT hr =>
  (ss_cons (ss_if (st_pw (sw_or (st_not (st_val (se_isi rfl B.isi (se_var (i := 1)) rfl B.tuple bt_tuple kit_tuple))) (sw_or1 (st_cmp od_ne (se_callB cd_len rfl B.len bt_len (sa_cons (se_var (i := 1)) sa_nil)) (se_callB cd_len rfl B.len bt_len (sa_cons (se_var (i := 0)) sa_nil)))))) (ss_one (ss_ret se_bl)) ss_nil) (ss_one (ss_ret (se_callB (cd_all rfl) rfl B.all bt_all (sa_cons (se_fz (sl_lc (own := [("height", 2)]) (by decide) rfl nd_is_heights  (si_tup (se_var (i := 1))) (blkOk_by (show blkC N_is_heights (defScope (topS 49)) _ _ = true by decide +kernel)) (fun s H C cl fp => (pg_name (i := 2) nd_is_heights rfl (by first | exact Or.inl rfl | exact Or.inr rfl))) (fun s H C cl fp => sts_nil) (fun s H C cl fp => (se_call C_is_natural hT rfl (hr.mono (by decide)) rfl (sa_cons (se_var (i := 2)) sa_nil))))) sa_nil)))))
theorem c_is_heights {M : Md} (B : Blt M.mg) (h : DefAt M "is_heights" (topS 49) ["history", "thing"]) (C_is_natural : Cal M 2 "is_natural" 1 F_is_natural) : Cal M 3 "is_heights" 2 F_is_heights := cal_of h ⟨rfl, rfl, rfl, nd_is_heights, rfl, by decide +kernel, by decide +kernel⟩ (b_is_heights B C_is_natural)
abbrev N_bases_by : List PySem.Str := ["history", "heights", "bases", "height", "parent", "elder"]
theorem nd_bases_by : N_bases_by.Nodup := by decide +kernel
def g_bases_by : Env → Option Out := (cSeq (cIf (bNot (bOf (eCall F_is_heights (aCons (eVar 0) (aCons (eVar 1) aNil))))) cNo cNext) (cSeq (cNew 2 (aSz aNil)) (cSeq (cFor (iZpD (eVar 1) (eVar 0)) (.two 3 4) (cSeq (cSet 5 (eVar 4)) (cSeq (whileL (bAnd (bOf (eOp gNe (eVar 5) (eC (.int 0)))) (bOf (eOp (gI fun i j => decide (i ≤ j)) (eOp gIx (eVar 1) (eOp gSub (eVar 5) (eC (.int 1)))) (eVar 3)))) (cSet 5 (eOp gIx (eVar 0) (eOp gSub (eVar 5) (eC (.int 1))))) 80) (cApp 2 (eVar 5))))) (cFrz 2 (cRet (eCall gTupl (aCons (eVar 2) aNil)))))))
def F_bases_by : List D → Option D := runFn 6 2 g_bases_by
theorem b_bases_by {M : Md} (B : Blt M.mg) (C_is_heights : Cal M 3 "is_heights" 2 F_is_heights) : Body M 3 N_bases_by "bases_by" (topS 50) g_bases_by := fun T f cdv A outer s H E hT hr =>
  (ss_cons (ss_if (st_not (st_val (se_call C_is_heights hT rfl (hr.mono (by decide)) rfl (sa_cons (se_var (i := 0)) (sa_cons (se_var (i := 1)) sa_nil))))) sss_never ss_nil) (ss_cons (ss_new (i := 2) nd_bases_by rfl (by first | exact Or.inl rfl | exact Or.inr rfl) (sl_lst sa_nil)) (ss_cons (ss_for PassesOwn.never rfl (si_zp rfl B.zip (se_var (i := 1)) (se_var (i := 0))) (pg_tup rfl (pgs_cons (pg_name (i := 3) nd_bases_by rfl (by first | exact Or.inl rfl | exact Or.inr rfl)) (pgs_cons (pg_name (i := 4) nd_bases_by rfl (by first | exact Or.inl rfl | exact Or.inr rfl)) pgs_nil))) (ss_cons (ss_set (i := 5) nd_bases_by rfl (by first | exact Or.inl rfl | exact Or.inr rfl) (se_var (i := 4))) (ss_cons (ss_while (n := 80) PassesOwn.never (st_pw (sw_and (st_cmp od_ne (se_var (i := 5)) se_int) (sw_and1 (st_cmp od_le (se_ix ix_any (se_var (i := 1)) (se_op od_sub (se_var (i := 5)) se_int)) (se_var (i := 3)))))) (ss_one (ss_set (i := 5) nd_bases_by rfl (by first | exact Or.inl rfl | exact Or.inr rfl) (se_ix ix_any (se_var (i := 0)) (se_op od_sub (se_var (i := 5)) se_int))))) (ss_one (ss_app (i := 2) rfl (by first | exact Or.inl rfl | exact Or.inr (Or.inl rfl) | exact Or.inr (Or.inr rfl)) (se_var (i := 5))))))) (ss_one (ss_frz (i := 2) (ss_ret (se_callTy cd_tuple rfl B.tuple bt_tuple (sa_cons (se_var (i := 2)) sa_nil))))))))
theorem c_bases_by {M : Md} (B : Blt M.mg) (h : DefAt M "bases_by" (topS 50) ["history", "heights"]) (C_is_heights : Cal M 3 "is_heights" 2 F_is_heights) : Cal M 4 "bases_by" 2 F_bases_by := cal_of h ⟨rfl, rfl, rfl, nd_bases_by, rfl, by decide +kernel, by decide +kernel⟩ (b_bases_by B C_is_heights)
abbrev N_wall_in : List PySem.Str := ["history", "bounds", "left", "version", "others", "other"]
theorem nd_wall_in : N_wall_in.Nodup := by decide +kernel
def g_wall_in : Env → Option Out := (cSeq (cExpr (eCall F_need_bounds (aCons (eVar 0) (aCons (eVar 1) aNil)))) (cSeq (cSet 2 (eCall F_all_versions (aCons (eVar 0) aNil))) (cSeq (cIf (bNot (bOf (eCall F_goes_above (aCons (eVar 0) (aCons (eVar 1) (aCons (eVar 2) aNil)))))) (cRet (eC .non)) cNext) (cSeq (cFor (iTupD (eUn gRevT (eVar 2))) (.one 3) (cSeq (cSet 4 (eCall gTupl (aCons (eFz (fLc (iTupD (eVar 2)) (.one 5) (List.map (·.2) ([("other", 5)] : List (PySem.Str × Nat))) (bOf (eOp gNe (eVar 5) (eVar 3))) (eVar 5))) aNil))) (cIf (bOf (eCall F_goes_above (aCons (eVar 0) (aCons (eVar 1) (aCons (eVar 4) aNil))))) (cSet 2 (eVar 4)) cNext))) (cRet (eVar 2))))))
def F_wall_in : List D → Option D := runFn 6 2 g_wall_in
theorem b_wall_in {M : Md} (B : Blt M.mg) (C_goes_above : Cal M 9 "goes_above" 3 F_goes_above) (C_all_versions : Cal M 1 "all_versions" 1 F_all_versions) (C_need_bounds : Cal M 5 "need_bounds" 2 F_need_bounds) : Body M 9 N_wall_in "wall_in" (topS 52) g_wall_in := fun T f cdv A outer s H E hT hr =>
  (ss_cons (ss_expr (se_call C_need_bounds hT rfl (hr.mono (by decide)) rfl (sa_cons (se_var (i := 0)) (sa_cons (se_var (i := 1)) sa_nil)))) (ss_cons (ss_set (i := 2) nd_wall_in rfl (by first | exact Or.inl rfl | exact Or.inr rfl) (se_call C_all_versions hT rfl (hr.mono (by decide)) rfl (sa_cons (se_var (i := 0)) sa_nil))) (ss_cons (ss_if (st_not (st_val (se_call C_goes_above hT rfl (hr.mono (by decide)) rfl (sa_cons (se_var (i := 0)) (sa_cons (se_var (i := 1)) (sa_cons (se_var (i := 2)) sa_nil)))))) (ss_one (ss_ret se_non)) ss_nil) (ss_cons (ss_for PassesOwn.never rfl (si_tup (se_revT (se_var (i := 2)))) (pg_name (i := 3) nd_wall_in rfl (by first | exact Or.inl rfl | exact Or.inr rfl)) (ss_cons (ss_set (i := 4) nd_wall_in rfl (by first | exact Or.inl rfl | exact Or.inr rfl) (se_callTy cd_tuple rfl B.tuple bt_tuple (sa_cons (se_fz (sl_lc (own := [("other", 5)]) (by decide) rfl nd_wall_in  (si_tup (se_var (i := 2))) (blkOk_by (show blkC N_wall_in (defScope (topS 52)) _ _ = true by decide +kernel)) (fun s H C cl fp => (pg_name (i := 5) nd_wall_in rfl (by first | exact Or.inl rfl | exact Or.inr rfl))) (fun s H C cl fp => (sts_one (st_cmp od_ne (se_var (i := 5)) (se_var (i := 3))))) (fun s H C cl fp => (se_var (i := 5))))) sa_nil))) (ss_one (ss_if (st_val (se_call C_goes_above hT rfl (hr.mono (by decide)) rfl (sa_cons (se_var (i := 0)) (sa_cons (se_var (i := 1)) (sa_cons (se_var (i := 4)) sa_nil))))) (ss_one (ss_set (i := 2) nd_wall_in rfl (by first | exact Or.inl rfl | exact Or.inr rfl) (se_var (i := 4)))) ss_nil)))) (ss_one (ss_ret (se_var (i := 2))))))))
theorem c_wall_in {M : Md} (B : Blt M.mg) (h : DefAt M "wall_in" (topS 52) ["history", "bounds"]) (C_goes_above : Cal M 9 "goes_above" 3 F_goes_above) (C_all_versions : Cal M 1 "all_versions" 1 F_all_versions) (C_need_bounds : Cal M 5 "need_bounds" 2 F_need_bounds) : Cal M 10 "wall_in" 2 F_wall_in := cal_of h ⟨rfl, rfl, rfl, nd_wall_in, rfl, by decide +kernel, by decide +kernel⟩ (b_wall_in B C_goes_above C_all_versions C_need_bounds)
abbrev N_rows_of : List PySem.Str := ["history", "bounds", "pairs", "_", "row"]
theorem nd_rows_of : N_rows_of.Nodup := by decide +kernel
def g_rows_of : Env → Option Out := (cSeq (cExpr (eCall F_need_bounds (aCons (eVar 0) (aCons (eVar 1) aNil)))) (cSeq (cSet 2 (eCall F_walked (aCons (eVar 0) (aCons (eVar 1) (aCons (eCall F_all_versions (aCons (eVar 0) aNil)) aNil))))) (cRet (eCall gTupl (aCons (eFz (fLc (iLstD (eFz (lRev (eVar 2)))) (.two 3 4) (List.map (·.2) ([("_", 3), ("row", 4)] : List (PySem.Str × Nat))) bYes (eVar 4))) aNil)))))
def F_rows_of : List D → Option D := runFn 5 2 g_rows_of
theorem b_rows_of {M : Md} (B : Blt M.mg) (C_all_versions : Cal M 1 "all_versions" 1 F_all_versions) (C_walked : Cal M 8 "walked" 3 F_walked) (C_need_bounds : Cal M 5 "need_bounds" 2 F_need_bounds) : Body M 8 N_rows_of "rows_of" (topS 54) g_rows_of := fun T f cdv A outer s H E hT hr =>
  (ss_cons (ss_expr (se_call C_need_bounds hT rfl (hr.mono (by decide)) rfl (sa_cons (se_var (i := 0)) (sa_cons (se_var (i := 1)) sa_nil)))) (ss_cons (ss_set (i := 2) nd_rows_of rfl (by first | exact Or.inl rfl | exact Or.inr rfl) (se_call C_walked hT rfl (hr.mono (by decide)) rfl (sa_cons (se_var (i := 0)) (sa_cons (se_var (i := 1)) (sa_cons (se_call C_all_versions hT rfl (hr.mono (by decide)) rfl (sa_cons (se_var (i := 0)) sa_nil)) sa_nil))))) (ss_one (ss_ret (se_callTy cd_tuple rfl B.tuple bt_tuple (sa_cons (se_fz (sl_lc (own := [("_", 3), ("row", 4)]) (by decide) rfl nd_rows_of  (si_lst (se_fz (sl_rev (se_var (i := 2))))) (blkOk_by (show blkC N_rows_of (defScope (topS 54)) _ _ = true by decide +kernel)) (fun s H C cl fp => (pg_tup rfl (pgs_cons (pg_name (i := 3) nd_rows_of rfl (by first | exact Or.inl rfl | exact Or.inr rfl)) (pgs_cons (pg_name (i := 4) nd_rows_of rfl (by first | exact Or.inl rfl | exact Or.inr rfl)) pgs_nil)))) (fun s H C cl fp => sts_nil) (fun s H C cl fp => (se_var (i := 4))))) sa_nil))))))
theorem c_rows_of {M : Md} (B : Blt M.mg) (h : DefAt M "rows_of" (topS 54) ["history", "bounds"]) (C_all_versions : Cal M 1 "all_versions" 1 F_all_versions) (C_walked : Cal M 8 "walked" 3 F_walked) (C_need_bounds : Cal M 5 "need_bounds" 2 F_need_bounds) : Cal M 9 "rows_of" 2 F_rows_of := cal_of h ⟨rfl, rfl, rfl, nd_rows_of, rfl, by decide +kernel, by decide +kernel⟩ (b_rows_of B C_all_versions C_walked C_need_bounds)
abbrev N_walk_heights : List PySem.Str := ["history", "bounds", "row"]
theorem nd_walk_heights : N_walk_heights.Nodup := by decide +kernel
def g_walk_heights : Env → Option Out := (cRet (eCall gTupl (aCons (eFz (fLc (iTupD (eCall F_rows_of (aCons (eVar 0) (aCons (eVar 1) aNil)))) (.one 2) (List.map (·.2) ([("row", 2)] : List (PySem.Str × Nat))) bYes (eOp gIx (eVar 2) (eUn gNeg (eC (.int 1)))))) aNil)))
def F_walk_heights : List D → Option D := runFn 3 2 g_walk_heights
theorem b_walk_heights {M : Md} (B : Blt M.mg) (C_rows_of : Cal M 9 "rows_of" 2 F_rows_of) : Body M 9 N_walk_heights "walk_heights" (topS 55) g_walk_heights := fun T f cdv A outer s H E hT hr =>
  (ss_one (ss_ret (se_callTy cd_tuple rfl B.tuple bt_tuple (sa_cons (se_fz (sl_lc (own := [("row", 2)]) (by decide) rfl nd_walk_heights  (si_tup (se_call C_rows_of hT rfl (hr.mono (by decide)) rfl (sa_cons (se_var (i := 0)) (sa_cons (se_var (i := 1)) sa_nil)))) (blkOk_by (show blkC N_walk_heights (defScope (topS 55)) _ _ = true by decide +kernel)) (fun s H C cl fp => (pg_name (i := 2) nd_walk_heights rfl (by first | exact Or.inl rfl | exact Or.inr rfl))) (fun s H C cl fp => sts_nil) (fun s H C cl fp => (se_ix ix_any (se_var (i := 2)) (se_neg se_int))))) sa_nil))))
theorem c_walk_heights {M : Md} (B : Blt M.mg) (h : DefAt M "walk_heights" (topS 55) ["history", "bounds"]) (C_rows_of : Cal M 9 "rows_of" 2 F_rows_of) : Cal M 10 "walk_heights" 2 F_walk_heights := cal_of h ⟨rfl, rfl, rfl, nd_walk_heights, rfl, by decide +kernel, by decide +kernel⟩ (b_walk_heights B C_rows_of)
abbrev N_top_of : List PySem.Str := ["history", "bounds", "row"]
theorem nd_top_of : N_top_of.Nodup := by decide +kernel
def g_top_of : Env → Option Out := (cRet (eMaxDef (eFz (fLc (iTupD (eCall F_rows_of (aCons (eVar 0) (aCons (eVar 1) aNil)))) (.one 2) (List.map (·.2) ([("row", 2)] : List (PySem.Str × Nat))) bYes (eOp gIx (eVar 2) (eC (.int 0))))) (eC (.int 0))))
def F_top_of : List D → Option D := runFn 3 2 g_top_of
theorem b_top_of {M : Md} (B : Blt M.mg) (C_rows_of : Cal M 9 "rows_of" 2 F_rows_of) : Body M 9 N_top_of "top_of" (topS 56) g_top_of := fun T f cdv A outer s H E hT hr =>
  (ss_one (ss_ret (se_maxDef rfl hr.units rfl B.max (se_fz (sl_lc (own := [("row", 2)]) (by decide) rfl nd_top_of  (si_tup (se_call C_rows_of hT rfl (hr.mono (by decide)) rfl (sa_cons (se_var (i := 0)) (sa_cons (se_var (i := 1)) sa_nil)))) (blkOk_by (show blkC N_top_of (defScope (topS 56)) _ _ = true by decide +kernel)) (fun s H C cl fp => (pg_name (i := 2) nd_top_of rfl (by first | exact Or.inl rfl | exact Or.inr rfl))) (fun s H C cl fp => sts_nil) (fun s H C cl fp => (se_ix ix_any (se_var (i := 2)) se_int)))) se_int)))
theorem c_top_of {M : Md} (B : Blt M.mg) (h : DefAt M "top_of" (topS 56) ["history", "bounds"]) (C_rows_of : Cal M 9 "rows_of" 2 F_rows_of) : Cal M 10 "top_of" 2 F_top_of := cal_of h ⟨rfl, rfl, rfl, nd_top_of, rfl, by decide +kernel, by decide +kernel⟩ (b_top_of B C_rows_of)
abbrev N_can_keep : List PySem.Str := ["history", "bounds"]
theorem nd_can_keep : N_can_keep.Nodup := by decide +kernel
def g_can_keep : Env → Option Out := (cSeq (cExpr (eCall F_need_bounds (aCons (eVar 0) (aCons (eVar 1) aNil)))) (cRet (eNot (eCall F_goes_above (aCons (eVar 0) (aCons (eVar 1) (aCons (eCall F_all_versions (aCons (eVar 0) aNil)) aNil)))))))
def F_can_keep : List D → Option D := runFn 2 2 g_can_keep
theorem b_can_keep {M : Md} (B : Blt M.mg) (C_all_versions : Cal M 1 "all_versions" 1 F_all_versions) (C_goes_above : Cal M 9 "goes_above" 3 F_goes_above) (C_need_bounds : Cal M 5 "need_bounds" 2 F_need_bounds) : Body M 9 N_can_keep "can_keep" (topS 57) g_can_keep := fun T f cdv A outer s H E hT hr =>
  (ss_cons (ss_expr (se_call C_need_bounds hT rfl (hr.mono (by decide)) rfl (sa_cons (se_var (i := 0)) (sa_cons (se_var (i := 1)) sa_nil)))) (ss_one (ss_ret (se_not (se_call C_goes_above hT rfl (hr.mono (by decide)) rfl (sa_cons (se_var (i := 0)) (sa_cons (se_var (i := 1)) (sa_cons (se_call C_all_versions hT rfl (hr.mono (by decide)) rfl (sa_cons (se_var (i := 0)) sa_nil)) sa_nil))))))))
theorem c_can_keep {M : Md} (B : Blt M.mg) (h : DefAt M "can_keep" (topS 57) ["history", "bounds"]) (C_all_versions : Cal M 1 "all_versions" 1 F_all_versions) (C_goes_above : Cal M 9 "goes_above" 3 F_goes_above) (C_need_bounds : Cal M 5 "need_bounds" 2 F_need_bounds) : Cal M 10 "can_keep" 2 F_can_keep := cal_of h ⟨rfl, rfl, rfl, nd_can_keep, rfl, by decide +kernel, by decide +kernel⟩ (b_can_keep B C_all_versions C_goes_above C_need_bounds)
abbrev N_plan_for : List PySem.Str := ["history", "bounds", "heights", "wall"]
theorem nd_plan_for : N_plan_for.Nodup := by decide +kernel
def g_plan_for : Env → Option Out := (cSeq (cSet 2 (eCall F_walk_heights (aCons (eVar 0) (aCons (eVar 1) aNil)))) (cSeq (cSet 3 (eCall F_wall_in (aCons (eVar 0) (aCons (eVar 1) aNil)))) (cSeq (cIf (bOf (eOp gNotN (eVar 3) (eC .non))) cNo cNext) (cRet (eCall F_bases_by (aCons (eVar 0) (aCons (eVar 2) aNil)))))))
def F_plan_for : List D → Option D := runFn 4 2 g_plan_for
theorem b_plan_for {M : Md} (B : Blt M.mg) (C_bases_by : Cal M 4 "bases_by" 2 F_bases_by) (C_wall_in : Cal M 10 "wall_in" 2 F_wall_in) (C_walk_heights : Cal M 10 "walk_heights" 2 F_walk_heights) : Body M 10 N_plan_for "plan_for" (topS 58) g_plan_for := fun T f cdv A outer s H E hT hr =>
  (ss_cons (ss_set (i := 2) nd_plan_for rfl (by first | exact Or.inl rfl | exact Or.inr rfl) (se_call C_walk_heights hT rfl (hr.mono (by decide)) rfl (sa_cons (se_var (i := 0)) (sa_cons (se_var (i := 1)) sa_nil)))) (ss_cons (ss_set (i := 3) nd_plan_for rfl (by first | exact Or.inl rfl | exact Or.inr rfl) (se_call C_wall_in hT rfl (hr.mono (by decide)) rfl (sa_cons (se_var (i := 0)) (sa_cons (se_var (i := 1)) sa_nil)))) (ss_cons (ss_if (st_cmp od_notN (se_var (i := 3)) se_non) sss_never ss_nil) (ss_one (ss_ret (se_call C_bases_by hT rfl (hr.mono (by decide)) rfl (sa_cons (se_var (i := 0)) (sa_cons (se_var (i := 2)) sa_nil))))))))
theorem c_plan_for {M : Md} (B : Blt M.mg) (h : DefAt M "plan_for" (topS 58) ["history", "bounds"]) (C_bases_by : Cal M 4 "bases_by" 2 F_bases_by) (C_wall_in : Cal M 10 "wall_in" 2 F_wall_in) (C_walk_heights : Cal M 10 "walk_heights" 2 F_walk_heights) : Cal M 11 "plan_for" 2 F_plan_for := cal_of h ⟨rfl, rfl, rfl, nd_plan_for, rfl, by decide +kernel, by decide +kernel⟩ (b_plan_for B C_bases_by C_wall_in C_walk_heights)
abbrev N_margin_of : List PySem.Str := ["history", "bounds"]
theorem nd_margin_of : N_margin_of.Nodup := by decide +kernel
def g_margin_of : Env → Option Out := (cSeq (cExpr (eCall F_need_bounds (aCons (eVar 0) (aCons (eVar 1) aNil)))) (cSeq (cIf (bNot (fun ρ => match (eVar 0) ρ with | some (.tup l) => some (!l.isEmpty) | _ => none)) (cRet (eC (.int 0))) cNext) (cRet (eOp gSub (eCall F_top_of (aCons (eVar 0) (aCons (eVar 1) aNil))) (eOp gIx (eVar 1) (eC (.int 0)))))))
def F_margin_of : List D → Option D := runFn 2 2 g_margin_of
theorem b_margin_of {M : Md} (B : Blt M.mg) (C_top_of : Cal M 10 "top_of" 2 F_top_of) (C_need_bounds : Cal M 5 "need_bounds" 2 F_need_bounds) : Body M 10 N_margin_of "margin_of" (topS 60) g_margin_of := fun T f cdv A outer s H E hT hr =>
  (ss_cons (ss_expr (se_call C_need_bounds hT rfl (hr.mono (by decide)) rfl (sa_cons (se_var (i := 0)) (sa_cons (se_var (i := 1)) sa_nil)))) (ss_cons (ss_if (st_not (st_tup (se_var (i := 0)))) (ss_one (ss_ret se_int)) ss_nil) (ss_one (ss_ret (se_op od_sub (se_call C_top_of hT rfl (hr.mono (by decide)) rfl (sa_cons (se_var (i := 0)) (sa_cons (se_var (i := 1)) sa_nil))) (se_ix ix_any (se_var (i := 1)) se_int))))))
theorem c_margin_of {M : Md} (B : Blt M.mg) (h : DefAt M "margin_of" (topS 60) ["history", "bounds"]) (C_top_of : Cal M 10 "top_of" 2 F_top_of) (C_need_bounds : Cal M 5 "need_bounds" 2 F_need_bounds) : Cal M 11 "margin_of" 2 F_margin_of := cal_of h ⟨rfl, rfl, rfl, nd_margin_of, rfl, by decide +kernel, by decide +kernel⟩ (b_margin_of B C_top_of C_need_bounds)
end DL

set_option Elab.async false
set_option linter.all false
set_option maxRecDepth 100000
set_option maxHeartbeats 4000000
namespace DL
open PySem PySem.Spec PyProof.Rows L2 LamX NdefX
abbrev N__law_same : List PySem.Str := ["_law_got", "_law_due", "_law_k"]
theorem nd__law_same : N__law_same.Nodup := by decide +kernel
def g__law_same (F : List D → Option D) : Env → Option Out := (cSeq (cIf (bOf (eOp gIsN (eVar 1) (eC .non))) (cRet (eOp gIsN (eVar 0) (eC .non))) cNext) (cSeq (cIf (bOf (eUn (gIs isTupD) (eVar 1))) (cSeq (cIf (bOr (bNot (bOf (eUn (gIs isTupD) (eVar 0)))) (bOf (eOp gNe (eCall gLen (aCons (eVar 0) aNil)) (eCall gLen (aCons (eVar 1) aNil))))) (cRet (eC (.bl false))) cNext) (cSeq (cFor (iRg1 (eCall gLen (aCons (eVar 1) aNil))) (.one 2) (cIf (bNot (bOf (eCall F (aCons (eOp gIx (eVar 0) (eVar 2)) (aCons (eOp gIx (eVar 1) (eVar 2)) aNil))))) (cRet (eC (.bl false))) cNext)) (cRet (eC (.bl true))))) cNext) (cSeq (cIf (bOr (bOf (eUn (gIs isBl) (eVar 1))) (bOf (eUn (gIs isBl) (eVar 0)))) (cRet (eAnd (eUn (gIs isBl) (eVar 1)) (eAnd (eUn (gIs isBl) (eVar 0)) (eOp gEq (eVar 0) (eVar 1))))) cNext) (cSeq (cIf (bOf (eUn (gIs isStrD) (eVar 1))) (cRet (eAnd (eUn (gIs isStrD) (eVar 0)) (eOp gEq (eVar 0) (eVar 1)))) cNext) (cRet (eAnd (eUn (gIs isInt) (eVar 0)) (eOp gEq (eVar 0) (eVar 1))))))))
def F__law_same_ : Nat → List D → Option D
  | 0 => fun _ => none
  | n + 1 => runFn 3 2 (g__law_same (F__law_same_ n))
def F__law_same : List D → Option D := F__law_same_ 5
theorem b__law_same {M : Md} {k : Nat} {F : List D → Option D} (hk : 0 ≤ k) (B : Blt M.mg) (CF : Cal M k "_law_same" 2 F) : Body M k N__law_same "_law_same" (topS 67) (g__law_same F) := fun T f cdv A outer s H E hT hr =>
  (ss_cons (ss_if (st_cmp od_isN (se_var (i := 1)) se_non) (ss_one (ss_ret (se_cmp od_isN (se_var (i := 0)) se_non))) ss_nil) (ss_cons (ss_if (st_val (se_isi rfl B.isi (se_var (i := 1)) rfl B.tuple bt_tuple kit_tuple)) (ss_cons (ss_if (st_pw (sw_or (st_not (st_val (se_isi rfl B.isi (se_var (i := 0)) rfl B.tuple bt_tuple kit_tuple))) (sw_or1 (st_cmp od_ne (se_callB cd_len rfl B.len bt_len (sa_cons (se_var (i := 0)) sa_nil)) (se_callB cd_len rfl B.len bt_len (sa_cons (se_var (i := 1)) sa_nil)))))) (ss_one (ss_ret se_bl)) ss_nil) (ss_cons (ss_for PassesOwn.never rfl (si_rg1 rfl B.range (se_callB cd_len rfl B.len bt_len (sa_cons (se_var (i := 1)) sa_nil))) (pg_name (i := 2) nd__law_same rfl (by first | exact Or.inl rfl | exact Or.inr rfl)) (ss_one (ss_if (st_not (st_val (se_call CF hT rfl hr rfl (sa_cons (se_ix ix_any (se_var (i := 0)) (se_var (i := 2))) (sa_cons (se_ix ix_any (se_var (i := 1)) (se_var (i := 2))) sa_nil))))) (ss_one (ss_ret se_bl)) ss_nil))) (ss_one (ss_ret se_bl)))) ss_nil) (ss_cons (ss_if (st_pw (sw_or (st_val (se_isi rfl B.isi (se_var (i := 1)) rfl B.bool bt_bool kit_bool)) (sw_or1 (st_val (se_isi rfl B.isi (se_var (i := 0)) rfl B.bool bt_bool kit_bool))))) (ss_one (ss_ret (se_and (se_isi rfl B.isi (se_var (i := 1)) rfl B.bool bt_bool kit_bool) (se_and (se_isi rfl B.isi (se_var (i := 0)) rfl B.bool bt_bool kit_bool) (se_one (se_cmp od_eq (se_var (i := 0)) (se_var (i := 1)))))))) ss_nil) (ss_cons (ss_if (st_val (se_isi rfl B.isi (se_var (i := 1)) rfl B.str bt_str kit_str)) (ss_one (ss_ret (se_and (se_isi rfl B.isi (se_var (i := 0)) rfl B.str bt_str kit_str) (se_one (se_cmp od_eq (se_var (i := 0)) (se_var (i := 1))))))) ss_nil) (ss_one (ss_ret (se_and (se_isi rfl B.isi (se_var (i := 0)) rfl B.int bt_int kit_int) (se_one (se_cmp od_eq (se_var (i := 0)) (se_var (i := 1)))))))))))
theorem cr__law_same {M : Md} (B : Blt M.mg) (h : DefAt M "_law_same" (topS 67) ["_law_got", "_law_due"]) : ∀ d : Nat, Cal M (d + 0) "_law_same" 2 (F__law_same_ d)
  | 0 => cal_none h rfl
  | d + 1 => (cal_of h ⟨rfl, rfl, rfl, nd__law_same, rfl, by decide +kernel, by decide +kernel⟩ (b__law_same (k := d + 0) (by omega) B (cr__law_same B h d))).lev (by omega)
theorem c__law_same {M : Md} (B : Blt M.mg) (h : DefAt M "_law_same" (topS 67) ["_law_got", "_law_due"]) : Cal M 5 "_law_same" 2 F__law_same := cr__law_same B h 5
abbrev N__law_step : List PySem.Str := ["_law_limit_here", "_law_floor", "_law_members", "_law_falling", "_law_tall", "_law_member"]
theorem nd__law_step : N__law_step.Nodup := by decide +kernel
def g__law_step : Env → Option Out := (cSeq (cSet 3 (eFz (lSortR (eVar 2)))) (cSeq (cSet 4 (eVar 1)) (cSeq (cIf (bAnd (bOf (eOp (gI fun i j => decide (j ≤ i)) (eCall gLen (aCons (eVar 3) aNil)) (eVar 0))) (bOf (eOp (gI fun i j => decide (j ≤ i)) (eOp gIx (eVar 3) (eOp gSub (eVar 0) (eC (.int 1)))) (eVar 1)))) (cSet 4 (eOp gAdd (eOp gIx (eVar 3) (eOp gSub (eVar 0) (eC (.int 1)))) (eC (.int 1)))) cNext) (cRet (eFz (eOpL gCat (eFz (fLc (iLstD (eVar 3)) (.one 5) (List.map (·.2) ([("_law_member", 5)] : List (PySem.Str × Nat))) (bOf (eOp (gI fun i j => decide (j ≤ i)) (eVar 5) (eVar 4))) (eVar 5))) (eFz (aSz (aCons (eVar 4) aNil)))))))))
def F__law_step : List D → Option D := runFn 6 3 g__law_step
theorem b__law_step {M : Md} (B : Blt M.mg) : Body M 0 N__law_step "_law_step" (topS 68) g__law_step := fun T f cdv A outer s H E hT hr =>
  (ss_cons (ss_set (i := 3) nd__law_step rfl (by first | exact Or.inl rfl | exact Or.inr rfl) (se_fz (sl_sortR rfl B.sorted (se_var (i := 2))))) (ss_cons (ss_set (i := 4) nd__law_step rfl (by first | exact Or.inl rfl | exact Or.inr rfl) (se_var (i := 1))) (ss_cons (ss_if (st_pw (sw_and (st_cmp od_ge (se_callB cd_len rfl B.len bt_len (sa_cons (se_var (i := 3)) sa_nil)) (se_var (i := 0))) (sw_and1 (st_cmp od_ge (se_ix ix_any (se_var (i := 3)) (se_op od_sub (se_var (i := 0)) se_int)) (se_var (i := 1)))))) (ss_one (ss_set (i := 4) nd__law_step rfl (by first | exact Or.inl rfl | exact Or.inr rfl) (se_op od_add (se_ix ix_any (se_var (i := 3)) (se_op od_sub (se_var (i := 0)) se_int)) se_int))) ss_nil) (ss_one (ss_ret (se_fz (sl_op ol_cat (se_fz (sl_lc (own := [("_law_member", 5)]) (by decide) rfl nd__law_step  (si_lst (se_var (i := 3))) (blkOk_by (show blkC N__law_step (defScope (topS 68)) _ _ = true by decide +kernel)) (fun s H C cl fp => (pg_name (i := 5) nd__law_step rfl (by first | exact Or.inl rfl | exact Or.inr rfl))) (fun s H C cl fp => (sts_one (st_cmp od_ge (se_var (i := 5)) (se_var (i := 4))))) (fun s H C cl fp => (se_var (i := 5))))) (se_fz (sl_lst (sa_cons (se_var (i := 4)) sa_nil))))))))))
theorem c__law_step {M : Md} (B : Blt M.mg) (h : DefAt M "_law_step" (topS 68) ["_law_limit_here", "_law_floor", "_law_members"]) : Cal M 1 "_law_step" 3 F__law_step := cal_of h ⟨rfl, rfl, rfl, nd__law_step, rfl, by decide +kernel, by decide +kernel⟩ (b__law_step B)
abbrev N__law_rows : List PySem.Str := ["_law_tree", "_law_limits", "_law_floors", "_law_heap", "_law_rows_here", "_law_v", "_law_members", "_law_k"]
theorem nd__law_rows : N__law_rows.Nodup := by decide +kernel
def g__law_rows : Env → Option Out := (cSeq (cNew 3 (fLc (iRg1 (eOp gAdd (eCall gLen (aCons (eVar 0) aNil)) (eC (.int 1)))) (.one 7) (List.map (·.2) ([("_law_k", 7)] : List (PySem.Str × Nat))) bYes (eFz (aSz aNil)))) (cSeq (cNew 4 (aSz aNil)) (cSeq (cFor (iRg3 (eCall gLen (aCons (eVar 0) aNil)) (eC (.int 0))) (.one 5) (cSeq (cSet 6 (eCall F__law_step (aCons (eOp gIx (eVar 1) (eOp gSub (eVar 5) (eC (.int 1)))) (aCons (eOp gIx (eVar 2) (eOp gSub (eVar 5) (eC (.int 1)))) (aCons (eIxOw 3 (eVar 5)) aNil))))) (cSeq (cApp 4 (eCall gTupl (aCons (eVar 6) aNil))) (cSetIx 3 (eOp gIx (eVar 0) (eOp gSub (eVar 5) (eC (.int 1)))) (eFz (eOpL gCat (eIxOw 3 (eOp gIx (eVar 0) (eOp gSub (eVar 5) (eC (.int 1))))) (eVar 6))))))) (cFrz 4 (cRet (eFz (eOpL gCat (eFz (aSz (aCons (eCall gTupl (aCons (eFz (lSortR (eIxOw 3 (eC (.int 0))))) aNil)) aNil))) (eFz (lRev (eVar 4))))))))))
def F__law_rows : List D → Option D := runFn 8 3 g__law_rows
theorem b__law_rows {M : Md} (B : Blt M.mg) (C__law_step : Cal M 1 "_law_step" 3 F__law_step) : Body M 1 N__law_rows "_law_rows" (topS 69) g__law_rows := fun T f cdv A outer s H E hT hr =>
  (ss_cons (ss_newLc (i := 3) (own := [("_law_k", 7)]) (by decide) rfl nd__law_rows rfl rfl rfl (si_rg1 rfl B.range (se_op od_add (se_callB cd_len rfl B.len bt_len (sa_cons (se_var (i := 0)) sa_nil)) se_int)) (blkOk_by (show blkC N__law_rows (defScope (topS 69)) _ _ = true by decide +kernel)) (fun s H C cl fp => (pg_name (i := 7) nd__law_rows rfl (by first | exact Or.inl rfl | exact Or.inr rfl))) (fun s H C cl fp => sts_nil) (fun s H C cl fp => (se_fz (sl_lst sa_nil)))) (ss_cons (ss_new (i := 4) nd__law_rows rfl (by first | exact Or.inl rfl | exact Or.inr rfl) (sl_lst sa_nil)) (ss_cons (ss_for PassesOwn.never rfl (si_rg3 rfl B.range (se_callB cd_len rfl B.len bt_len (sa_cons (se_var (i := 0)) sa_nil)) se_int) (pg_name (i := 5) nd__law_rows rfl (by first | exact Or.inl rfl | exact Or.inr rfl)) (ss_cons (ss_set (i := 6) nd__law_rows rfl (by first | exact Or.inl rfl | exact Or.inr rfl) (se_call C__law_step hT rfl (hr.mono (by decide)) rfl (sa_cons (se_ix ix_any (se_var (i := 1)) (se_op od_sub (se_var (i := 5)) se_int)) (sa_cons (se_ix ix_any (se_var (i := 2)) (se_op od_sub (se_var (i := 5)) se_int)) (sa_cons (se_ixOw (i := 3) rfl (by first | exact Or.inl rfl | exact Or.inr (Or.inl rfl) | exact Or.inr (Or.inr rfl)) (se_var (i := 5))) sa_nil))))) (ss_cons (ss_app (i := 4) rfl (by first | exact Or.inl rfl | exact Or.inr (Or.inl rfl) | exact Or.inr (Or.inr rfl)) (se_callTy cd_tuple rfl B.tuple bt_tuple (sa_cons (se_var (i := 6)) sa_nil))) (ss_one (ss_setIx (i := 3) rfl (by first | exact Or.inl rfl | exact Or.inr (Or.inl rfl) | exact Or.inr (Or.inr rfl)) (se_ix ix_any (se_var (i := 0)) (se_op od_sub (se_var (i := 5)) se_int)) (se_fz (sl_op ol_cat (se_ixOw (i := 3) rfl (by first | exact Or.inl rfl | exact Or.inr (Or.inl rfl) | exact Or.inr (Or.inr rfl)) (se_ix ix_any (se_var (i := 0)) (se_op od_sub (se_var (i := 5)) se_int))) (se_var (i := 6))))))))) (ss_one (ss_frz (i := 4) (ss_ret (se_fz (sl_op ol_cat (se_fz (sl_lst (sa_cons (se_callTy cd_tuple rfl B.tuple bt_tuple (sa_cons (se_fz (sl_sortR rfl B.sorted (se_ixOw (i := 3) rfl (by first | exact Or.inl rfl | exact Or.inr (Or.inl rfl) | exact Or.inr (Or.inr rfl)) se_int))) sa_nil)) sa_nil))) (se_fz (sl_rev (se_var (i := 4))))))))))))
theorem c__law_rows {M : Md} (B : Blt M.mg) (h : DefAt M "_law_rows" (topS 69) ["_law_tree", "_law_limits", "_law_floors"]) (C__law_step : Cal M 1 "_law_step" 3 F__law_step) : Cal M 2 "_law_rows" 3 F__law_rows := cal_of h ⟨rfl, rfl, rfl, nd__law_rows, rfl, by decide +kernel, by decide +kernel⟩ (b__law_rows B C__law_step)
abbrev N__law_high : List PySem.Str := ["_law_rows_here", "_law_row"]
theorem nd__law_high : N__law_high.Nodup := by decide +kernel
def g__law_high : Env → Option Out := (cRet (eCall gMax (aCons (eFz (eOpL gCat (eFz (aSz (aCons (eC (.int 0)) aNil))) (eFz (fLc (iLstD (eFz (lSl (eVar 0) (oYes (eC (.int 1))) oNo))) (.one 1) (List.map (·.2) ([("_law_row", 1)] : List (PySem.Str × Nat))) bYes (eOp gIx (eVar 1) (eC (.int 0))))))) aNil)))
def F__law_high : List D → Option D := runFn 2 1 g__law_high
theorem b__law_high {M : Md} (B : Blt M.mg) : Body M 0 N__law_high "_law_high" (topS 70) g__law_high := fun T f cdv A outer s H E hT hr =>
  (ss_one (ss_ret (se_callB (cd_max rfl) rfl B.max bt_max (sa_cons (se_fz (sl_op ol_cat (se_fz (sl_lst (sa_cons se_int sa_nil))) (se_fz (sl_lc (own := [("_law_row", 1)]) (by decide) rfl nd__law_high  (si_lst (se_fz (sl_sl (se_var (i := 0)) (so_some se_int) so_none))) (blkOk_by (show blkC N__law_high (defScope (topS 70)) _ _ = true by decide +kernel)) (fun s H C cl fp => (pg_name (i := 1) nd__law_high rfl (by first | exact Or.inl rfl | exact Or.inr rfl))) (fun s H C cl fp => sts_nil) (fun s H C cl fp => (se_ix ix_any (se_var (i := 1)) se_int)))))) sa_nil))))
theorem c__law_high {M : Md} (B : Blt M.mg) (h : DefAt M "_law_high" (topS 70) ["_law_rows_here"]) : Cal M 1 "_law_high" 1 F__law_high := cal_of h ⟨rfl, rfl, rfl, nd__law_high, rfl, by decide +kernel, by decide +kernel⟩ (b__law_high B)
abbrev N__law_above : List PySem.Str := ["_law_tree", "_law_limits", "_law_floors", "_law_roof", "_law_kept", "_law_k", "_law_heap", "_law_v", "_law_members", "_law_up"]
theorem nd__law_above : N__law_above.Nodup := by decide +kernel
def g__law_above : Env → Option Out := (cSeq (cNew 6 (fLc (iRg1 (eOp gAdd (eCall gLen (aCons (eVar 0) aNil)) (eC (.int 1)))) (.one 5) (List.map (·.2) ([("_law_k", 5)] : List (PySem.Str × Nat))) bYes (eFz (aSz aNil)))) (cSeq (cFor (iRevD (eVar 4)) (.one 7) (cSeq (cSet 8 (eCall F__law_step (aCons (eOp gIx (eVar 1) (eOp gSub (eVar 7) (eC (.int 1)))) (aCons (eOp gIx (eVar 2) (eOp gSub (eVar 7) (eC (.int 1)))) (aCons (eIxOw 6 (eVar 7)) aNil))))) (cSeq (cIf (bOf (eOp (gI fun i j => decide (j < i)) (eOp gIx (eVar 8) (eC (.int 0))) (eVar 3))) (cRet (eC (.bl true))) cNext) (cSeq (cSet 9 (eOp gIx (eVar 0) (eOp gSub (eVar 7) (eC (.int 1))))) (cSeq (cFor (iRg1 (eCall gLen (aCons (eVar 0) aNil))) (.one 5) (cSeq (cIf (bOr (bOf (eOp gEq (eVar 9) (eC (.int 0)))) (bOf (eOp gIn (eVar 9) (eVar 4)))) cBrk cNext) (cSet 9 (eOp gIx (eVar 0) (eOp gSub (eVar 9) (eC (.int 1))))))) (cSetIx 6 (eVar 9) (eFz (eOpL gCat (eIxOw 6 (eVar 9)) (eVar 8))))))))) (cRet (eC (.bl false)))))
def F__law_above : List D → Option D := runFn 10 5 g__law_above
theorem b__law_above {M : Md} (B : Blt M.mg) (C__law_step : Cal M 1 "_law_step" 3 F__law_step) : Body M 1 N__law_above "_law_above" (topS 71) g__law_above := fun T f cdv A outer s H E hT hr =>
  (ss_cons (ss_newLc (i := 6) (own := [("_law_k", 5)]) (by decide) rfl nd__law_above rfl rfl rfl (si_rg1 rfl B.range (se_op od_add (se_callB cd_len rfl B.len bt_len (sa_cons (se_var (i := 0)) sa_nil)) se_int)) (blkOk_by (show blkC N__law_above (defScope (topS 71)) _ _ = true by decide +kernel)) (fun s H C cl fp => (pg_name (i := 5) nd__law_above rfl (by first | exact Or.inl rfl | exact Or.inr rfl))) (fun s H C cl fp => sts_nil) (fun s H C cl fp => (se_fz (sl_lst sa_nil)))) (ss_cons (ss_for PassesOwn.never rfl (si_rev rfl B.reversed (se_var (i := 4))) (pg_name (i := 7) nd__law_above rfl (by first | exact Or.inl rfl | exact Or.inr rfl)) (ss_cons (ss_set (i := 8) nd__law_above rfl (by first | exact Or.inl rfl | exact Or.inr rfl) (se_call C__law_step hT rfl (hr.mono (by decide)) rfl (sa_cons (se_ix ix_any (se_var (i := 1)) (se_op od_sub (se_var (i := 7)) se_int)) (sa_cons (se_ix ix_any (se_var (i := 2)) (se_op od_sub (se_var (i := 7)) se_int)) (sa_cons (se_ixOw (i := 6) rfl (by first | exact Or.inl rfl | exact Or.inr (Or.inl rfl) | exact Or.inr (Or.inr rfl)) (se_var (i := 7))) sa_nil))))) (ss_cons (ss_if (st_cmp od_gt (se_ix ix_any (se_var (i := 8)) se_int) (se_var (i := 3))) (ss_one (ss_ret se_bl)) ss_nil) (ss_cons (ss_set (i := 9) nd__law_above rfl (by first | exact Or.inl rfl | exact Or.inr rfl) (se_ix ix_any (se_var (i := 0)) (se_op od_sub (se_var (i := 7)) se_int))) (ss_cons (ss_for PassesOwn.never rfl (si_rg1 rfl B.range (se_callB cd_len rfl B.len bt_len (sa_cons (se_var (i := 0)) sa_nil))) (pg_name (i := 5) nd__law_above rfl (by first | exact Or.inl rfl | exact Or.inr rfl)) (ss_cons (ss_if (st_pw (sw_or (st_cmp od_eq (se_var (i := 9)) se_int) (sw_or1 (st_cmp od_in (se_var (i := 9)) (se_var (i := 4)))))) (ss_one ss_brk) ss_nil) (ss_one (ss_set (i := 9) nd__law_above rfl (by first | exact Or.inl rfl | exact Or.inr rfl) (se_ix ix_any (se_var (i := 0)) (se_op od_sub (se_var (i := 9)) se_int)))))) (ss_one (ss_setIx (i := 6) rfl (by first | exact Or.inl rfl | exact Or.inr (Or.inl rfl) | exact Or.inr (Or.inr rfl)) (se_var (i := 9)) (se_fz (sl_op ol_cat (se_ixOw (i := 6) rfl (by first | exact Or.inl rfl | exact Or.inr (Or.inl rfl) | exact Or.inr (Or.inr rfl)) (se_var (i := 9))) (se_var (i := 8))))))))))) (ss_one (ss_ret se_bl))))
theorem c__law_above {M : Md} (B : Blt M.mg) (h : DefAt M "_law_above" (topS 71) ["_law_tree", "_law_limits", "_law_floors", "_law_roof", "_law_kept"]) (C__law_step : Cal M 1 "_law_step" 3 F__law_step) : Cal M 2 "_law_above" 5 F__law_above := cal_of h ⟨rfl, rfl, rfl, nd__law_above, rfl, by decide +kernel, by decide +kernel⟩ (b__law_above B C__law_step)
abbrev N__law_struck : List PySem.Str := ["_law_tree", "_law_limits", "_law_floors", "_law_roof", "_law_v", "_law_kept", "_law_others", "_law_x"]
theorem nd__law_struck : N__law_struck.Nodup := by decide +kernel
def g__law_struck : Env → Option Out := (cSeq (cSet 5 (eFz (fLc (iRg1 (eCall gLen (aCons (eVar 0) aNil))) (.one 4) (List.map (·.2) ([("_law_v", 4)] : List (PySem.Str × Nat))) bYes (eOp gAdd (eVar 4) (eC (.int 1)))))) (cSeq (cFor (iRg3 (eCall gLen (aCons (eVar 0) aNil)) (eC (.int 0))) (.one 4) (cSeq (cSet 6 (eFz (fLc (iLstD (eVar 5)) (.one 7) (List.map (·.2) ([("_law_x", 7)] : List (PySem.Str × Nat))) (bOf (eOp gNe (eVar 7) (eVar 4))) (eVar 7)))) (cIf (bOf (eCall F__law_above (aCons (eVar 0) (aCons (eVar 1) (aCons (eVar 2) (aCons (eVar 3) (aCons (eVar 6) aNil))))))) (cSet 5 (eVar 6)) cNext))) (cRet (eCall gTupl (aCons (eVar 5) aNil)))))
def F__law_struck : List D → Option D := runFn 8 4 g__law_struck
theorem b__law_struck {M : Md} (B : Blt M.mg) (C__law_above : Cal M 2 "_law_above" 5 F__law_above) : Body M 2 N__law_struck "_law_struck" (topS 72) g__law_struck := fun T f cdv A outer s H E hT hr =>
  (ss_cons (ss_setLc (i := 5) (own := [("_law_v", 4)]) (by decide) rfl nd__law_struck rfl rfl rfl (si_rg1 rfl B.range (se_callB cd_len rfl B.len bt_len (sa_cons (se_var (i := 0)) sa_nil))) (blkOk_by (show blkC N__law_struck (defScope (topS 72)) _ _ = true by decide +kernel)) (fun s H C cl fp => (pg_name (i := 4) nd__law_struck rfl (by first | exact Or.inl rfl | exact Or.inr rfl))) (fun s H C cl fp => sts_nil) (fun s H C cl fp => (se_op od_add (se_var (i := 4)) se_int))) (ss_cons (ss_for PassesOwn.never rfl (si_rg3 rfl B.range (se_callB cd_len rfl B.len bt_len (sa_cons (se_var (i := 0)) sa_nil)) se_int) (pg_name (i := 4) nd__law_struck rfl (by first | exact Or.inl rfl | exact Or.inr rfl)) (ss_cons (ss_setLc (i := 6) (own := [("_law_x", 7)]) (by decide) rfl nd__law_struck rfl rfl rfl (si_lst (se_var (i := 5))) (blkOk_by (show blkC N__law_struck (defScope (topS 72)) _ _ = true by decide +kernel)) (fun s H C cl fp => (pg_name (i := 7) nd__law_struck rfl (by first | exact Or.inl rfl | exact Or.inr rfl))) (fun s H C cl fp => (sts_one (st_cmp od_ne (se_var (i := 7)) (se_var (i := 4))))) (fun s H C cl fp => (se_var (i := 7)))) (ss_one (ss_if (st_val (se_call C__law_above hT rfl (hr.mono (by decide)) rfl (sa_cons (se_var (i := 0)) (sa_cons (se_var (i := 1)) (sa_cons (se_var (i := 2)) (sa_cons (se_var (i := 3)) (sa_cons (se_var (i := 6)) sa_nil))))))) (ss_one (ss_set (i := 5) nd__law_struck rfl (by first | exact Or.inl rfl | exact Or.inr rfl) (se_var (i := 6)))) ss_nil)))) (ss_one (ss_ret (se_callTy cd_tuple rfl B.tuple bt_tuple (sa_cons (se_var (i := 5)) sa_nil))))))
theorem c__law_struck {M : Md} (B : Blt M.mg) (h : DefAt M "_law_struck" (topS 72) ["_law_tree", "_law_limits", "_law_floors", "_law_roof"]) (C__law_above : Cal M 2 "_law_above" 5 F__law_above) : Cal M 3 "_law_struck" 4 F__law_struck := cal_of h ⟨rfl, rfl, rfl, nd__law_struck, rfl, by decide +kernel, by decide +kernel⟩ (b__law_struck B C__law_above)
abbrev N__law_choose : List PySem.Str := ["_law_top", "_law_few", "_law_total", "_law_k"]
theorem nd__law_choose : N__law_choose.Nodup := by decide +kernel
def g__law_choose : Env → Option Out := (cSeq (cIf (bOf (eOp (gI fun i j => decide (j < i)) (eVar 1) (eVar 0))) (cRet (eC (.int 0))) cNext) (cSeq (cSet 2 (eC (.int 1))) (cSeq (cFor (iRg1 (eVar 1)) (.one 3) (cSet 2 (eOp gDiv (eOp gMul (eVar 2) (eOp gSub (eVar 0) (eVar 3))) (eOp gAdd (eVar 3) (eC (.int 1)))))) (cRet (eVar 2)))))
def F__law_choose : List D → Option D := runFn 4 2 g__law_choose
theorem b__law_choose {M : Md} (B : Blt M.mg) : Body M 0 N__law_choose "_law_choose" (topS 73) g__law_choose := fun T f cdv A outer s H E hT hr =>
  (ss_cons (ss_if (st_cmp od_gt (se_var (i := 1)) (se_var (i := 0))) (ss_one (ss_ret se_int)) ss_nil) (ss_cons (ss_set (i := 2) nd__law_choose rfl (by first | exact Or.inl rfl | exact Or.inr rfl) se_int) (ss_cons (ss_for PassesOwn.never rfl (si_rg1 rfl B.range (se_var (i := 1))) (pg_name (i := 3) nd__law_choose rfl (by first | exact Or.inl rfl | exact Or.inr rfl)) (ss_one (ss_set (i := 2) nd__law_choose rfl (by first | exact Or.inl rfl | exact Or.inr rfl) (se_op od_div (se_op od_mul (se_var (i := 2)) (se_op od_sub (se_var (i := 0)) (se_var (i := 3)))) (se_op od_add (se_var (i := 3)) se_int))))) (ss_one (ss_ret (se_var (i := 2)))))))
theorem c__law_choose {M : Md} (B : Blt M.mg) (h : DefAt M "_law_choose" (topS 73) ["_law_top", "_law_few"]) : Cal M 1 "_law_choose" 2 F__law_choose := cal_of h ⟨rfl, rfl, rfl, nd__law_choose, rfl, by decide +kernel, by decide +kernel⟩ (b__law_choose B)
abbrev N__law_is_plan : List PySem.Str := ["_law_bases", "_law_many", "_law_k", "_law_z"]
theorem nd__law_is_plan : N__law_is_plan.Nodup := by decide +kernel
def g__law_is_plan : Env → Option Out := (cSeq (cIf (bOr (bNot (bOf (eUn (gIs isTupD) (eVar 0)))) (bOf (eOp gNe (eCall gLen (aCons (eVar 0) aNil)) (eVar 1)))) (cRet (eC (.bl false))) cNext) (cSeq (cFor (iRg1 (eVar 1)) (.one 2) (cIf (bOr (bNot (bOf (eUn (gIs isInt) (eOp gIx (eVar 0) (eVar 2))))) (bOr (bOf (eUn (gIs isBl) (eOp gIx (eVar 0) (eVar 2)))) (bNot (bOf (eChain (gI fun i j => decide (i ≤ j)) (gI fun i j => decide (i ≤ j)) (eC (.int 0)) (eOp gIx (eVar 0) (eVar 2)) (eVar 2)))))) (cRet (eC (.bl false))) cNext)) (cSeq (cFor (iRg1 (eVar 1)) (.one 2) (cIf (bOf (eOp (gI fun i j => decide (j < i)) (eCall gLen (aCons (eFz (fLc (iRg2 (eOp gAdd (eVar 2) (eC (.int 1))) (eVar 1)) (.one 3) (List.map (·.2) ([("_law_z", 3)] : List (PySem.Str × Nat))) (bAnd (bOf (eOp (gI fun i j => decide (i ≤ j)) (eOp gIx (eVar 0) (eVar 3)) (eVar 2))) (bOf (eOp (gI fun i j => decide (j < i)) (eOp gIx (eVar 0) (eVar 3)) (eOp gIx (eVar 0) (eVar 2))))) (eVar 3))) aNil)) (eC (.int 0)))) (cRet (eC (.bl false))) cNext)) (cRet (eC (.bl true))))))
def F__law_is_plan : List D → Option D := runFn 4 2 g__law_is_plan
theorem b__law_is_plan {M : Md} (B : Blt M.mg) : Body M 0 N__law_is_plan "_law_is_plan" (topS 74) g__law_is_plan := fun T f cdv A outer s H E hT hr =>
  (ss_cons (ss_if (st_pw (sw_or (st_not (st_val (se_isi rfl B.isi (se_var (i := 0)) rfl B.tuple bt_tuple kit_tuple))) (sw_or1 (st_cmp od_ne (se_callB cd_len rfl B.len bt_len (sa_cons (se_var (i := 0)) sa_nil)) (se_var (i := 1)))))) (ss_one (ss_ret se_bl)) ss_nil) (ss_cons (ss_for PassesOwn.never rfl (si_rg1 rfl B.range (se_var (i := 1))) (pg_name (i := 2) nd__law_is_plan rfl (by first | exact Or.inl rfl | exact Or.inr rfl)) (ss_one (ss_if (st_pw (sw_or (st_not (st_val (se_isi rfl B.isi (se_ix ix_any (se_var (i := 0)) (se_var (i := 2))) rfl B.int bt_int kit_int))) (sw_or (st_val (se_isi rfl B.isi (se_ix ix_any (se_var (i := 0)) (se_var (i := 2))) rfl B.bool bt_bool kit_bool)) (sw_or1 (st_not (st_chain od_le od_le se_int (se_ix ix_any (se_var (i := 0)) (se_var (i := 2))) (se_var (i := 2)))))))) (ss_one (ss_ret se_bl)) ss_nil))) (ss_cons (ss_for PassesOwn.never rfl (si_rg1 rfl B.range (se_var (i := 1))) (pg_name (i := 2) nd__law_is_plan rfl (by first | exact Or.inl rfl | exact Or.inr rfl)) (ss_one (ss_if (st_cmp od_gt (se_callB cd_len rfl B.len bt_len (sa_cons (se_fz (sl_lc (own := [("_law_z", 3)]) (by decide) rfl nd__law_is_plan  (si_rg2 rfl B.range (se_op od_add (se_var (i := 2)) se_int) (se_var (i := 1))) (blkOk_by (show blkC N__law_is_plan (defScope (topS 74)) _ _ = true by decide +kernel)) (fun s H C cl fp => (pg_name (i := 3) nd__law_is_plan rfl (by first | exact Or.inl rfl | exact Or.inr rfl))) (fun s H C cl fp => (sts_one (st_pw (sw_and (st_cmp od_le (se_ix ix_any (se_var (i := 0)) (se_var (i := 3))) (se_var (i := 2))) (sw_and1 (st_cmp od_gt (se_ix ix_any (se_var (i := 0)) (se_var (i := 3))) (se_ix ix_any (se_var (i := 0)) (se_var (i := 2))))))))) (fun s H C cl fp => (se_var (i := 3))))) sa_nil)) se_int) (ss_one (ss_ret se_bl)) ss_nil))) (ss_one (ss_ret se_bl)))))
theorem c__law_is_plan {M : Md} (B : Blt M.mg) (h : DefAt M "_law_is_plan" (topS 74) ["_law_bases", "_law_many"]) : Cal M 1 "_law_is_plan" 2 F__law_is_plan := cal_of h ⟨rfl, rfl, rfl, nd__law_is_plan, rfl, by decide +kernel, by decide +kernel⟩ (b__law_is_plan B)
abbrev N__law_reading : List PySem.Str := ["_law_bases", "_law_counts", "_law_base"]
theorem nd__law_reading : N__law_reading.Nodup := by decide +kernel
def g__law_reading : Env → Option Out := (cSeq (cNew 1 (aSz (aCons (eC (.int 0)) aNil))) (cSeq (cFor (iTupD (eVar 0)) (.one 2) (cApp 1 (eOp gAdd (eIxOw 1 (eVar 2)) (eC (.int 1))))) (cFrz 1 (cRet (eFz (lSl (eVar 1) (oYes (eC (.int 1))) oNo))))))
def F__law_reading : List D → Option D := runFn 3 1 g__law_reading
theorem b__law_reading {M : Md} (B : Blt M.mg) : Body M 0 N__law_reading "_law_reading" (topS 75) g__law_reading := fun T f cdv A outer s H E hT hr =>
  (ss_cons (ss_new (i := 1) nd__law_reading rfl (by first | exact Or.inl rfl | exact Or.inr rfl) (sl_lst (sa_cons se_int sa_nil))) (ss_cons (ss_for PassesOwn.never rfl (si_tup (se_var (i := 0))) (pg_name (i := 2) nd__law_reading rfl (by first | exact Or.inl rfl | exact Or.inr rfl)) (ss_one (ss_app (i := 1) rfl (by first | exact Or.inl rfl | exact Or.inr (Or.inl rfl) | exact Or.inr (Or.inr rfl)) (se_op od_add (se_ixOw (i := 1) rfl (by first | exact Or.inl rfl | exact Or.inr (Or.inl rfl) | exact Or.inr (Or.inr rfl)) (se_var (i := 2))) se_int)))) (ss_one (ss_frz (i := 1) (ss_ret (se_fz (sl_sl (se_var (i := 1)) (so_some se_int) so_none)))))))
theorem c__law_reading {M : Md} (B : Blt M.mg) (h : DefAt M "_law_reading" (topS 75) ["_law_bases"]) : Cal M 1 "_law_reading" 1 F__law_reading := cal_of h ⟨rfl, rfl, rfl, nd__law_reading, rfl, by decide +kernel, by decide +kernel⟩ (b__law_reading B)
abbrev N__law_writing : List PySem.Str := ["_law_bases", "_law_counts", "_law_e", "_law_z"]
theorem nd__law_writing : N__law_writing.Nodup := by decide +kernel
def g__law_writing : Env → Option Out := (cSeq (cNew 1 (aSz aNil)) (cSeq (cFor (iRg2 (eC (.int 1)) (eOp gAdd (eCall gLen (aCons (eVar 0) aNil)) (eC (.int 1)))) (.one 2) (cApp 1 (eCall gLen (aCons (eFz (fLc (iRg2 (eVar 2) (eOp gAdd (eCall gLen (aCons (eVar 0) aNil)) (eC (.int 1)))) (.one 3) (List.map (·.2) ([("_law_z", 3)] : List (PySem.Str × Nat))) (bOf (eOp (gI fun i j => decide (i < j)) (eOp gIx (eVar 0) (eOp gSub (eVar 3) (eC (.int 1)))) (eVar 2))) (eVar 3))) aNil)))) (cFrz 1 (cRet (eVar 1)))))
def F__law_writing : List D → Option D := runFn 4 1 g__law_writing
theorem b__law_writing {M : Md} (B : Blt M.mg) : Body M 0 N__law_writing "_law_writing" (topS 76) g__law_writing := fun T f cdv A outer s H E hT hr =>
  (ss_cons (ss_new (i := 1) nd__law_writing rfl (by first | exact Or.inl rfl | exact Or.inr rfl) (sl_lst sa_nil)) (ss_cons (ss_for PassesOwn.never rfl (si_rg2 rfl B.range se_int (se_op od_add (se_callB cd_len rfl B.len bt_len (sa_cons (se_var (i := 0)) sa_nil)) se_int)) (pg_name (i := 2) nd__law_writing rfl (by first | exact Or.inl rfl | exact Or.inr rfl)) (ss_one (ss_app (i := 1) rfl (by first | exact Or.inl rfl | exact Or.inr (Or.inl rfl) | exact Or.inr (Or.inr rfl)) (se_callB cd_len rfl B.len bt_len (sa_cons (se_fz (sl_lc (own := [("_law_z", 3)]) (by decide) rfl nd__law_writing  (si_rg2 rfl B.range (se_var (i := 2)) (se_op od_add (se_callB cd_len rfl B.len bt_len (sa_cons (se_var (i := 0)) sa_nil)) se_int)) (blkOk_by (show blkC N__law_writing (defScope (topS 76)) _ _ = true by decide +kernel)) (fun s H C cl fp => (pg_name (i := 3) nd__law_writing rfl (by first | exact Or.inl rfl | exact Or.inr rfl))) (fun s H C cl fp => (sts_one (st_cmp od_lt (se_ix ix_any (se_var (i := 0)) (se_op od_sub (se_var (i := 3)) se_int)) (se_var (i := 2))))) (fun s H C cl fp => (se_var (i := 3))))) sa_nil))))) (ss_one (ss_frz (i := 1) (ss_ret (se_var (i := 1)))))))
theorem c__law_writing {M : Md} (B : Blt M.mg) (h : DefAt M "_law_writing" (topS 76) ["_law_bases"]) : Cal M 1 "_law_writing" 1 F__law_writing := cal_of h ⟨rfl, rfl, rfl, nd__law_writing, rfl, by decide +kernel, by decide +kernel⟩ (b__law_writing B)
abbrev N__law_sorted : List PySem.Str := ["_law_many", "_law_limit_here", "_law_counts", "_law_least", "_law_k"]
theorem nd__law_sorted : N__law_sorted.Nodup := by decide +kernel
def g__law_sorted : Env → Option Out := (cSeq (cNew 2 (aSz aNil)) (cSeq (cSet 3 (eC (.int 0))) (cSeq (cFor (iRg2 (eC (.int 1)) (eOp gAdd (eVar 0) (eC (.int 1)))) (.one 4) (cSeq (cIf (bOf (eOp (gI fun i j => decide (i ≤ j)) (eCall F__law_choose (aCons (eOp gAdd (eVar 3) (eVar 1)) (aCons (eVar 1) aNil))) (eVar 4))) (cSet 3 (eOp gAdd (eVar 3) (eC (.int 1)))) cNext) (cApp 2 (eVar 3)))) (cFrz 2 (cRet (eVar 2))))))
def F__law_sorted : List D → Option D := runFn 5 2 g__law_sorted
theorem b__law_sorted {M : Md} (B : Blt M.mg) (C__law_choose : Cal M 1 "_law_choose" 2 F__law_choose) : Body M 1 N__law_sorted "_law_sorted" (topS 77) g__law_sorted := fun T f cdv A outer s H E hT hr =>
  (ss_cons (ss_new (i := 2) nd__law_sorted rfl (by first | exact Or.inl rfl | exact Or.inr rfl) (sl_lst sa_nil)) (ss_cons (ss_set (i := 3) nd__law_sorted rfl (by first | exact Or.inl rfl | exact Or.inr rfl) se_int) (ss_cons (ss_for PassesOwn.never rfl (si_rg2 rfl B.range se_int (se_op od_add (se_var (i := 0)) se_int)) (pg_name (i := 4) nd__law_sorted rfl (by first | exact Or.inl rfl | exact Or.inr rfl)) (ss_cons (ss_if (st_cmp od_le (se_call C__law_choose hT rfl (hr.mono (by decide)) rfl (sa_cons (se_op od_add (se_var (i := 3)) (se_var (i := 1))) (sa_cons (se_var (i := 1)) sa_nil))) (se_var (i := 4))) (ss_one (ss_set (i := 3) nd__law_sorted rfl (by first | exact Or.inl rfl | exact Or.inr rfl) (se_op od_add (se_var (i := 3)) se_int))) ss_nil) (ss_one (ss_app (i := 2) rfl (by first | exact Or.inl rfl | exact Or.inr (Or.inl rfl) | exact Or.inr (Or.inr rfl)) (se_var (i := 3)))))) (ss_one (ss_frz (i := 2) (ss_ret (se_var (i := 2))))))))
theorem c__law_sorted {M : Md} (B : Blt M.mg) (h : DefAt M "_law_sorted" (topS 77) ["_law_many", "_law_limit_here"]) (C__law_choose : Cal M 1 "_law_choose" 2 F__law_choose) : Cal M 2 "_law_sorted" 2 F__law_sorted := cal_of h ⟨rfl, rfl, rfl, nd__law_sorted, rfl, by decide +kernel, by decide +kernel⟩ (b__law_sorted B C__law_choose)
abbrev N__law_tops : List PySem.Str := ["_law_tree", "_law_bounds", "_law_limits", "_law_floors", "_law_pair"]
theorem nd__law_tops : N__law_tops.Nodup := by decide +kernel
def g__law_tops : Env → Option Out := (cSeq (cSet 2 (eFz (fLc (iTupD (eOp gIx (eVar 1) (eC (.int 1)))) (.one 4) (List.map (·.2) ([("_law_pair", 4)] : List (PySem.Str × Nat))) bYes (eOp gIx (eVar 4) (eC (.int 0)))))) (cSeq (cSet 3 (eFz (fLc (iTupD (eOp gIx (eVar 1) (eC (.int 1)))) (.one 4) (List.map (·.2) ([("_law_pair", 4)] : List (PySem.Str × Nat))) bYes (eOp gSub (eOp gAdd (eOp gIx (eVar 1) (eC (.int 0))) (eC (.int 1))) (eOp gIx (eVar 4) (eC (.int 1))))))) (cRet (eCall F__law_high (aCons (eCall F__law_rows (aCons (eVar 0) (aCons (eVar 2) (aCons (eVar 3) aNil)))) aNil)))))
def F__law_tops : List D → Option D := runFn 5 2 g__law_tops
theorem b__law_tops {M : Md} (B : Blt M.mg) (C__law_rows : Cal M 2 "_law_rows" 3 F__law_rows) (C__law_high : Cal M 1 "_law_high" 1 F__law_high) : Body M 2 N__law_tops "_law_tops" (topS 78) g__law_tops := fun T f cdv A outer s H E hT hr =>
  (ss_cons (ss_setLc (i := 2) (own := [("_law_pair", 4)]) (by decide) rfl nd__law_tops rfl rfl rfl (si_tup (se_ix ix_any (se_var (i := 1)) se_int)) (blkOk_by (show blkC N__law_tops (defScope (topS 78)) _ _ = true by decide +kernel)) (fun s H C cl fp => (pg_name (i := 4) nd__law_tops rfl (by first | exact Or.inl rfl | exact Or.inr rfl))) (fun s H C cl fp => sts_nil) (fun s H C cl fp => (se_ix ix_any (se_var (i := 4)) se_int))) (ss_cons (ss_setLc (i := 3) (own := [("_law_pair", 4)]) (by decide) rfl nd__law_tops rfl rfl rfl (si_tup (se_ix ix_any (se_var (i := 1)) se_int)) (blkOk_by (show blkC N__law_tops (defScope (topS 78)) _ _ = true by decide +kernel)) (fun s H C cl fp => (pg_name (i := 4) nd__law_tops rfl (by first | exact Or.inl rfl | exact Or.inr rfl))) (fun s H C cl fp => sts_nil) (fun s H C cl fp => (se_op od_sub (se_op od_add (se_ix ix_any (se_var (i := 1)) se_int) se_int) (se_ix ix_any (se_var (i := 4)) se_int)))) (ss_one (ss_ret (se_call C__law_high hT rfl (hr.mono (by decide)) rfl (sa_cons (se_call C__law_rows hT rfl (hr.mono (by decide)) rfl (sa_cons (se_var (i := 0)) (sa_cons (se_var (i := 2)) (sa_cons (se_var (i := 3)) sa_nil)))) sa_nil))))))
theorem c__law_tops {M : Md} (B : Blt M.mg) (h : DefAt M "_law_tops" (topS 78) ["_law_tree", "_law_bounds"]) (C__law_rows : Cal M 2 "_law_rows" 3 F__law_rows) (C__law_high : Cal M 1 "_law_high" 1 F__law_high) : Cal M 3 "_law_tops" 2 F__law_tops := cal_of h ⟨rfl, rfl, rfl, nd__law_tops, rfl, by decide +kernel, by decide +kernel⟩ (b__law_tops B C__law_rows C__law_high)
abbrev N__law_refused : List PySem.Str := ["_law_tree", "_law_bounds", "_law_limits", "_law_floors", "_law_pair"]
theorem nd__law_refused : N__law_refused.Nodup := by decide +kernel
def g__law_refused : Env → Option Out := (cSeq (cSet 2 (eFz (fLc (iTupD (eOp gIx (eVar 1) (eC (.int 1)))) (.one 4) (List.map (·.2) ([("_law_pair", 4)] : List (PySem.Str × Nat))) bYes (eOp gIx (eVar 4) (eC (.int 0)))))) (cSeq (cSet 3 (eFz (fLc (iTupD (eOp gIx (eVar 1) (eC (.int 1)))) (.one 4) (List.map (·.2) ([("_law_pair", 4)] : List (PySem.Str × Nat))) bYes (eOp gSub (eOp gAdd (eOp gIx (eVar 1) (eC (.int 0))) (eC (.int 1))) (eOp gIx (eVar 4) (eC (.int 1))))))) (cSeq (cIf (bNot (bOf (eCall F__law_same (aCons (eCall F_can_keep (aCons (eVar 0) (aCons (eVar 1) aNil))) (aCons (eC (.bl false)) aNil))))) (cRet (eC (.bl false))) cNext) (cSeq (cIf (bNot (bOf (eCall F__law_same (aCons (eCall F_margin_of (aCons (eVar 0) (aCons (eVar 1) aNil))) (aCons (eOp gSub (eCall F__law_tops (aCons (eVar 0) (aCons (eVar 1) aNil))) (eOp gIx (eVar 1) (eC (.int 0)))) aNil))))) (cRet (eC (.bl false))) cNext) (cRet (eCall F__law_same (aCons (eCall F_wall_in (aCons (eVar 0) (aCons (eVar 1) aNil))) (aCons (eCall F__law_struck (aCons (eVar 0) (aCons (eVar 2) (aCons (eVar 3) (aCons (eOp gIx (eVar 1) (eC (.int 0))) aNil))))) aNil))))))))
def F__law_refused : List D → Option D := runFn 5 2 g__law_refused
theorem b__law_refused {M : Md} (B : Blt M.mg) (C__law_struck : Cal M 3 "_law_struck" 4 F__law_struck) (C_wall_in : Cal M 10 "wall_in" 2 F_wall_in) (C__law_same : Cal M 5 "_law_same" 2 F__law_same) (C__law_tops : Cal M 3 "_law_tops" 2 F__law_tops) (C_margin_of : Cal M 11 "margin_of" 2 F_margin_of) (C_can_keep : Cal M 10 "can_keep" 2 F_can_keep) : Body M 11 N__law_refused "_law_refused" (topS 79) g__law_refused := fun T f cdv A outer s H E hT hr =>
  (ss_cons (ss_setLc (i := 2) (own := [("_law_pair", 4)]) (by decide) rfl nd__law_refused rfl rfl rfl (si_tup (se_ix ix_any (se_var (i := 1)) se_int)) (blkOk_by (show blkC N__law_refused (defScope (topS 79)) _ _ = true by decide +kernel)) (fun s H C cl fp => (pg_name (i := 4) nd__law_refused rfl (by first | exact Or.inl rfl | exact Or.inr rfl))) (fun s H C cl fp => sts_nil) (fun s H C cl fp => (se_ix ix_any (se_var (i := 4)) se_int))) (ss_cons (ss_setLc (i := 3) (own := [("_law_pair", 4)]) (by decide) rfl nd__law_refused rfl rfl rfl (si_tup (se_ix ix_any (se_var (i := 1)) se_int)) (blkOk_by (show blkC N__law_refused (defScope (topS 79)) _ _ = true by decide +kernel)) (fun s H C cl fp => (pg_name (i := 4) nd__law_refused rfl (by first | exact Or.inl rfl | exact Or.inr rfl))) (fun s H C cl fp => sts_nil) (fun s H C cl fp => (se_op od_sub (se_op od_add (se_ix ix_any (se_var (i := 1)) se_int) se_int) (se_ix ix_any (se_var (i := 4)) se_int)))) (ss_cons (ss_if (st_not (st_val (se_call C__law_same hT rfl (hr.mono (by decide)) rfl (sa_cons (se_call C_can_keep hT rfl (hr.mono (by decide)) rfl (sa_cons (se_var (i := 0)) (sa_cons (se_var (i := 1)) sa_nil))) (sa_cons se_bl sa_nil))))) (ss_one (ss_ret se_bl)) ss_nil) (ss_cons (ss_if (st_not (st_val (se_call C__law_same hT rfl (hr.mono (by decide)) rfl (sa_cons (se_call C_margin_of hT rfl (hr.mono (by decide)) rfl (sa_cons (se_var (i := 0)) (sa_cons (se_var (i := 1)) sa_nil))) (sa_cons (se_op od_sub (se_call C__law_tops hT rfl (hr.mono (by decide)) rfl (sa_cons (se_var (i := 0)) (sa_cons (se_var (i := 1)) sa_nil))) (se_ix ix_any (se_var (i := 1)) se_int)) sa_nil))))) (ss_one (ss_ret se_bl)) ss_nil) (ss_one (ss_ret (se_call C__law_same hT rfl (hr.mono (by decide)) rfl (sa_cons (se_call C_wall_in hT rfl (hr.mono (by decide)) rfl (sa_cons (se_var (i := 0)) (sa_cons (se_var (i := 1)) sa_nil))) (sa_cons (se_call C__law_struck hT rfl (hr.mono (by decide)) rfl (sa_cons (se_var (i := 0)) (sa_cons (se_var (i := 2)) (sa_cons (se_var (i := 3)) (sa_cons (se_ix ix_any (se_var (i := 1)) se_int) sa_nil))))) sa_nil)))))))))
theorem c__law_refused {M : Md} (B : Blt M.mg) (h : DefAt M "_law_refused" (topS 79) ["_law_tree", "_law_bounds"]) (C__law_struck : Cal M 3 "_law_struck" 4 F__law_struck) (C_wall_in : Cal M 10 "wall_in" 2 F_wall_in) (C__law_same : Cal M 5 "_law_same" 2 F__law_same) (C__law_tops : Cal M 3 "_law_tops" 2 F__law_tops) (C_margin_of : Cal M 11 "margin_of" 2 F_margin_of) (C_can_keep : Cal M 10 "can_keep" 2 F_can_keep) : Cal M 12 "_law_refused" 2 F__law_refused := cal_of h ⟨rfl, rfl, rfl, nd__law_refused, rfl, by decide +kernel, by decide +kernel⟩ (b__law_refused B C__law_struck C_wall_in C__law_same C__law_tops C_margin_of C_can_keep)
end DL

set_option Elab.async false
set_option linter.all false
set_option maxRecDepth 100000
set_option maxHeartbeats 4000000
namespace DL
open PySem PySem.Spec PyProof.Rows L2 LamX NdefX
/-! ### the nested defs -/
abbrev stR : Stmt := (defBody (topS 62)).getD 3 (.Pass ⟨0, 0, 0, 0⟩)
abbrev stW : Stmt := (defBody (topS 63)).getD 3 (.Pass ⟨0, 0, 0, 0⟩)
abbrev qR : PySem.Str := (envOfC "lifted_reach" (defScope (topS 62)) 0 0 .none).qual ++ "is_enough"
abbrev qW : PySem.Str := (envOfC "lifted_width" (defScope (topS 63)) 0 0 .none).qual ++ "is_enough"
abbrev frR : List PySem.Str := ["history", "bounds", "version", "width"]
abbrev frW : List PySem.Str := ["history", "bounds", "version", "reach"]
abbrev N_enR : List PySem.Str := ["reach", "history", "bounds", "version", "width"]
abbrev N_enW : List PySem.Str := ["width", "history", "bounds", "version", "reach"]
def g_enR : Env → Option Out := cRet (eCall F_can_keep (aCons (eVar 1) (aCons (eCall F_one_bound (aCons (eVar 1) (aCons (eVar 2) (aCons (eVar 3) (aCons (eVar 4) (aCons (eVar 0) aNil)))))) aNil)))
def g_enW : Env → Option Out := cRet (eCall F_can_keep (aCons (eVar 1) (aCons (eCall F_one_bound (aCons (eVar 1) (aCons (eVar 2) (aCons (eVar 3) (aCons (eVar 0) (aCons (eVar 4) aNil)))))) aNil)))
def F_enR : List D → Option D := runFn 5 5 g_enR
def F_enW : List D → Option D := runFn 5 5 g_enW
def spC (TT : List NTab) (F : List D → Option D) : List (Option V) → Sp := fun ws vs H Q _ => ∃ (T : Tx) (S : Hp) (ds cs : List D) (wv : List V) (d : D), T.tabs = TT ∧ ws = wv.map some ∧ Same S H ∧ Tb T H ∧ Reps S ds vs ∧ Reps S cs wv ∧ ds.length = 1 ∧ cs.length = 4 ∧
  F (ds ++ cs) = some d ∧ ∀ v S' H', Ext T S H S' H' → Rep S' d v → Q v H'
theorem start_f {N : List PySem.Str} {vs wv : List V} : startF N vs (wv.map some) = L2.start N (vs ++ wv) := by
  unfold startF L2.start
  rw [List.map_append, List.append_assoc, List.length_append, List.length_map, Nat.sub_sub]
theorem nok_in {M : Md} {k : Nat} {f : Addr} {F : NF} {N fr : List PySem.Str} {p : PySem.Str} {g : Env → Option Out} (hN : N.length = 5) (S : NScope N [p] fr F.scope) (hb : ∀ (doc pm ctv : Value) (us : List Value), us.length = 1 → bindArgs (F.fd doc pm ctv) ⟨us, []⟩ = pure ([p].zip us))
    (hg : ∀ (T : Tx) (A : Around) (outer : List PySem.Env) (s : Shared) (H : Hp) (E : XK), T.tabs = M.TT → Room k (A.deeper (envF F f s.heap.objs.size)) → SSs T (ncx CX0 M.P M.w M.K M.mg M.base N F f A outer s H E).nox F.body g) :
    NOk M.P M.w M.K M.mg M.base CX0 (k + 1) f F [p] fr (spC M.TT (runFn 5 5 g)) := by
  have len : ∀ ws vs H Q E, spC M.TT (runFn 5 5 g) ws vs H Q E → vs.length = [p].length := fun ws vs H Q E ⟨_, _, ds, _, _, _, _, _, _, _, r, _, hl, _⟩ => by rw [r.len, hl] <;> rfl
  refine nok_of (N := N) S hb len fun A outer s H vs ws Q E hr hf hc hlen ⟨T, Sx, ds, cs, wv, d, hT, ew, c, t, r, rc, hl, hl2, hF, q⟩ => ?_
  subst ew
  refine ⟨_, (hg T A outer s H E hT hr).nox, ?_⟩
  rw [start_f]
  unfold runFn at hF
  obtain ⟨_, hF⟩ := gd_some hF
  have k0 := start_ok (N := N) c t (r.append rc) (by rw [List.length_append, hl, hl2, hN]; decide)
  have e5 : (ds ++ cs).length = 5 := by rw [List.length_append, hl, hl2]
  rw [hN, e5] at k0
  split at hF
  · rename_i d' hg
    cases hF
    exact ⟨_, _, H, Sx, Sx, hg, k0, fun v S' H' e rv => q v S' H' e rv⟩
  · rename_i ρ' hg
    cases hF
    exact ⟨_, _, H, Sx, Sx, hg, k0, fun S' H' σ' k' => q .non S' H' k'.e rfl⟩
  · cases hF
theorem nok_R {M : Md} (C_can_keep : Cal M 10 "can_keep" 2 F_can_keep) (C_one_bound : Cal M 6 "one_bound" 5 F_one_bound) {f c : Addr} {qual : PySem.Str} {cl : List (PySem.Str × Addr)} : NOk M.P M.w M.K M.mg M.base CX0 11 f (NF.of stR "is_enough" qual cl c) ["reach"] frR (spC M.TT F_enR) := by
  refine nok_in (N := N_enR) (k := 10) rfl (nscope_by (show nscB N_enR ["reach"] frR (C8.fnScope stR) = true by decide +kernel)) (fun doc pm ctv us hl => match us, hl with | [_], _ => rfl) fun T A outer s H E hT hr => ?_
  exact (ss_one (ss_ret (se_call C_can_keep hT rfl (hr.mono (by decide)) rfl (sa_cons (se_var (i := 1)) (sa_cons (se_call C_one_bound hT rfl (hr.mono (by decide)) rfl (sa_cons (se_var (i := 1)) (sa_cons (se_var (i := 2)) (sa_cons (se_var (i := 3)) (sa_cons (se_var (i := 4)) (sa_cons (se_var (i := 0)) sa_nil)))))) sa_nil)))))
theorem nok_W {M : Md} (C_can_keep : Cal M 10 "can_keep" 2 F_can_keep) (C_one_bound : Cal M 6 "one_bound" 5 F_one_bound) {f c : Addr} {qual : PySem.Str} {cl : List (PySem.Str × Addr)} : NOk M.P M.w M.K M.mg M.base CX0 11 f (NF.of stW "is_enough" qual cl c) ["width"] frW (spC M.TT F_enW) := by
  refine nok_in (N := N_enW) (k := 10) rfl (nscope_by (show nscB N_enW ["width"] frW (C8.fnScope stW) = true by decide +kernel)) (fun doc pm ctv us hl => match us, hl with | [_], _ => rfl) fun T A outer s H E hT hr => ?_
  exact (ss_one (ss_ret (se_call C_can_keep hT rfl (hr.mono (by decide)) rfl (sa_cons (se_var (i := 1)) (sa_cons (se_call C_one_bound hT rfl (hr.mono (by decide)) rfl (sa_cons (se_var (i := 1)) (sa_cons (se_var (i := 2)) (sa_cons (se_var (i := 3)) (sa_cons (se_var (i := 0)) (sa_cons (se_var (i := 4)) sa_nil)))))) sa_nil)))))
/-! ### a nested def that was handed on is called -/
def eClo (f : Addr) (i : Nat) (G : List D → Option D) (cs : List D) (fe : Env → Option D) : Env → Option D := fun ρ => match ρ[i]? with
  | some (.pu (.adr p)) => gd (Nat.beq p f) (match fe ρ with
    | some a => match G (a :: cs) with
      | some (.bl b) => some (.bl b)
      | _ => none
    | none => none)
  | _ => none
/-- S and what stands for good -/
def both (S F : Hp) : Hp := fun b => match S b with
  | some o => some o
  | none => F b
theorem both_same {S F H : Hp} (c : Same S H) (g : Same F H) : Same (both S F) H ∧ Same S (both S F) ∧ Same F (both S F) := by
  refine ⟨⟨fun b o e => ?_, fun b ps e => ?_⟩, ⟨fun b o e => ?_, c.z⟩, ⟨fun b o e => ?_, g.z⟩⟩
  · unfold both at e
    split at e
    · rename_i o' h
      cases e
      exact c b _ h
    · exact g b o e
  · unfold both at e
    split at e
    · rename_i o' h
      cases e
      exact c.z b ps h
    · exact g.z b ps e
  · unfold both
    rw [e]
  · unfold both
    split
    · rename_i o' h
      rw [← c b _ h, g b _ e]
    · exact e
theorem se_clo {X : Cx} {T : Tx} {TT : List NTab} {k i : Nat} {f : Addr} {F : NF} {pn x : PySem.Str} {fr : List PySem.Str} {wv : List V} {cs : List D} {G : List D → Option D} {e : Expr} {fe : Env → Option D} {p pos : Pos}
    (Fn : NOk X.prog X.w X.K X.mg X.base CX0 k f F [pn] fr (spC TT G)) (hT : T.tabs = TT) (C : CellsAt F.cl fr (wv.map some) X.s_0.heap X.H_0) (nf : ∀ y c, F.cl.lookup y = some c → c ∉ X.fs) (hx : X.ex = []) (hf : T.fx f = some (FnO f F)) (hc : T.fx F.c = some (CodeO F.c F.qual)) (hr0 : Reps T.fx cs wv) (hl : cs.length = 4)
    (hr : Room k X.A) (hN : X.N[i]? = some x) (hv : Vis X.env.scope x) (ha : SE T X e fe) (hd : (x == ("__debug__" : PySem.Str)) = false := by decide) (hcd : (x == ("__classdict__" : PySem.Str)) = false := by decide)
    (he : starEach (e :: []) X.env = (false, eval e X.env) :: starEach [] X.env := by rfl) (hpl : (backTo pos (starEach [] X.env)).any (·.1) = false := by rfl) :
    SE T X (.Call (.Name x p) [e] [] pos) (eClo f i G cs fe) := by
  refine ⟨fun pins s σ H Q I ⟨ρ, z, B, S0, S, e1, k0, q⟩ => ?_⟩
  unfold eClo at e1
  split at e1
  · rename_i p' hp
    obtain ⟨hpf, e9⟩ := gd_some e1
    clear e1
    have hpf := Nat.eq_of_beq_eq_true hpf
    subst hpf
    split at e9
    · rename_i a hfa
      split at e9
      · rename_i b hb
        cases e9
        obtain ⟨v0, hs, hv0⟩ := k0.pu hp
        have hv0 : v0 = .ref p' := hv0
        subst hv0
        refine wpAny_Call_Name_kw (thn ((pe_var (pos := p) hN hv hd hcd).run pins s σ H (fun v H1 => v = .ref p' ∧ H1 = H) I ⟨.ref p', hs, rfl, rfl⟩) fun u s1 ⟨v, H1, I1, r1, q1⟩ => ?_)
        obtain ⟨ev, eH⟩ := q1
        subst ev
        rw [eH] at I1
        obtain rfl : u = Value.ref p' := r1
        refine PySem.W.callWith_F (first := []) (fnAt_of I1 (k0.t.h.2 _ _ hf)) (thn ((pa_cons ha pa_nil he).run pos pins s1 σ H (fun vs H2 => ∃ S1 v1, Ext T S H S1 H2 ∧ vs = [v1] ∧ Rep S1 a v1) I1 ⟨ρ, a, B, S0, S, hfa, k0, fun v1 S1 H2 e2 r2 => ⟨S1, v1, e2, rfl, r2⟩⟩) fun us s2 ⟨vs, H2, I2, r, S1, v1, e2, ev, r2⟩ => ⟨fnAt_of I2 (e2.t.h.2 _ _ hf), ?_⟩) he hpl
        subst ev
        show wpAny _ _ (call (.ref p') us) _ _ _
        have C2 := C.later nf (fun y c _ hm => by rw [hx] at hm; cases hm) I2
        obtain ⟨b1, b2, b3⟩ := both_same e2.c e2.t.h.2
        refine wpAny_call (codeAny_mono (Fn.run X.A X.stack s2 H2 us [v1] (wv.map some) Q E0 hr I2.env0 (e2.t.h.2 _ _ hf) (e2.t.h.2 _ _ hc) C2 r ⟨T, both S1 T.fx, [a], cs, wv, .bl b, hT, rfl, b1, e2.t, .one (Rep.mono b2 r2), Reps.mono b3 hr0, rfl, hl, hb, fun v S' H' e3 r3 => ?_⟩) fun r s' hq => ?_)
        · exact q v S1 H' (e2.trans ⟨e2.c.rf, e3.h, ⟨fun b o h => e3.c b o (e3.s b o (b2 b o h)), e2.c.z⟩, fun _ _ h => .inl h, e3.t, e3.b⟩) r3
        · cases r with
          | error e => exact hq.elim
          | ok fl =>
            cases fl with
            | ret u => exact I2.after hq
            | next => exact False.elim hq
            | brk => exact False.elim hq
            | cont => exact False.elim hq
      · cases e9
    · cases e9
  · cases e1
end DL

set_option Elab.async false
set_option linter.all false
set_option maxRecDepth 100000
set_option maxHeartbeats 4000000
namespace DL
open PySem PySem.Spec PyProof.Rows L2 LamX NdefX
/-! ### _least_good, told natively -/
def lgLoop (G : List D → Option D) (cs : List D) : Nat → Int → Int → Option Int
  | 0, _, _ => none
  | n + 1, lo, hi => match decide (1 < hi - lo) with
    | true => match G (.int ((lo + hi) / 2) :: cs) with
      | some (.bl true) => lgLoop G cs n lo ((lo + hi) / 2)
      | some (.bl false) => lgLoop G cs n ((lo + hi) / 2) hi
      | _ => none
    | false => some hi
def lgV (G : List D → Option D) (cs : List D) (own gr : Int) : Option D := match G (.int own :: cs) with
  | some (.bl true) => some (.int own)
  | some (.bl false) => match G (.int gr :: cs) with
    | some (.bl false) => some .non
    | some (.bl true) => match lgLoop G cs 80 own gr with
      | some r => some (.int r)
      | none => none
    | _ => none
  | _ => none
abbrev N_lg : List PySem.Str := ["own", "greatest", "is_good", "low", "high", "middle"]
theorem nd_lg : N_lg.Nodup := by decide +kernel
section
variable (f : Addr) (G : List D → Option D) (cs : List D)
def cLgC : Env → Option Bool := bOf (eOp (gI fun i j => decide (j < i)) (eOp gSub (eVar 4) (eVar 3)) (eC (.int 1)))
def cLgB : Env → Option Out := cSeq (cSet 5 (eOp gDiv (eOp gAdd (eVar 3) (eVar 4)) (eC (.int 2)))) (cIf (bOf (eClo f 2 G cs (eVar 5))) (cSet 4 (eVar 5)) (cSet 3 (eVar 5)))
def g_lg : Env → Option Out := cSeq (cIf (bOf (eClo f 2 G cs (eVar 0))) (cRet (eVar 0)) cNext)
  (cSeq (cIf (bNot (bOf (eClo f 2 G cs (eVar 1)))) (cRet (eC .non)) cNext)
  (cSeq (cSet 3 (eVar 0)) (cSeq (cSet 4 (eVar 1)) (cSeq (whileL cLgC (cLgB f G cs) 80) (cRet (eVar 4))))))
theorem clo_at {ρ : Env} {fe : Env → Option D} {a : D} {b : Bool} (h : ρ[(2 : Nat)]? = some (.pu (.adr f))) (h1 : fe ρ = some a) (h2 : G (a :: cs) = some (.bl b)) : eClo f 2 G cs fe ρ = some (.bl b) := by
  unfold eClo
  simp only [h, h1, h2, Nat.beq_refl]
  rfl
theorem lg_loop {own gr : D} : ∀ (n : Nat) (lo hi : Int) (m : Sl) (r : Int), lgLoop G cs n lo hi = some r → ∃ m' lo', whileL cLgC (cLgB f G cs) n [.pu own, .pu gr, .pu (.adr f), .pu (.int lo), .pu (.int hi), m] = some (.nx [.pu own, .pu gr, .pu (.adr f), .pu (.int lo'), .pu (.int r), m'])
  | 0, _, _, _, _, h => by cases h
  | n + 1, lo, hi, m, r, h => by
    have hc : cLgC [.pu own, .pu gr, .pu (.adr f), .pu (.int lo), .pu (.int hi), m] = some (decide (1 < hi - lo)) := rfl
    unfold whileL
    rw [hc]
    unfold lgLoop at h
    cases hd : decide (1 < hi - lo) with
    | false =>
      rw [hd] at h
      cases h
      exact ⟨m, lo, rfl⟩
    | true =>
      rw [hd] at h
      have hs : cSet 5 (eOp gDiv (eOp gAdd (eVar 3) (eVar 4)) (eC (.int 2))) [.pu own, .pu gr, .pu (.adr f), .pu (.int lo), .pu (.int hi), m] = some (.nx [.pu own, .pu gr, .pu (.adr f), .pu (.int lo), .pu (.int hi), .pu (.int ((lo + hi) / 2))]) := rfl
      cases hG : G (.int ((lo + hi) / 2) :: cs) with
      | none =>
        rw [hG] at h
        cases h
      | some dd =>
        rw [hG] at h
        cases dd with
        | bl b =>
          have hcl := clo_at f G cs (ρ := [.pu own, .pu gr, .pu (.adr f), .pu (.int lo), .pu (.int hi), .pu (.int ((lo + hi) / 2))]) (fe := eVar 5) rfl rfl hG
          have hb : cLgB f G cs [.pu own, .pu gr, .pu (.adr f), .pu (.int lo), .pu (.int hi), m] = cIf (bOf (eClo f 2 G cs (eVar 5))) (cSet 4 (eVar 5)) (cSet 3 (eVar 5)) [.pu own, .pu gr, .pu (.adr f), .pu (.int lo), .pu (.int hi), .pu (.int ((lo + hi) / 2))] := by
            unfold cLgB cSeq
            rw [hs]
          have hbo : bOf (eClo f 2 G cs (eVar 5)) [.pu own, .pu gr, .pu (.adr f), .pu (.int lo), .pu (.int hi), .pu (.int ((lo + hi) / 2))] = some b := by
            unfold bOf
            rw [hcl]
          cases b with
          | true =>
            have e2 : cLgB f G cs [.pu own, .pu gr, .pu (.adr f), .pu (.int lo), .pu (.int hi), m] = some (.nx [.pu own, .pu gr, .pu (.adr f), .pu (.int lo), .pu (.int ((lo + hi) / 2)), .pu (.int ((lo + hi) / 2))]) := by
              rw [hb]
              unfold cIf
              rw [hbo] <;> rfl
            rw [e2]
            exact lg_loop n _ _ _ r h
          | false =>
            have e2 : cLgB f G cs [.pu own, .pu gr, .pu (.adr f), .pu (.int lo), .pu (.int hi), m] = some (.nx [.pu own, .pu gr, .pu (.adr f), .pu (.int ((lo + hi) / 2)), .pu (.int hi), .pu (.int ((lo + hi) / 2))]) := by
              rw [hb]
              unfold cIf
              rw [hbo] <;> rfl
            rw [e2]
            exact lg_loop n _ _ _ r h
        | _ => cases h
theorem lg_eval {own gr : Int} {d : D} (h : lgV G cs own gr = some d) : g_lg f G cs [.pu (.int own), .pu (.int gr), .pu (.adr f), .no, .no, .no] = some (.rt d) := by
  unfold lgV at h
  have stop : ∀ {b : Bool} {i : Nat} {a : Int}, eVar i [.pu (.int own), .pu (.int gr), .pu (.adr f), .no, .no, .no] = some (.int a) → G (.int a :: cs) = some (.bl b) → bOf (eClo f 2 G cs (eVar i)) [.pu (.int own), .pu (.int gr), .pu (.adr f), .no, .no, .no] = some b := fun h1 h2 => by
    unfold bOf
    rw [clo_at f G cs rfl h1 h2]
  split at h
  · rename_i hG
    cases h
    unfold g_lg cSeq cIf
    rw [stop rfl hG]
    rfl
  · rename_i hG
    split at h
    · rename_i hG2
      cases h
      have e1 : cIf (bOf (eClo f 2 G cs (eVar 0))) (cRet (eVar 0)) cNext [.pu (.int own), .pu (.int gr), .pu (.adr f), .no, .no, .no] = some (.nx [.pu (.int own), .pu (.int gr), .pu (.adr f), .no, .no, .no]) := by
        unfold cIf
        rw [stop rfl hG] <;> rfl
      have e2 : cIf (bNot (bOf (eClo f 2 G cs (eVar 1)))) (cRet (eC .non)) cNext [.pu (.int own), .pu (.int gr), .pu (.adr f), .no, .no, .no] = some (.rt .non) := by
        unfold cIf bNot
        rw [stop rfl hG2] <;> rfl
      unfold g_lg
      rw [cSeq, e1]
      show cSeq _ _ _ = _
      rw [cSeq, e2]
    · rename_i hG2
      split at h
      · rename_i r hr
        cases h
        have e1 : cIf (bOf (eClo f 2 G cs (eVar 0))) (cRet (eVar 0)) cNext [.pu (.int own), .pu (.int gr), .pu (.adr f), .no, .no, .no] = some (.nx [.pu (.int own), .pu (.int gr), .pu (.adr f), .no, .no, .no]) := by
          unfold cIf
          rw [stop rfl hG] <;> rfl
        have e2 : cIf (bNot (bOf (eClo f 2 G cs (eVar 1)))) (cRet (eC .non)) cNext [.pu (.int own), .pu (.int gr), .pu (.adr f), .no, .no, .no] = some (.nx [.pu (.int own), .pu (.int gr), .pu (.adr f), .no, .no, .no]) := by
          unfold cIf bNot
          rw [stop rfl hG2] <;> rfl
        obtain ⟨m', lo', e3⟩ := lg_loop f G cs (own := .int own) (gr := .int gr) 80 own gr .no r hr
        unfold g_lg
        rw [cSeq, e1]
        show cSeq _ _ _ = _
        rw [cSeq, e2]
        show cSeq _ _ _ = _
        rw [cSeq]
        show cSeq _ _ _ = _
        rw [cSeq]
        show cSeq _ _ [.pu (.int own), .pu (.int gr), .pu (.adr f), .pu (.int own), .pu (.int gr), .no] = _
        rw [cSeq, e3]
        rfl
      · cases h
    · cases h
  · cases h
end
/-! ### the derivation of its body -/
theorem b_lg {X : Cx} {T : Tx} {TT : List NTab} {k : Nat} {f : Addr} {F : NF} {pn : PySem.Str} {fr : List PySem.Str} {wv : List V} {cs : List D} {G : List D → Option D} {M : Md} {g : Addr} {cdv : Value} {A : Around} {outer : List PySem.Env} {s : Shared} {H : Hp} {E : XK}
    (eX : X = XD M N_lg "_least_good" (defScope (topS 61)) g cdv A outer s H E) (Fn : NOk M.P M.w M.K M.mg M.base CX0 k f F [pn] fr (spC TT G)) (hT : T.tabs = TT) (C : CellsAt F.cl fr (wv.map some) s.heap H) (nf : ∀ y c, F.cl.lookup y = some c → c ∉ frs outer) (hf : T.fx f = some (FnO f F)) (hc : T.fx F.c = some (CodeO F.c F.qual)) (hr0 : Reps T.fx cs wv) (hl : cs.length = 4)
    (hr : Room k (A.deeper (envOfC "_least_good" (defScope (topS 61)) s.heap.objs.size g cdv))) : SSs T X (defBody (topS 61)) (g_lg f G cs) := by
  subst eX
  have clo : ∀ {e : Expr} {fe : Env → Option D} {p pos : Pos}, SE T (XD M N_lg "_least_good" (defScope (topS 61)) g cdv A outer s H E) e fe → starEach (e :: []) (XD M N_lg "_least_good" (defScope (topS 61)) g cdv A outer s H E).env = (false, eval e (XD M N_lg "_least_good" (defScope (topS 61)) g cdv A outer s H E).env) :: starEach [] (XD M N_lg "_least_good" (defScope (topS 61)) g cdv A outer s H E).env →
      SE T (XD M N_lg "_least_good" (defScope (topS 61)) g cdv A outer s H E) (.Call (.Name "is_good" p) [e] [] pos) (eClo f 2 G cs fe) := fun ha he => se_clo (X := XD M N_lg "_least_good" (defScope (topS 61)) g cdv A outer s H E) Fn hT C nf rfl hf hc hr0 hl hr rfl (Or.inl rfl) ha (he := he)
  exact (ss_cons (ss_if (st_val (clo (se_var (i := 0)) (by rfl))) (ss_one (ss_ret (se_var (i := 0)))) ss_nil)
    (ss_cons (ss_if (st_not (st_val (clo (se_var (i := 1)) (by rfl)))) (ss_one (ss_ret se_non)) ss_nil)
    (ss_cons (ss_set (i := 3) nd_lg rfl (Or.inl rfl) (se_var (i := 0)))
    (ss_cons (ss_set (i := 4) nd_lg rfl (Or.inl rfl) (se_var (i := 1)))
    (ss_cons (ss_while (n := 80) PassesOwn.never (st_cmp od_gt (se_op od_sub (se_var (i := 4)) (se_var (i := 3))) se_int)
      (ss_cons (ss_set (i := 5) nd_lg rfl (Or.inl rfl) (se_op od_div (se_op od_add (se_var (i := 3)) (se_var (i := 4))) se_int))
      (ss_one (ss_if (st_val (clo (se_var (i := 5)) (by rfl))) (ss_one (ss_set (i := 4) nd_lg rfl (Or.inl rfl) (se_var (i := 5)))) (ss_one (ss_set (i := 3) nd_lg rfl (Or.inl rfl) (se_var (i := 5))))))))
    (ss_one (ss_ret (se_var (i := 4)))))))))
end DL

set_option Elab.async false
set_option linter.all false
set_option maxRecDepth 100000
set_option maxHeartbeats 4000000
namespace DL
open PySem PySem.Spec PyProof.Rows L2 LamX NdefX
theorem Tb.notis {T : Tx} {H : Hp} {b : Addr} {o : HO} (t : Tb T H) (h : H b = some o) (ho : ∀ xs, o ≠ .lst xs) : ¬T.is b := fun ⟨q, cs, e⟩ => by
  obtain ⟨_, _, _, _, e1, _⟩ := t.h.1 b q cs e
  rw [h] at e1
  exact ho _ (Option.some.inj e1)
def fx1 (S : Hp) (F : Hp) (f c : Addr) (o oc : HO) : Hp := fun b => if b = f then some o else if b = c then some oc else both S F b
theorem fx1_same {S F H : Hp} {f c : Addr} {o oc : HO} (c0 : Same S H) (g : Same F H) (hf : H f = some o) (hc : H c = some oc) (ho : ∀ ps, o ≠ .tbl ps) (hoc : ∀ ps, oc ≠ .tbl ps) : Same (fx1 S F f c o oc) H ∧ Same S (fx1 S F f c o oc) ∧ Same F (fx1 S F f c o oc) ∧ fx1 S F f c o oc f = some o ∧ fx1 S F f c o oc c = some oc := by
  obtain ⟨b1, b2, b3⟩ := both_same c0 g
  have up : ∀ b u, both S F b = some u → fx1 S F f c o oc b = some u := fun b u e => by
    have e2 := b1 b u e
    unfold fx1
    split
    · rename_i z
      rw [z, hf] at e2
      exact e2
    · split
      · rename_i z
        rw [z, hc] at e2
        exact e2
      · exact e
  refine ⟨⟨fun b u e => ?_, fun b ps e => ?_⟩, ⟨fun b u e => up b u (b2 b u e), c0.z⟩, ⟨fun b u e => up b u (b3 b u e), g.z⟩, ?_, ?_⟩
  · unfold fx1 at e
    split at e
    · rename_i z
      rw [z, ← Option.some.inj e]
      exact hf
    · split at e
      · rename_i z
        rw [z, ← Option.some.inj e]
        exact hc
      · exact b1 b u e
  · unfold fx1 at e
    split at e
    · exact ho ps (Option.some.inj e)
    · split at e
      · exact hoc ps (Option.some.inj e)
      · exact b1.z b ps e
  · unfold fx1
    rw [if_pos rfl]
  · unfold fx1
    split
    · rename_i z
      rw [z, hf] at hc
      exact hc
    · rw [if_pos rfl]
/-- what is asked at the call of _least_good -/
def tLg (T : Tx) (mk : Addr → NF) (js : List Nat) (G : List D → Option D) (fr : Env → Option (List D)) : TE := fun σ H Q => ∃ (ρ : Env) (B S0 S : Hp) (own gr : Int) (f c' : Addr) (wv : List V) (cs : List D) (d : D), Ok T B S0 S H σ ρ ∧ fr ρ = some [.int own, .int gr, .adr f] ∧
  H f = some (FnO f (mk c')) ∧ H (mk c').c = some (CodeO (mk c').c (mk c').qual) ∧ js.map (slotAt σ) = wv.map some ∧ Reps S cs wv ∧ cs.length = 4 ∧ lgV G cs own gr = some d ∧ ∀ v S' H', Ext T S H S' H' → Rep S' d v → Q v H'
theorem fn_lg : FnScope N_lg ["own", "greatest", "is_good"] (defScope (topS 61)) := ⟨rfl, rfl, rfl, nd_lg, rfl, by decide +kernel, by decide +kernel⟩
theorem codeO_nl {c : Addr} {q : PySem.Str} : ∀ xs, CodeO c q ≠ .lst xs := fun xs z => by
  unfold CodeO at z
  cases z
theorem codeO_nt {c : Addr} {q : PySem.Str} : ∀ xs, CodeO c q ≠ .tbl xs := fun xs z => by
  unfold CodeO at z
  cases z
theorem fnO_nl {f : Addr} {F : NF} : ∀ xs, FnO f F ≠ .lst xs := fun xs z => by
  unfold FnO at z
  cases z
theorem pe_lg {X : Cx} {M : Md} {T : Tx} {k : Nat} {mk : Addr → NF} {cl : List (PySem.Str × Addr)} {pn : PySem.Str} {fr0 : List PySem.Str} {js : List Nat} {G : List D → Option D} {e : Expr} {es : List Expr} {fr : Env → Option (List D)} {p pos : Pos}
    (hM : (⟨X.prog, X.w, X.K, X.mg, X.base, M.TT⟩ : Md) = M) (DA : DefAt M "_least_good" (topS 61) ["own", "greatest", "is_good"]) (Fn : ∀ f c', NOk M.P M.w M.K M.mg M.base CX0 k f (mk c') [pn] fr0 (spC M.TT G)) (hT : T.tabs = M.TT) (hcl : ∀ c', (mk c').cl = cl) (cp : X.Ok → Caps X cl fr0 js)
    (hfn : ∀ y ∈ fr0, X.fn y = true) (hsub : ∀ y c, cl.lookup y = some c → y ∈ fr0) (hr : Room (k + 1) X.A) (hg : Gl X "_least_good") (ha : SA T X (e :: es) fr)
    (he : starEach (e :: es) X.env = (false, eval e X.env) :: starEach es X.env := by rfl) (hpl : (backTo pos (starEach es X.env)).any (·.1) = false := by rfl) :
    PE X (.Call (.Name "_least_good" p) (e :: es) [] pos) (tLg T mk js G fr) := by
  obtain ⟨P', w', K', mg', base', TT'⟩ := M
  simp only [Md.mk.injEq] at hM
  obtain ⟨h1, h2, h3, h4, h5, _⟩ := hM
  subst h1 h2 h3 h4 h5
  obtain ⟨g, fd, FF, hm, hb⟩ := DA.ex
  have hk := FF.kp
  obtain ⟨oc, od, kV, doc, pm, an, cdv, ct, osl, rfl, lk, hcd⟩ := FF.ex
  refine ⟨fun pins s σ H Q I ⟨ρ, B, S0, S, own, gr, f, c', wv, cs, d, k0, hfr, hf, hc, hws, rcs, hl, hd, q⟩ => ?_⟩
  refine wpAny_Call_Name_kw (ld_glob I hg hm ?_ (by decide))
  refine PySem.W.callWith_K (h₀ := X.base) I.ok.mod.kin hk (thn (ha.run pos pins s σ H (fun vs H1 => ∃ S1, Ext T S H S1 H1 ∧ Reps S1 [.int own, .int gr, .adr f] vs) I ⟨ρ, _, B, S0, S, hfr, k0, fun vs S1 H1 e1 r1 => ⟨S1, e1, r1⟩⟩) fun us s1 ⟨vs, H1, I1, r, S1, e1, r1⟩ => ⟨I1.kIn, ?_⟩) he hpl
  show wpAny _ _ (call (.ref g) us) _ _ _
  have f1 : H1 f = some (FnO f (mk c')) := e1.h.k _ _ hf fnO_ne (k0.t.notis hf fnO_nl)
  have c1 : H1 (mk c').c = some (CodeO (mk c').c (mk c').qual) := e1.h.k _ _ hc codeO_nt (k0.t.notis hc codeO_nl)
  have hl3 : vs.length = 3 := by rw [r1.len] <;> rfl
  have hu3 : us.length = 3 := by rw [← r.length, hl3]
  have bt := hb s1 us I1.kIn (by rw [List.append_nil, hu3] <;> rfl)
  rw [List.append_nil] at bt
  have C := cells_of I1 (cp I1.ok)
  rw [hws] at C
  have nf : ∀ y c, (mk c').cl.lookup y = some c → c ∉ frs X.stack := fun y c hy hmem => by
    rw [hcl] at hy
    have hy2 := (cp I1.ok).sub y c hy
    rcases List.mem_cons.mp (I1.stkSub c hmem) with z | z
    · exact I1.cne y c hy2 z
    · obtain ⟨_, o, ho, _⟩ := I1.ok.funs.mem z
      have := I1.ok.cab y c (hfn y (hsub y c hy)) hy2
      exact absurd (Nat.lt_of_lt_of_le (Heap.lt_size ho) this) (Nat.lt_irrefl _)
  obtain ⟨x1, x2, x3, x4, x5⟩ := fx1_same e1.c e1.t.h.2 f1 c1 fnO_ne codeO_nt
  have t' : Tb { T with fx := fx1 S1 T.fx f (mk c').c (FnO f (mk c')) (CodeO (mk c').c (mk c').qual) } H1 := ⟨e1.t.t, e1.t.h.1, x1⟩
  have hbody : Room k (X.A.deeper (envOfC "_least_good" (defScope (topS 61)) s1.heap.objs.size g cdv)) → ∃ t, PSs (cxOf CX0 X.prog X.w X.K X.mg X.base N_lg "_least_good" (defScope (topS 61)) g cdv X.A X.stack s1 H1 E0) (defBody (topS 61)) t ∧ t { nx := fun _ H' => Q .non H', rt := Q } (L2.start N_lg vs) H1 := fun hr' => by
    refine ⟨_, (b_lg (T := { T with fx := fx1 S1 T.fx f (mk c').c (FnO f (mk c')) (CodeO (mk c').c (mk c').qual) }) (M := ⟨X.prog, X.w, X.K, X.mg, X.base, TT'⟩) (E := E0) rfl (Fn f c') hT (by rw [hcl]; exact C) nf x4 x5 (Reps.mono x2 (Reps.mono e1.s rcs)) hl hr').nox, ?_⟩
    have ks := start_ok (N := N_lg) e1.c t' r1 (by show 3 ≤ 6; decide)
    refine ⟨_, _, H1, S1, S1, lg_eval f G cs hd, ks, fun v S' H' e2 rv => q v S' H' (e1.trans ⟨e2.s, ⟨e2.h.k, e2.h.n⟩, e2.c, e2.f, ⟨e2.t.t, e2.t.h.1, ?_⟩, ⟨e2.b.1, e1.t.h.2⟩⟩) rv⟩
    exact x3.trans e2.t.h.2
  refine wpAny_call (codeAny_mono (run_ofS (E := E0) lk hcd fn_lg hr I1.env0 bt r (by rw [hl3] <;> rfl) hbody) fun r s' hq => ?_)
  cases r with
  | error e => exact hq.elim
  | ok fl =>
    cases fl with
    | ret u => exact I1.after hq
    | next => exact False.elim hq
    | brk => exact False.elim hq
    | cont => exact False.elim hq
end DL

set_option Elab.async false
set_option linter.all false
set_option maxRecDepth 100000
set_option maxHeartbeats 4000000
namespace DL
open PySem PySem.Spec PyProof.Rows L2 LamX NdefX
/-- a def whose code object is known -/
structure DefAtC (M : Md) (x : PySem.Str) (st : Stmt) (ps : List PySem.Str) (c : Addr) : Prop where
  ex : ∃ (f : Addr) (oc : Value) (od : Option Addr) (kV doc pm : Value) (an : Option Addr) (ct : Value) (osl : Array (Option Value)),
    M.K.lookup f = some ⟨oc, od, .func (PySem.W.fnOf x x (defArgs st) (defBody st) (defScope st) .none kV doc pm an (.ref c) ct), osl⟩ ∧ PySem.W.codeIn M.K (.ref c) x = true ∧ PySem.W.keepIn M.K (.ref f) = true ∧ M.mg x = some (.ref f) ∧
    Binds M.K (PySem.W.fnOf x x (defArgs st) (defBody st) (defScope st) .none kV doc pm an (.ref c) ct) ps []
def BodyC (M : Md) (k : Nat) (N : List PySem.Str) (x : PySem.Str) (st : Stmt) (c : Addr) (g : Env → Option Out) : Prop :=
  ∀ (T : Tx) (f : Addr) (A : Around) (outer : List PySem.Env) (s : Shared) (H : Hp) (E : XK), T.tabs = M.TT → Room k (A.deeper (envOfC x (defScope st) s.heap.objs.size f (.ref c))) →
    SSs T (XD M N x (defScope st) f (.ref c) A outer s H E) (defBody st) g
theorem cal_ofC {M : Md} {k : Nat} {N ps : List PySem.Str} {x : PySem.Str} {st : Stmt} {c : Addr} {g : Env → Option Out} (h : DefAtC M x st ps c) (S : FnScope N ps (defScope st)) (b : BodyC M k N x st c g) : Cal M (k + 1) x ps.length (runFn N.length ps.length g) := by
  obtain ⟨f, oc, od, kV, doc, pm, an, ct, osl, lk, hcd, hk, hm, hb⟩ := h.ex
  refine ⟨⟨f, _, ps, fn_of lk hcd S (fun vs H Q E ⟨T, Sx, ds, d, _, _, _, r, hl, _⟩ => by rw [r.len, hl]) fun A outer s H vs Q E hr ⟨T, Sx, ds, d, hT, c, t, r, hl, hF, q⟩ => ?_, hm, hk, hb⟩, fun l d h => runFn_ar h⟩
  have hps : ps.length ≤ N.length := by
    have := congrArg List.length S.pre
    rw [List.length_take] at this
    omega
  refine ⟨_, (b T f A outer s H E hT hr).nox, ?_⟩
  unfold runFn at hF
  obtain ⟨_, hF⟩ := gd_some hF
  have k0 := start_ok (N := N) c t r (by omega)
  rw [hl] at k0
  split at hF
  · rename_i d' hg
    cases hF
    exact ⟨_, _, H, Sx, Sx, hg, k0, fun v S' H' e rv => q v S' H' e rv⟩
  · rename_i ρ' hg
    cases hF
    exact ⟨_, _, H, Sx, Sx, hg, k0, fun S' H' σ' k' => q .non S' H' k'.e rfl⟩
  · cases hF
/-- def is_enough ..; return _least_good(own, e2, is_enough) -/
def cLift (G : List D → Option D) (e2 : Env → Option D) : Env → Option Out := fun ρ => gd (Nat.beq ρ.length 6) (match ρ[(0 : Nat)]?, ρ[(1 : Nat)]?, ρ[(2 : Nat)]?, ρ[(3 : Nat)]?, ρ[(5 : Nat)]? with
  | some (.pu h), some (.pu b), some (.pu v), some (.pu (.int own)), some (.pu w) => match e2 ρ with
    | some (.int gr) => match lgV G [h, b, v, w] own gr with
      | some d => some (.rt d)
      | none => none
    | _ => none
  | _, _, _, _, _ => none)
theorem lift_read {T : Tx} {mk : Addr → NF} {G : List D → Option D} {e2 : Env → Option D} {D0 : Ends} {σ : L2.St} {H : Hp} (hmc : ∀ c', (mk c').c = c') (he2 : ∀ (ρ : Env) (s : Sl), e2 (ρ.set 4 s) = e2 ρ) (h : tS T (cLift G e2) D0 σ H) :
    tNdefM T.tabs 4 mk { D0 with nx := fun σ' H' => tRet (tLg T mk [0, 1, 2, 5] G (aCons (eVar 3) (aCons e2 (aCons (eVar 4) aNil)))) D0 σ' H' } σ H := by
  obtain ⟨ρ, o, B, S0, S, e, k, post⟩ := h
  unfold cLift at e
  obtain ⟨hlen, e⟩ := gd_some e
  have hlen := Nat.eq_of_beq_eq_true hlen
  split at e
  · rename_i hh bb vv own ww r0 r1 r2 r3 r5
    split at e
    · rename_i gr hgr
      split at e
      · rename_i d hd
        cases e
        refine ⟨k.t.t, fun f c' H1 eN nn T1 f0 f1 c1 => ?_⟩
        have ex : Ext T S H S H1 := ⟨k.c.rf, ⟨fun b o h n _ => eN b o h n, nn⟩, ⟨fun b o h => eN b o (k.c b o h) (fun ps z => k.c.z b ps (by rw [h, z])), k.c.z⟩, fun _ _ h => .inl h, ⟨T1, hand_same k.t.h (fun b xs h _ => eN b _ h (fun _ z => by cases z)) ⟨fun b o h => eN b o (k.t.h.2 b o h) (fun ps z => k.t.h.2.z b ps (by rw [h, z])), k.t.h.2.z⟩⟩, k.t.h⟩
        have k1 := (k.ext ex).set (i := 4) (d := .adr f) (v := .ref f) rfl
        have g4 : ∀ (j : Nat) (s : Sl), j ≠ 4 → ρ[j]? = some s → (ρ.set 4 (.pu (.adr f)))[j]? = some s := fun j s h1 h2 => by
          rw [List.getElem?_set_ne (Ne.symm h1)]
          exact h2
        have f4 : (ρ.set 4 (.pu (.adr f)))[(4 : Nat)]? = some (.pu (.adr f)) := List.getElem?_set_self (by rw [hlen]; decide)
        obtain ⟨x0, hx0, rx0⟩ := k1.pu (g4 0 _ (by decide) r0)
        obtain ⟨x1, hx1, rx1⟩ := k1.pu (g4 1 _ (by decide) r1)
        obtain ⟨x2, hx2, rx2⟩ := k1.pu (g4 2 _ (by decide) r2)
        obtain ⟨x5, hx5, rx5⟩ := k1.pu (g4 5 _ (by decide) r5)
        refine ⟨_, B, S0, S, own, gr, f, c', [x0, x1, x2, x5], [hh, bb, vv, ww], d, k1, ?_, f1, by rw [hmc]; exact c1, ?_, .cons rx0 (.cons rx1 (.cons rx2 (.one rx5))), rfl, hd, fun v S' H' e2 r2 => post v S' H' (k1.e.trans e2) r2⟩
        · unfold aCons aNil
          rw [ev_pu (g4 3 _ (by decide) r3), he2, hgr, ev_pu f4]
        · show [NdefX.slotAt _ 0, NdefX.slotAt _ 1, NdefX.slotAt _ 2, NdefX.slotAt _ 5] = _
          rw [NdefX.slotAt_of hx0, NdefX.slotAt_of hx1, NdefX.slotAt_of hx2, NdefX.slotAt_of hx5] <;> rfl
      · cases e
    · cases e
  · cases e
theorem clo_sub {cells : List (PySem.Str × Addr)} {names : List (PySem.Str × NameKind)} {fr : List PySem.Str} (hfree : ∀ y ∈ names, y.2 = .free → y.1 ∈ fr) {y : PySem.Str} {c : Addr} (e : (cloFrom cells names []).lookup y = some c) : y ∈ fr := by
  rcases cloFrom_mem (PySem.mem_of_lookup e) with hm | ⟨h1, h2⟩
  · cases hm
  · exact hfree _ h1 rfl
abbrev nmR : Nat → Nat → PySem.Str := fun _ _ => qR
abbrev nmW : Nat → Nat → PySem.Str := fun _ _ => qW
abbrev N_lr : List PySem.Str := ["history", "bounds", "version", "own", "is_enough", "width"]
abbrev N_lw : List PySem.Str := ["history", "bounds", "version", "own", "is_enough", "reach"]
theorem nd_lr : N_lr.Nodup := by decide +kernel
theorem nd_lw : N_lw.Nodup := by decide +kernel
def e2R : Env → Option D := eOp gIx (eVar 1) (eC (.int 0))
def e2W : Env → Option D := eC (.int 999)
theorem he2R (ρ : Env) (s : Sl) : e2R (ρ.set 4 s) = e2R ρ := by
  unfold e2R eOp eVar
  rw [List.getElem?_set_ne (by decide)] <;> rfl
def g_lr : Env → Option Out := cSeq (cExpr (eCall F_need_bounds (aCons (eVar 0) (aCons (eVar 1) aNil)))) (cSeq (cExpr (eCall F_need_version (aCons (eVar 0) (aCons (eVar 2) aNil))))
  (cSeq (cUnp 5 3 (eOp gIx (eOp gIx (eVar 1) (eC (.int 1))) (eOp gSub (eVar 2) (eC (.int 1))))) (cLift F_enR e2R)))
def g_lw : Env → Option Out := cSeq (cExpr (eCall F_need_bounds (aCons (eVar 0) (aCons (eVar 1) aNil)))) (cSeq (cExpr (eCall F_need_version (aCons (eVar 0) (aCons (eVar 2) aNil))))
  (cSeq (cUnp 3 5 (eOp gIx (eOp gIx (eVar 1) (eC (.int 1))) (eOp gSub (eVar 2) (eC (.int 1))))) (cLift F_enW e2W)))
def F_lifted_reach : List D → Option D := runFn 6 3 g_lr
def F_lifted_width : List D → Option D := runFn 6 3 g_lw
theorem b_lr {M : Md} (B : Blt M.mg) (C_need_bounds : Cal M 5 "need_bounds" 2 F_need_bounds) (C_need_version : Cal M 4 "need_version" 2 F_need_version) (C_can_keep : Cal M 10 "can_keep" 2 F_can_keep) (C_one_bound : Cal M 6 "one_bound" 5 F_one_bound)
    (DA : DefAt M "_least_good" (topS 61) ["own", "greatest", "is_good"]) {c P : Addr} (TB : TabB M.base M.mg c P) (hTT : (P, nmR) ∈ M.TT) (hu : ∀ p ∈ M.TT, p.1 = P → p.2 = nmR) : BodyC M 12 N_lr "lifted_reach" (topS 62) c g_lr := fun T f A outer s H E hT hr => by
  have hfree := ndef_free (fr := frR) (show ndefB (defScope (topS 62)) (C8.fnScope stR) frR = true by decide +kernel)
  have hfrm := ndef_fr (show ndefB (defScope (topS 62)) (C8.fnScope stR) frR = true by decide +kernel)
  have hns : NScope N_enR ["reach"] frR (C8.fnScope stR) := nscope_by (by decide +kernel)
  refine ss_cons (ss_expr (se_call C_need_bounds hT rfl (hr.mono (by decide)) rfl (sa_cons (se_var (i := 0)) (sa_cons (se_var (i := 1)) sa_nil))))
    (ss_cons (ss_expr (se_call C_need_version hT rfl (hr.mono (by decide)) rfl (sa_cons (se_var (i := 0)) (sa_cons (se_var (i := 2)) sa_nil))))
    (ss_cons (ss_unp (i := 5) (j := 3) rfl nd_lr rfl rfl (by first | exact Or.inl rfl | exact Or.inr rfl) (by first | exact Or.inl rfl | exact Or.inr rfl) (se_ix ix_any (se_ix ix_any (se_var (i := 1)) se_int) (se_op od_sub (se_var (i := 2)) se_int))) ?_))
  exact pssI (pss_cons (ps_ndefMS (st := stR) (T := T.tabs) (i := 4) rfl TB rfl (by rw [hT]; exact hTT) rfl (by rw [hT]; exact hu) hfree rfl rfl rfl nd_lr rfl (Or.inl rfl) (Or.inr rfl))
    (pss_one (ps_ret (pe_lg (T := T) (k := 11) (pn := "reach") (js := [0, 1, 2, 5]) (G := F_enR) (mk := NF.of stR "is_enough" ((XD M N_lr "lifted_reach" (defScope (topS 62)) f (Value.ref c) A outer s H E).env.qual ++ "is_enough") (cloFrom (XD M N_lr "lifted_reach" (defScope (topS 62)) f (Value.ref c) A outer s H E).env.cells (C8.fnScope stR).names [])) rfl DA (fun f c' => nok_R C_can_keep C_one_bound) hT (fun c' => rfl) (fun ok => Caps.made ok hfree hfrm rfl) (fun y hy => by
      rcases List.mem_cons.mp hy with z | hy
      · subst z; rfl
      · rcases List.mem_cons.mp hy with z | hy
        · subst z; rfl
        · rcases List.mem_cons.mp hy with z | hy
          · subst z; rfl
          · rcases List.mem_cons.mp hy with z | hy
            · subst z; rfl
            · cases hy) (fun y c e => clo_sub hns.free e) hr rfl
      (sa_cons (se_var (i := 3)) (sa_cons (se_ix ix_any (se_var (i := 1)) se_int) (sa_cons (se_var (i := 4)) sa_nil))))))) fun D σ H0 h => lift_read (mk := NF.of stR "is_enough" ((XD M N_lr "lifted_reach" (defScope (topS 62)) f (Value.ref c) A outer s H E).env.qual ++ "is_enough") (cloFrom (XD M N_lr "lifted_reach" (defScope (topS 62)) f (Value.ref c) A outer s H E).env.cells (C8.fnScope stR).names [])) (fun _ => rfl) he2R h
theorem b_lw {M : Md} (B : Blt M.mg) (C_need_bounds : Cal M 5 "need_bounds" 2 F_need_bounds) (C_need_version : Cal M 4 "need_version" 2 F_need_version) (C_can_keep : Cal M 10 "can_keep" 2 F_can_keep) (C_one_bound : Cal M 6 "one_bound" 5 F_one_bound)
    (DA : DefAt M "_least_good" (topS 61) ["own", "greatest", "is_good"]) {c P : Addr} (TB : TabB M.base M.mg c P) (hTT : (P, nmW) ∈ M.TT) (hu : ∀ p ∈ M.TT, p.1 = P → p.2 = nmW) : BodyC M 12 N_lw "lifted_width" (topS 63) c g_lw := fun T f A outer s H E hT hr => by
  have hfree := ndef_free (fr := frW) (show ndefB (defScope (topS 63)) (C8.fnScope stW) frW = true by decide +kernel)
  have hfrm := ndef_fr (show ndefB (defScope (topS 63)) (C8.fnScope stW) frW = true by decide +kernel)
  have hns : NScope N_enW ["width"] frW (C8.fnScope stW) := nscope_by (by decide +kernel)
  refine ss_cons (ss_expr (se_call C_need_bounds hT rfl (hr.mono (by decide)) rfl (sa_cons (se_var (i := 0)) (sa_cons (se_var (i := 1)) sa_nil))))
    (ss_cons (ss_expr (se_call C_need_version hT rfl (hr.mono (by decide)) rfl (sa_cons (se_var (i := 0)) (sa_cons (se_var (i := 2)) sa_nil))))
    (ss_cons (ss_unp (i := 3) (j := 5) rfl nd_lw rfl rfl (by first | exact Or.inl rfl | exact Or.inr rfl) (by first | exact Or.inl rfl | exact Or.inr rfl) (se_ix ix_any (se_ix ix_any (se_var (i := 1)) se_int) (se_op od_sub (se_var (i := 2)) se_int))) ?_))
  exact pssI (pss_cons (ps_ndefMS (st := stW) (T := T.tabs) (i := 4) rfl TB rfl (by rw [hT]; exact hTT) rfl (by rw [hT]; exact hu) hfree rfl rfl rfl nd_lw rfl (Or.inl rfl) (Or.inr rfl))
    (pss_one (ps_ret (pe_lg (T := T) (k := 11) (pn := "width") (js := [0, 1, 2, 5]) (G := F_enW) (mk := NF.of stW "is_enough" ((XD M N_lw "lifted_width" (defScope (topS 63)) f (Value.ref c) A outer s H E).env.qual ++ "is_enough") (cloFrom (XD M N_lw "lifted_width" (defScope (topS 63)) f (Value.ref c) A outer s H E).env.cells (C8.fnScope stW).names [])) rfl DA (fun f c' => nok_W C_can_keep C_one_bound) hT (fun c' => rfl) (fun ok => Caps.made ok hfree hfrm rfl) (fun y hy => by
      rcases List.mem_cons.mp hy with z | hy
      · subst z; rfl
      · rcases List.mem_cons.mp hy with z | hy
        · subst z; rfl
        · rcases List.mem_cons.mp hy with z | hy
          · subst z; rfl
          · rcases List.mem_cons.mp hy with z | hy
            · subst z; rfl
            · cases hy) (fun y c e => clo_sub hns.free e) hr rfl
      (sa_cons (se_var (i := 3)) (sa_cons (se_glob rfl B.gb.choose_spec) (sa_cons (se_var (i := 4)) sa_nil))))))) fun D σ H0 h => lift_read (mk := NF.of stW "is_enough" ((XD M N_lw "lifted_width" (defScope (topS 63)) f (Value.ref c) A outer s H E).env.qual ++ "is_enough") (cloFrom (XD M N_lw "lifted_width" (defScope (topS 63)) f (Value.ref c) A outer s H E).env.cells (C8.fnScope stW).names [])) (fun _ => rfl) (fun _ _ => rfl) h
theorem c_lr {M : Md} (B : Blt M.mg) {c P : Addr} (h : DefAtC M "lifted_reach" (topS 62) ["history", "bounds", "version"] c) (C_need_bounds : Cal M 5 "need_bounds" 2 F_need_bounds) (C_need_version : Cal M 4 "need_version" 2 F_need_version) (C_can_keep : Cal M 10 "can_keep" 2 F_can_keep) (C_one_bound : Cal M 6 "one_bound" 5 F_one_bound)
    (DA : DefAt M "_least_good" (topS 61) ["own", "greatest", "is_good"]) (TB : TabB M.base M.mg c P) (hTT : (P, nmR) ∈ M.TT) (hu : ∀ p ∈ M.TT, p.1 = P → p.2 = nmR) : Cal M 13 "lifted_reach" 3 F_lifted_reach :=
  cal_ofC h ⟨rfl, rfl, rfl, nd_lr, rfl, by decide +kernel, by decide +kernel⟩ (b_lr B C_need_bounds C_need_version C_can_keep C_one_bound DA TB hTT hu)
theorem c_lw {M : Md} (B : Blt M.mg) {c P : Addr} (h : DefAtC M "lifted_width" (topS 63) ["history", "bounds", "version"] c) (C_need_bounds : Cal M 5 "need_bounds" 2 F_need_bounds) (C_need_version : Cal M 4 "need_version" 2 F_need_version) (C_can_keep : Cal M 10 "can_keep" 2 F_can_keep) (C_one_bound : Cal M 6 "one_bound" 5 F_one_bound)
    (DA : DefAt M "_least_good" (topS 61) ["own", "greatest", "is_good"]) (TB : TabB M.base M.mg c P) (hTT : (P, nmW) ∈ M.TT) (hu : ∀ p ∈ M.TT, p.1 = P → p.2 = nmW) : Cal M 13 "lifted_width" 3 F_lifted_width :=
  cal_ofC h ⟨rfl, rfl, rfl, nd_lw, rfl, by decide +kernel, by decide +kernel⟩ (b_lw B C_need_bounds C_need_version C_can_keep C_one_bound DA TB hTT hu)
end DL

set_option Elab.async false
set_option linter.all false
set_option maxRecDepth 100000
set_option maxHeartbeats 4000000
namespace DL
open PySem PySem.Spec PyProof.Rows L2 LamX NdefX
/-! ### what is drawn: readings of which any outcome may come -/
def HS (T : Tx) (S : Hp) : Prop := ∀ p q cs, T.hand = some (p, q, cs) → S p = none ∧ T.fx p = none
theorem HS.ext {T : Tx} {S H S' H' : Hp} (h : HS T S) (e : Ext T S H S' H') : HS T S' := fun p q cs hh => by
  obtain ⟨h1, h2⟩ := h p q cs hh
  refine ⟨?_, h2⟩
  obtain ⟨_, _, _, _, e1, _⟩ := e.b.1 p q cs hh
  cases z : S' p with
  | none => rfl
  | some o =>
    rcases e.f p o z with y | y
    · rw [h1] at y; cases y
    · rw [e1] at y; cases y
section
variable (T : Tx)
def nE (f : Env → (D → Prop) → Prop) : TE := fun σ H Q => ∃ ρ B S0 S K, Ok T B S0 S H σ ρ ∧ HS T S0 ∧ f ρ K ∧ ∀ d, K d → ∀ v S' H', Ext T S H S' H' → Rep S' d v → Q v H'
def nB (f : Env → (Bool → Prop) → Prop) : TT := fun σ H Q => ∃ ρ B S0 S K, Ok T B S0 S H σ ρ ∧ HS T S0 ∧ f ρ K ∧ ∀ b, K b → ∀ S' H', Ext T S H S' H' → Q b H'
def nA (f : Env → (List D → Prop) → Prop) : TA := fun σ H Q => ∃ ρ B S0 S K, Ok T B S0 S H σ ρ ∧ HS T S0 ∧ f ρ K ∧ ∀ ds, K ds → ∀ vs S' H', Ext T S H S' H' → Reps S' ds vs → Q vs H'
def nS (g : Env → (Out → Prop) → Prop) : TS := fun D σ H => ∃ ρ B S0 S K, Ok T B S0 S H σ ρ ∧ HS T S0 ∧ g ρ K ∧ ∀ o, K o → Post T B S0 D o
end
def qE (f : Env → Option D) : Env → (D → Prop) → Prop := fun ρ K => ∃ d, f ρ = some d ∧ K d
def qB (f : Env → Option Bool) : Env → (Bool → Prop) → Prop := fun ρ K => ∃ d, f ρ = some d ∧ K d
def qS (f : Env → Option Out) : Env → (Out → Prop) → Prop := fun ρ K => ∃ d, f ρ = some d ∧ K d
def qNil : Env → (List D → Prop) → Prop := fun _ K => K []
def qCons (fa : Env → (D → Prop) → Prop) (fr : Env → (List D → Prop) → Prop) : Env → (List D → Prop) → Prop := fun ρ K => fa ρ fun a => fr ρ fun r => K (a :: r)
def qOp (g : D → D → Option D) (fa fb : Env → (D → Prop) → Prop) : Env → (D → Prop) → Prop := fun ρ K => fa ρ fun a => fb ρ fun b => ∃ z, g a b = some z ∧ K z
def qBOf (f : Env → (D → Prop) → Prop) : Env → (Bool → Prop) → Prop := fun ρ K => f ρ fun d => ∃ b, d = .bl b ∧ K b
def qNot (f : Env → (Bool → Prop) → Prop) : Env → (Bool → Prop) → Prop := fun ρ K => f ρ fun b => K (!b)
def qOr (fa fb : Env → (Bool → Prop) → Prop) : Env → (Bool → Prop) → Prop := fun ρ K => fa ρ fun a => (a = true → K true) ∧ (a = false → fb ρ K)
def qSeq (g1 g2 : Env → (Out → Prop) → Prop) : Env → (Out → Prop) → Prop := fun ρ K => g1 ρ fun o => match o with
  | .nx ρ' => g2 ρ' K
  | o => K o
def qSet (i : Nat) (f : Env → (D → Prop) → Prop) : Env → (Out → Prop) → Prop := fun ρ K => f ρ fun d => K (.nx (ρ.set i (.pu d)))
def qIf (c : Env → (Bool → Prop) → Prop) (g1 g2 : Env → (Out → Prop) → Prop) : Env → (Out → Prop) → Prop := fun ρ K => c ρ fun b => (b = true → g1 ρ K) ∧ (b = false → g2 ρ K)
def qRet (f : Env → (D → Prop) → Prop) : Env → (Out → Prop) → Prop := fun ρ K => f ρ fun d => K (.rt d)
section
variable {T : Tx} {X : Cx} {a b e : Expr} {es : List Expr} {st : Stmt} {rest sts : List Stmt} {pos : Pos} {fa fb : Env → (D → Prop) → Prop} {fr : Env → (List D → Prop) → Prop} {ca cb : Env → (Bool → Prop) → Prop} {g1 g2 : Env → (Out → Prop) → Prop}
abbrev NE (T : Tx) (X : Cx) (e : Expr) (f : Env → (D → Prop) → Prop) : Prop := PE X e (nE T f)
abbrev NT (T : Tx) (X : Cx) (e : Expr) (f : Env → (Bool → Prop) → Prop) : Prop := PT X e (nB T f)
abbrev NW (T : Tx) (X : Cx) (e : Expr) (f : Env → (Bool → Prop) → Prop) : Prop := PW X e (nB T f)
abbrev NA (T : Tx) (X : Cx) (e : List Expr) (f : Env → (List D → Prop) → Prop) : Prop := PA X e (nA T f)
abbrev NS (T : Tx) (X : Cx) (s : Stmt) (f : Env → (Out → Prop) → Prop) : Prop := PS X s (nS T f)
abbrev NSs (T : Tx) (X : Cx) (s : List Stmt) (f : Env → (Out → Prop) → Prop) : Prop := PSs X s (nS T f)
theorem ne_of {f : Env → Option D} (h : SE T X e f) : NE T X e (qE f) := peI h fun σ H Q ⟨ρ, B, S0, S, K, k, hs, ⟨d, e, kd⟩, q⟩ => ⟨ρ, d, B, S0, S, e, k, q d kd⟩
theorem nt_of {f : Env → Option Bool} (h : ST T X e f) : NT T X e (qB f) := ptI h fun σ H Q ⟨ρ, B, S0, S, K, k, hs, ⟨d, e, kd⟩, q⟩ => ⟨ρ, d, B, S0, S, e, k, q d kd⟩
theorem ns_of {f : Env → Option Out} (h : SS T X st f) : NS T X st (qS f) := psI h fun D σ H ⟨ρ, B, S0, S, K, k, hs, ⟨o, e, ko⟩, q⟩ => ⟨ρ, o, B, S0, S, e, k, q o ko⟩
theorem nss_of {f : Env → Option Out} (h : SSs T X sts f) : NSs T X sts (qS f) := pssI h fun D σ H ⟨ρ, B, S0, S, K, k, hs, ⟨o, e, ko⟩, q⟩ => ⟨ρ, o, B, S0, S, e, k, q o ko⟩
theorem na_nil : NA T X [] qNil := paI pa_nil fun σ H Q ⟨ρ, B, S0, S, K, k, hs, kd, q⟩ => q [] kd [] S H k.rf rfl
theorem na_cons (ha : NE T X a fa) (hr : NA T X es fr) (hs : starEach (a :: es) X.env = (false, eval a X.env) :: starEach es X.env := by rfl) : NA T X (a :: es) (qCons fa fr) := paI (pa_cons ha hr hs) fun σ H Q ⟨ρ, B, S0, S, K, k, hs, h, q⟩ =>
  ⟨ρ, B, S0, S, _, k, hs, h, fun d h2 v S1 H1 e1 r1 => ⟨ρ, B, S0, S1, _, k.ext e1, hs, h2, fun ds kd vs S2 H2 e2 r2 => q (d :: ds) kd (v :: vs) S2 H2 (e1.trans e2) (.cons (Rep.mono e2.s r1) r2)⟩⟩
theorem n_two {σ : L2.St} {H : Hp} {Q : VK} {r : R2} {g : D → D → Option D} (o : ∀ (S H : Hp) (a b z : D) (x y : V) (Q : VK), Same S H → Tb T H → g a b = some z → Rep S a x → Rep S b y → (∀ v S' H', Ext T S H S' H' → Rep S' z v → Q v H') → r x y H Q)
    (h : nE T (qOp g fa fb) σ H Q) : tOp r (nE T fa) (nE T fb) σ H Q := by
  obtain ⟨ρ, B, S0, S, K, k, hs, h, q⟩ := h
  exact ⟨ρ, B, S0, S, _, k, hs, h, fun d h2 v S1 H1 e1 r1 => ⟨ρ, B, S0, S1, _, k.ext e1, hs, h2, fun d2 ⟨z, hz, kz⟩ u S2 H2 e2 r2 => o S2 H2 d d2 z v u Q e2.c e2.t hz (Rep.mono e2.s r1) r2 fun w S3 H3 e3 r3 => q z kz w S3 H3 ((e1.trans e2).trans e3) r3⟩⟩
theorem ne_op {op : Operator} {g : D → D → Option D} (o : OD T X (binaryOp op) g) (ha : NE T X a fa) (hb : NE T X b fb) : NE T X (.BinOp a op b pos) (qOp g fa fb) := by
  obtain ⟨r, hr, o⟩ := o
  exact peI (pe_op hr ha hb) fun σ H Q h => n_two o h
theorem ne_ix {g : D → D → Option D} (o : IxD T X g) (ha : NE T X a fa) (hb : NE T X b fb) (hs : PlainIx b := by exact fun _ _ => rfl) : NE T X (.Subscript a b pos) (qOp g fa fb) := by
  obtain ⟨r, hr, o⟩ := o
  exact peI (pe_ix hr ha hb hs) fun σ H Q h => n_two o h
theorem n_test {σ : L2.St} {H : Hp} {f : Env → (D → Prop) → Prop} {t : TE} {Q : Bool → Hp → Prop} (w : ∀ Q, nE T f σ H Q → t σ H Q) (h : nB T (qBOf f) σ H Q) : tTest t σ H Q := by
  obtain ⟨ρ, B, S0, S, K, k, hs, h, q⟩ := h
  refine w _ ⟨ρ, B, S0, S, _, k, hs, h, fun d ⟨b, ed, kb⟩ v S1 H1 e1 r1 => ?_⟩
  subst ed
  exact ⟨b, r1, q b kb S1 H1 e1⟩
theorem nt_cmp {op : CmpOp} {g : D → D → Option D} (o : OD T X (compareOp op) g) (ha : NE T X a fa) (hb : NE T X b fb) (hm : behindInMarks op b = false := by first | exact nomark _ | rfl) : NT T X (.Compare a [op] [b] pos) (qBOf (qOp g fa fb)) := by
  obtain ⟨r, hr, o⟩ := o
  exact ptI (pt_cmpR hr ha hb hm) fun σ H Q h => n_test (fun Q h => n_two o h) h
theorem nt_val (ha : NE T X a fa) (he : ∀ whole, isTrue a X.env whole = (do let v ← whole; standAt a.pos; holding [v] (truthy v)) := by intro _; rfl) : NT T X a (qBOf fa) :=
  ptI (pt_val ha he) fun σ H Q h => n_test (t := nE T fa) (fun _ h => h) h
theorem nt_not (ha : NT T X a ca) : NT T X (.UnaryOp .Not a pos) (qNot ca) := ptI (pt_not ha) fun σ H Q ⟨ρ, B, S0, S, K, k, hs, h, q⟩ => ⟨ρ, B, S0, S, _, k, hs, h, fun b kb S1 H1 e1 => q _ kb S1 H1 e1⟩
theorem nw_or1 (ha : NT T X a ca) : NW T X (.BoolOp .Or [a] pos) ca := pw_or1 ha
theorem nw_or {rest : List Expr} (ha : NT T X a ca) (hb : NW T X (.BoolOp .Or (b :: rest) pos) cb) : NW T X (.BoolOp .Or (a :: b :: rest) pos) (qOr ca cb) := pwI (pw_or ha hb) fun σ H Q ⟨ρ, B, S0, S, K, k, hs, h, q⟩ =>
  ⟨ρ, B, S0, S, _, k, hs, h, fun x ⟨h1, h2⟩ S1 H1 e1 => by
    dsimp only
    cases x with
    | true =>
      rw [if_pos rfl]
      exact q true (h1 rfl) S1 H1 e1
    | false =>
      rw [if_neg Bool.false_ne_true]
      exact ⟨ρ, B, S0, S1, K, k.ext e1, hs, h2 rfl, fun b kb S2 H2 e2 => q b kb S2 H2 (e1.trans e2)⟩⟩
theorem nt_pw (h : NW T X a ca) : NT T X a ca := h.pt
theorem ns_cons (h1 : NS T X st g1) (h2 : NSs T X rest g2) : NSs T X (st :: rest) (qSeq g1 g2) := pssI (pss_cons h1 h2) fun D σ H ⟨ρ, B, S0, S, K, k, hs, h, q⟩ => by
  refine ⟨ρ, B, S0, S, _, k, hs, h, fun o ko => ?_⟩
  cases o with
  | nx ρ' => exact fun S' H' σ' k' => ⟨ρ', B, S0, S', K, k', hs, ko, q⟩
  | rt d => exact q _ ko
  | bk ρ' => exact q _ ko
  | ct ρ' => exact q _ ko
theorem ns_one (h1 : NS T X st g1) : NSs T X [st] g1 := pss_one h1
theorem ns_set {i : Nat} {x : PySem.Str} {pos' : Pos} (hN : X.N.Nodup) (hi : X.N[i]? = some x) (hx : Loc X.env.scope x) (he : NE T X e fa) (hs : swapsWith e (some (.Name x pos')) pos.line X.env = pure false := by rfl) (hf : X.fn x = true ∨ X.env.scope.names.lookup x = some .local := by first | exact .inl rfl | exact .inr rfl | assumption) :
    NS T X (.Assign [.Name x pos'] e pos) (qSet i fa) := psI (ps_set hN hi hx he hs hf) fun D σ H ⟨ρ, B, S0, S, K, k, hs, h, q⟩ => ⟨ρ, B, S0, S, _, k, hs, h, fun d kd v S1 H1 e1 r1 => q _ kd S1 H1 _ ((k.ext e1).set r1)⟩
theorem ns_if {c : Expr} {a b : List Stmt} (hc : NT T X c ca) (ha : NSs T X a g1) (hb : NSs T X b g2) : NS T X (.If c a b pos) (qIf ca g1 g2) := psI (ps_if hc ha hb) fun D σ H ⟨ρ, B, S0, S, K, k, hs, h, q⟩ =>
  ⟨ρ, B, S0, S, _, k, hs, h, fun x ⟨h1, h2⟩ S1 H1 e1 => by
    dsimp only
    cases x with
    | true =>
      rw [if_pos rfl]
      exact ⟨ρ, B, S0, S1, K, k.ext e1, hs, h1 rfl, q⟩
    | false =>
      rw [if_neg Bool.false_ne_true]
      exact ⟨ρ, B, S0, S1, K, k.ext e1, hs, h2 rfl, q⟩⟩
theorem ns_ret (he : NE T X e fa) : NS T X (.Return (some e) pos) (qRet fa) := psI (ps_ret he) fun D σ H ⟨ρ, B, S0, S, K, k, hs, h, q⟩ => ⟨ρ, B, S0, S, _, k, hs, h, fun d kd v S1 H1 e1 r1 => q _ kd v S1 H1 (k.ext e1).e r1⟩
end
/-! ### contracts of the defs that take the hand -/
def spN (TT : List NTab) (n : Nat) (F : List D → (D → Prop) → Prop) : Sp := fun vs H Q _ => ∃ (T : Tx) (S : Hp) (p q : Addr) (cs : List Int) (ds : List D) (K : D → Prop), T.tabs = TT ∧ T.hand = some (p, q, cs) ∧ cs.length ≤ 4000 ∧ HS T S ∧ Same S H ∧ Tb T H ∧ Reps S (.adr p :: ds) vs ∧ ds.length = n ∧ F ds K ∧
  ∀ d, K d → ∀ v S' H', Ext T S H S' H' → Rep S' d v → Q v H'
structure CalN (M : Md) (k : Nat) (x : PySem.Str) (n : Nat) (F : List D → (D → Prop) → Prop) : Prop where
  ex : ∃ f fd ps, FnOk M.P M.w M.K M.mg M.base CX0 k f fd ps (spN M.TT n F) ∧ M.mg x = some (.ref f) ∧ PySem.W.keepIn M.K (.ref f) = true ∧ Binds M.K fd ps []
def runN (N n : Nat) (g : Addr → Env → (Out → Prop) → Prop) : List D → (D → Prop) → Prop := fun ds K => ds.length = n ∧ ∀ p, g p ((Sl.pu (.adr p) :: ds.map Sl.pu) ++ List.replicate (N - (n + 1)) Sl.no) fun o => match o with
  | .rt d => K d
  | .nx _ => K .non
  | _ => False
def BodyN (M : Md) (k : Nat) (N : List PySem.Str) (x : PySem.Str) (st : Stmt) (g : Addr → Env → (Out → Prop) → Prop) : Prop :=
  ∀ (T : Tx) (p q : Addr) (cs : List Int) (f : Addr) (cdv : Value) (A : Around) (outer : List PySem.Env) (s : Shared) (H : Hp) (E : XK), T.tabs = M.TT → T.hand = some (p, q, cs) → cs.length ≤ 4000 → Room k (A.deeper (envOfC x (defScope st) s.heap.objs.size f cdv)) →
    NSs T (XD M N x (defScope st) f cdv A outer s H E) (defBody st) (g p)
theorem calN_of {M : Md} {k n : Nat} {N ps : List PySem.Str} {x : PySem.Str} {st : Stmt} {g : Addr → Env → (Out → Prop) → Prop} (h : DefAt M x st ps) (S : FnScope N ps (defScope st)) (hn : ps.length = n + 1) (b : BodyN M k N x st g) : CalN M (k + 1) x n (runN N.length n g) := by
  obtain ⟨f, fd, F, hm, hb⟩ := h.ex
  refine ⟨⟨f, fd, ps, F.ok S (fun vs H Q E ⟨T, Sx, p, q, cs, ds, K, _, _, _, _, _, _, r, hl, _⟩ => by rw [r.len, List.length_cons, hl, hn]) fun cdv A outer s H vs Q E hr ⟨T, Sx, p, q0, cs, ds, K, hT, hh, hc4, hs, c, t, r, hl, hF, q⟩ => ?_, hm, F.kp, hb⟩⟩
  have hps : ps.length ≤ N.length := by
    have := congrArg List.length S.pre
    rw [List.length_take] at this
    omega
  refine ⟨_, b T p q0 cs f cdv A outer s H E hT hh hc4 hr, ?_⟩
  have k0 := start_ok (N := N) c t r (by rw [List.length_cons, hl]; omega)
  rw [List.length_cons, hl, List.map_cons] at k0
  refine ⟨_, H, Sx, Sx, _, k0, hs, hF.2 p, fun o ko => ?_⟩
  cases o with
  | rt d => exact fun v S' H' e rv => q d ko v S' H' e rv
  | nx ρ' => exact fun S' H' σ' k' => q .non ko .non S' H' k'.e rfl
  | bk ρ' => exact ko.elim
  | ct ρ' => exact ko.elim
theorem runN_len {N n : Nat} {g : Addr → Env → (Out → Prop) → Prop} : ∀ ds K, runN N n g ds K → ds.length = n := fun _ _ h => h.1
/-- f(hand, ..) -/
def qCallAt (j : Nat) (p : Addr) (F : List D → (D → Prop) → Prop) (fr : Env → (List D → Prop) → Prop) : Env → (D → Prop) → Prop := fun ρ K => ρ[j]? = some (.pu (.adr p)) ∧ fr ρ fun ds => F ds K
abbrev qCall (p : Addr) (F : List D → (D → Prop) → Prop) (fr : Env → (List D → Prop) → Prop) : Env → (D → Prop) → Prop := qCallAt 0 p F fr
theorem ne_callAt {j : Nat} {T : Tx} {M : Md} {X : Cx} {k n : Nat} {x hx : PySem.Str} {F : List D → (D → Prop) → Prop} {es : List Expr} {fr : Env → (List D → Prop) → Prop} {p' pos ph : Pos} {p q : Addr} {cs : List Int}
    (C : CalN M k x n F) (hT : T.tabs = M.TT) (hh : T.hand = some (p, q, cs)) (hc4 : cs.length ≤ 4000) (hX : (⟨X.prog, X.w, X.K, X.mg, X.base, M.TT⟩ : Md) = M) (hr : Room k X.A) (hg : Gl X x) (hn : ∀ ds K, F ds K → ds.length = n) (hN0 : X.N[j]? = some hx) (hv0 : Vis X.env.scope hx) (ha : NA T X es fr)
    (hdb : (x == ("__debug__" : PySem.Str)) = false := by decide) (hd : (hx == ("__debug__" : PySem.Str)) = false := by decide) (hcd : (hx == ("__classdict__" : PySem.Str)) = false := by decide)
    (he : starEach (.Name hx ph :: es) X.env = (false, eval (.Name hx ph) X.env) :: starEach es X.env := by rfl) (hpl : (backTo pos (starEach es X.env)).any (·.1) = false := by rfl) :
    NE T X (.Call (.Name x p') (.Name hx ph :: es) [] pos) (qCallAt j p F fr) := by
  obtain ⟨P', w', K', mg', base', TT'⟩ := M
  simp only [Md.mk.injEq] at hX
  obtain ⟨h1, h2, h3, h4, h5, _⟩ := hX
  subst h1 h2 h3 h4 h5
  obtain ⟨⟨f, fd, ps, Fn, hm, hk, hb⟩⟩ := C
  refine peI (pe_call (E := E0) Fn hr hg hm hk hb .nil pass0 (pa_cons (pe_var (i := j) hN0 hv0 hd hcd) ha he) hdb he hpl) fun σ H Q ⟨ρ, B, S0, S, K, k0, hs, ⟨h0, h⟩, q0⟩ => ?_
  obtain ⟨v, hv, rv⟩ := k0.pu h0
  refine ⟨v, hv, ρ, B, S0, S, _, k0, hs, h, fun ds hds vs S1 H1 e1 r1 => ⟨T, S1, p, q, cs, ds, K, hT, hh, hc4, hs.ext (k0.ext e1).e, e1.c, e1.t, by rw [List.append_nil]; exact .cons (Rep.mono e1.s rv) r1, hn ds K hds, hds, fun d kd v2 S2 H2 e2 r2 => q0 d kd v2 S2 H2 (e1.trans e2) r2⟩⟩
theorem ne_call {T : Tx} {M : Md} {X : Cx} {k n : Nat} {x hx : PySem.Str} {F : List D → (D → Prop) → Prop} {es : List Expr} {fr : Env → (List D → Prop) → Prop} {p' pos ph : Pos} {p q : Addr} {cs : List Int}
    (C : CalN M k x n F) (hT : T.tabs = M.TT) (hh : T.hand = some (p, q, cs)) (hc4 : cs.length ≤ 4000) (hX : (⟨X.prog, X.w, X.K, X.mg, X.base, M.TT⟩ : Md) = M) (hr : Room k X.A) (hg : Gl X x) (hn : ∀ ds K, F ds K → ds.length = n) (hN0 : X.N[(0 : Nat)]? = some hx) (hv0 : Vis X.env.scope hx) (ha : NA T X es fr)
    (hdb : (x == ("__debug__" : PySem.Str)) = false := by decide) (hd : (hx == ("__debug__" : PySem.Str)) = false := by decide) (hcd : (hx == ("__classdict__" : PySem.Str)) = false := by decide)
    (he : starEach (.Name hx ph :: es) X.env = (false, eval (.Name hx ph) X.env) :: starEach es X.env := by rfl) (hpl : (backTo pos (starEach es X.env)).any (·.1) = false := by rfl) :
    NE T X (.Call (.Name x p') (.Name hx ph :: es) [] pos) (qCall p F fr) := ne_callAt (j := 0) C hT hh hc4 hX hr hg hn hN0 hv0 ha hdb hd hcd he hpl
/-! ### lists of ints compared -/
def gNeL : D → D → Option D
  | .lst a, .lst b => match intsOf a with
    | some x => match intsOf b with
      | some y => some (.bl (!(x == y)))
      | none => none
    | none => none
  | _, _ => none
theorem eqvAll_ints : ∀ x y : List Int, PyData.eqvAll (x.map PyData.int) (y.map PyData.int) = (x == y)
  | [], [] => rfl
  | [], _ :: _ => rfl
  | _ :: _, [] => rfl
  | a :: x, b :: y => by
    show (PyData.eqv (.int a) (.int b) && PyData.eqvAll (x.map PyData.int) (y.map PyData.int)) = _
    rw [eqvAll_ints x y] <;> rfl
theorem dpAll_ints {K : PySem.W.Frag} {H : Hp} : ∀ x : List Int, DpAll K H (x.map V.int) (x.map PyData.int)
  | [] => .nil
  | a :: x => .cons (.int a) (dpAll_ints x)
theorem lay_ints : ∀ x : List Int, PyData.canLayAll0 (x.map PyData.int) = true
  | [] => rfl
  | a :: x => by
    show (PyData.canLay0 (.int a) && PyData.canLayAll0 (x.map PyData.int)) = true
    rw [lay_ints x] <;> rfl
theorem depth_ints : ∀ x : List Int, PyData.depthAll (x.map PyData.int) ≤ 2
  | [] => by decide
  | a :: x => by
    have := depth_ints x
    show max (PyData.depth (.int a)) (PyData.depthAll (x.map PyData.int)) ≤ 2
    have h : PyData.depth (.int a) = 0 := by simp only [PyData.depth]
    omega
theorem shaped_ints (x : List Int) : SeqAt.shaped (.list (x.map PyData.int)) = true := by
  show (PyData.canLay0 (.list (x.map PyData.int)) && decide (PyData.depth (.list (x.map PyData.int)) ≤ 64)) = true
  have h1 := depth_ints x
  have h2 : PyData.depth (.list (x.map PyData.int)) ≤ 64 := by
    simp only [PyData.depth]
    omega
  rw [Bool.and_eq_true]
  exact ⟨by simp only [PyData.canLay0]; exact lay_ints x, decide_eq_true h2⟩
theorem od_neL {T : Tx} {X : Cx} (hu : X.A.units + 64 < cLine) : OD T X (compareOp .NotEq) gNeL := by
  refine ⟨_, op_neD hu, fun S H a b z x y Q c t e ra rb q => ?_⟩
  unfold gNeL at e
  split at e
  · split at e
    · rename_i x1 hx
      split at e
      · rename_i y1 hy
        cases e
        obtain ⟨p, xs, e1, h1, r1⟩ := ra
        obtain ⟨p2, ys, e2, h2, r2⟩ := rb
        rw [intsOf_eq hx] at r1
        rw [intsOf_eq hy] at r2
        have r1 := r1.ints
        have r2 := r2.ints
        subst r1 r2 e1 e2
        refine ⟨.list (x1.map PyData.int), .list (y1.map PyData.int), .lst (.inl (.inl (c p _ h1))) (dpAll_ints x1), .lst (.inl (.inl (c p2 _ h2))) (dpAll_ints y1), shaped_ints x1, shaped_ints y1, ?_⟩
        have ev : PyData.eqv (.list (x1.map PyData.int)) (.list (y1.map PyData.int)) = (x1 == y1) := by
          simp only [PyData.eqv]
          exact eqvAll_ints x1 y1
        rw [ev]
        exact q _ S H (.refl c t) rfl
      · cases e
    · cases e
  · cases e
/-! ### f(e, name=e2) -/
def g2 : List Value → List Value → List Value
  | [a], [b] => [a, b]
  | _, _ => []
def g2V : List V → List V → List V
  | [a], [b] => [a, b]
  | _, _ => []
structure CalK (M : Md) (k : Nat) (x kw : PySem.Str) (F : List D → Option D) : Prop where
  ex : ∃ f fd ps, FnOk M.P M.w M.K M.mg M.base CX0 k f fd ps (spD M.TT 2 F) ∧ M.mg x = some (.ref f) ∧ PySem.W.keepIn M.K (.ref f) = true ∧ KBinds M.K fd ps [kw] g2 g2V
theorem g2_rel {vs : List V} {us : List Value} {zs : List V} {ws : List Value} (h1 : Vals vs us) (h2 : Vals zs ws) : Vals (g2V vs zs) (g2 us ws) := by
  cases h1 with
  | nil => cases h2 <;> exact .nil
  | cons a b =>
    cases b with
    | nil =>
      cases h2 with
      | nil => exact .nil
      | cons c d =>
        cases d with
        | nil => exact .cons a (.cons c .nil)
        | cons => exact .nil
    | cons => exact .nil
/-- f(e, kw = e2) by data -/
theorem se_callK {T : Tx} {M : Md} {X : Cx} {k : Nat} {x kw : PySem.Str} {F : List D → Option D} {a b : Expr} {fa fb : Env → Option D} {p pos kpos : Pos} (C : CalK M k x kw F) (hT : T.tabs = M.TT) (hX : (⟨X.prog, X.w, X.K, X.mg, X.base, M.TT⟩ : Md) = M) (hr : Room k X.A) (hg : Gl X x) (ha : SE T X a fa) (hb : SE T X b fb)
    (hall : (backToKw pos (keywordEach [⟨some kw, b, kpos⟩] X.env)).all (·.1.isSome) = true := by rfl) (hks : (backToKw pos (keywordEach [⟨some kw, b, kpos⟩] X.env)).filterMap (·.1) = [kw] := by rfl)
    (hdb : (x == ("__debug__" : PySem.Str)) = false := by decide) (he : starEach (a :: []) X.env = (false, eval a X.env) :: starEach [] X.env := by rfl)
    (hpl : ((backTo pos (starEach (a :: []) X.env)).any (·.1) || (backToKw pos (keywordEach [⟨some kw, b, kpos⟩] X.env)).any (·.1.isNone)) = false := by rfl) :
    SE T X (.Call (.Name x p) [a] [⟨some kw, b, kpos⟩] pos) (eCall F (aCons fa (aCons fb aNil))) := by
  obtain ⟨P', w', K', mg', base', TT'⟩ := M
  simp only [Md.mk.injEq] at hX
  obtain ⟨h1, h2, h3, h4, h5, _⟩ := hX
  subst h1 h2 h3 h4 h5
  obtain ⟨⟨f, fd, ps, Fn, hm, hk, hbk⟩⟩ := C
  refine peI (pe_callK (E := E0) Fn hr hg hm hk hbk pass0 (pa_cons ha pa_nil he) (pk_cons hb pk_nil) hall hks hdb he hpl) fun σ H Q ⟨ρ, z, B, S0, S, e, k, q⟩ => ?_
  unfold eCall at e
  split at e
  · rename_i l hl
    unfold aCons at hl
    split at hl
    · rename_i da hda
      split at hl
      · rename_i r hr2
        cases hl
        split at hr2
        · rename_i db hdb2
          cases hr2
          exact ⟨ρ, da, B, S0, S, hda, k, fun v S1 H1 e1 r1 => ⟨ρ, db, B, S0, S1, hdb2, k.ext e1, fun u S2 H2 e2 r2 => ⟨T, S2, [da, db], z, hT, e2.c, e2.t, .cons (Rep.mono e2.s r1) (.one r2), rfl, e, fun w S3 H3 e3 r3 => q w S3 H3 ((e1.trans e2).trans e3) r3⟩⟩⟩
        · cases hr2
      · cases hl
    · cases hl
  · cases e
end DL

set_option Elab.async false
set_option linter.all false
set_option maxRecDepth 100000
set_option maxHeartbeats 4000000
namespace DL
open PySem PySem.Spec PyProof.Rows L2 LamX NdefX
/-- a draw below many -/
def F__law_take : List D → (D → Prop) → Prop := fun ds K => ∃ m : Int, ds = [.int m] ∧ 0 < m ∧ m ≤ 1000 ∧ ∀ i : Int, 0 ≤ i → i < m → K (.int i)
theorem len__law_take : ∀ ds K, F__law_take ds K → ds.length = 1 := fun ds K ⟨m, e, _⟩ => by rw [e] <;> rfl
abbrev N__law_drawn : List PySem.Str := ["_law_hand_here", "_law_counts", "_law_above_here", "_law_k"]
theorem nd__law_drawn : N__law_drawn.Nodup := by decide +kernel
def g__law_drawn (p : Addr) : Env → (Out → Prop) → Prop := (qSeq (qS (cSet 2 (eFz (fLc (iRg1 (eCall gLen (aCons (eVar 1) aNil))) (.one 3) (List.map (·.2) ([("_law_k", 3)] : List (PySem.Str × Nat))) (bOf (eOp (gI fun i j => decide (j < i)) (eOp gIx (eVar 1) (eVar 3)) (eC (.int 1)))) (eOp gAdd (eVar 3) (eC (.int 1))))))) (qSeq (qS (cIf (bOf (eOp gEq (eCall gLen (aCons (eVar 2) aNil)) (eC (.int 0)))) (cRet (eC (.int 0))) cNext)) (qRet (qOp gIx (qE (eVar 2)) (qCall p F__law_take (qCons (qE (eCall gLen (aCons (eVar 2) aNil))) qNil))))))
def F__law_drawn : List D → (D → Prop) → Prop := runN 4 1 g__law_drawn
theorem len__law_drawn : ∀ ds K, F__law_drawn ds K → ds.length = 1 := runN_len
theorem b__law_drawn {M : Md} (B : Blt M.mg) (C__law_take : CalN M 1 "_law_take" 1 F__law_take) : BodyN M 1 N__law_drawn "_law_drawn" (topS 80) g__law_drawn := fun T p q cs f cdv A outer s H E hT hh hc4 hr =>
  (ns_cons (ns_of (ss_setLc (i := 2) (own := [("_law_k", 3)]) (by decide) rfl nd__law_drawn rfl rfl rfl (si_rg1 rfl B.range (se_callB cd_len rfl B.len bt_len (sa_cons (se_var (i := 1)) sa_nil))) (blkOk_by (show blkC N__law_drawn (defScope (topS 80)) _ _ = true by decide +kernel)) (fun s H C cl fp => (pg_name (i := 3) nd__law_drawn rfl (by first | exact Or.inl rfl | exact Or.inr rfl))) (fun s H C cl fp => (sts_one (st_cmp od_gt (se_ix ix_any (se_var (i := 1)) (se_var (i := 3))) se_int))) (fun s H C cl fp => (se_op od_add (se_var (i := 3)) se_int)))) (ns_cons (ns_of (ss_if (st_cmp od_eq (se_callB cd_len rfl B.len bt_len (sa_cons (se_var (i := 2)) sa_nil)) se_int) (ss_one (ss_ret se_int)) ss_nil)) (ns_one (ns_ret (ne_ix ix_any (ne_of (se_var (i := 2))) (ne_call C__law_take hT hh hc4 rfl (hr.mono (by decide)) rfl len__law_take rfl (by first | exact Or.inl rfl | exact Or.inr (Or.inl rfl) | exact Or.inr (Or.inr rfl)) (na_cons (ne_of (se_callB cd_len rfl B.len bt_len (sa_cons (se_var (i := 2)) sa_nil))) na_nil)))))))
theorem c__law_drawn {M : Md} (B : Blt M.mg) (h : DefAt M "_law_drawn" (topS 80) ["_law_hand_here", "_law_counts"]) (C__law_take : CalN M 1 "_law_take" 1 F__law_take) : CalN M 2 "_law_drawn" 1 F__law_drawn := calN_of h ⟨rfl, rfl, rfl, nd__law_drawn, rfl, by decide +kernel, by decide +kernel⟩ rfl (b__law_drawn B C__law_take)
abbrev N__law_about : List PySem.Str := ["_law_hand_here", "_law_tree", "_law_roof", "_law_pairs", "_law_k", "_law_bounds"]
theorem nd__law_about : N__law_about.Nodup := by decide +kernel
def g__law_about (p : Addr) : Env → (Out → Prop) → Prop := (qSeq (qSet 4 (qCall p F__law_take (qCons (qE (eOp gAdd (eCall gLen (aCons (eVar 3) aNil)) (eC (.int 1)))) qNil))) (qSeq (qS (cSet 5 (eTup (aSz (aCons (eVar 2) (aCons (eCall gTupl (aCons (eFz (eOpL gCat (eFz (lSl (eVar 3) (oYes (eVar 4)) oNo)) (eFz (lSl (eVar 3) oNo (oYes (eVar 4)))))) aNil)) aNil)))))) (qS (cRet (eCall F__law_same (aCons (eCall F_can_keep (aCons (eVar 1) (aCons (eVar 5) aNil))) (aCons (eOp (gI fun i j => decide (i ≤ j)) (eCall F__law_tops (aCons (eVar 1) (aCons (eVar 5) aNil))) (eVar 2)) aNil)))))))
def F__law_about : List D → (D → Prop) → Prop := runN 6 3 g__law_about
theorem len__law_about : ∀ ds K, F__law_about ds K → ds.length = 3 := runN_len
theorem b__law_about {M : Md} (B : Blt M.mg) (C__law_tops : Cal M 3 "_law_tops" 2 F__law_tops) (C_can_keep : Cal M 10 "can_keep" 2 F_can_keep) (C__law_same : Cal M 5 "_law_same" 2 F__law_same) (C__law_take : CalN M 1 "_law_take" 1 F__law_take) : BodyN M 10 N__law_about "_law_about" (topS 81) g__law_about := fun T p q cs f cdv A outer s H E hT hh hc4 hr =>
  (ns_cons (ns_set (i := 4) nd__law_about rfl (by first | exact Or.inl rfl | exact Or.inr rfl) (ne_call C__law_take hT hh hc4 rfl (hr.mono (by decide)) rfl len__law_take rfl (by first | exact Or.inl rfl | exact Or.inr (Or.inl rfl) | exact Or.inr (Or.inr rfl)) (na_cons (ne_of (se_op od_add (se_callB cd_len rfl B.len bt_len (sa_cons (se_var (i := 3)) sa_nil)) se_int)) na_nil))) (ns_cons (ns_of (ss_set (i := 5) nd__law_about rfl (by first | exact Or.inl rfl | exact Or.inr rfl) (se_tup (sa_cons (se_var (i := 2)) (sa_cons (se_callTy cd_tuple rfl B.tuple bt_tuple (sa_cons (se_fz (sl_op ol_cat (se_fz (sl_sl (se_var (i := 3)) (so_some (se_var (i := 4))) so_none)) (se_fz (sl_sl (se_var (i := 3)) so_none (so_some (se_var (i := 4))))))) sa_nil)) sa_nil))))) (ns_one (ns_of (ss_ret (se_call C__law_same hT rfl (hr.mono (by decide)) rfl (sa_cons (se_call C_can_keep hT rfl (hr.mono (by decide)) rfl (sa_cons (se_var (i := 1)) (sa_cons (se_var (i := 5)) sa_nil))) (sa_cons (se_cmp od_le (se_call C__law_tops hT rfl (hr.mono (by decide)) rfl (sa_cons (se_var (i := 1)) (sa_cons (se_var (i := 5)) sa_nil))) (se_var (i := 2))) sa_nil))))))))
theorem c__law_about {M : Md} (B : Blt M.mg) (h : DefAt M "_law_about" (topS 81) ["_law_hand_here", "_law_tree", "_law_roof", "_law_pairs"]) (C__law_tops : Cal M 3 "_law_tops" 2 F__law_tops) (C_can_keep : Cal M 10 "can_keep" 2 F_can_keep) (C__law_same : Cal M 5 "_law_same" 2 F__law_same) (C__law_take : CalN M 1 "_law_take" 1 F__law_take) : CalN M 11 "_law_about" 3 F__law_about := calN_of h ⟨rfl, rfl, rfl, nd__law_about, rfl, by decide +kernel, by decide +kernel⟩ rfl (b__law_about B C__law_tops C_can_keep C__law_same C__law_take)
abbrev N__law_widths : List PySem.Str := ["_law_hand_here", "_law_tree", "_law_far", "_law_due", "_law_bases", "_law_counts", "_law_pairs", "_law_bounds", "_law_found", "_law_v", "_law_tight", "_law_k"]
theorem nd__law_widths : N__law_widths.Nodup := by decide +kernel
def g__law_widths (p : Addr) : Env → (Out → Prop) → Prop := (qSeq (qS (cSet 3 (eCall F__law_sorted (aCons (eCall gLen (aCons (eVar 1) aNil)) (aCons (eVar 2) aNil))))) (qSeq (qS (cIf (bOr (bNot (bOf (eCall F__law_same (aCons (eCall F_sorted_least (aCons (eCall gLen (aCons (eVar 1) aNil)) (aCons (eVar 2) aNil))) (aCons (eCall gTupl (aCons (eVar 3) aNil)) aNil))))) (bNot (bOf (eCall F__law_same (aCons (eCall F_least_sum (aCons (eCall gLen (aCons (eVar 1) aNil)) (aCons (eVar 2) aNil))) (aCons (eCall gSum (aCons (eVar 3) aNil)) aNil)))))) (cRet (eC (.bl false))) cNext)) (qSeq (qS (cIf (bNot (bOf (eCall F__law_same (aCons (eCall F_least_greatest (aCons (eCall gLen (aCons (eVar 1) aNil)) (aCons (eVar 2) aNil))) (aCons (eCall gMax (aCons (eFz (eOpL gCat (eFz (aSz (aCons (eC (.int 0)) aNil))) (eVar 3))) aNil)) aNil))))) (cRet (eC (.bl false))) cNext)) (qSeq (qS (cSet 4 (eCall F_best_plan (aCons (eCall gLen (aCons (eVar 1) aNil)) (aCons (eVar 2) aNil))))) (qSeq (qS (cIf (bOr (bNot (bOf (eCall F__law_is_plan (aCons (eVar 4) (aCons (eCall gLen (aCons (eVar 1) aNil)) aNil))))) (bOf (eOp (gI fun i j => decide (j < i)) (eCall gMax (aCons (eFz (eOpL gCat (eFz (aSz (aCons (eC (.int 0)) aNil))) (eCall F__law_reading (aCons (eVar 4) aNil)))) aNil)) (eVar 2)))) (cRet (eC (.bl false))) cNext)) (qSeq (qS (cSet 5 (eCall F__law_writing (aCons (eVar 4) aNil)))) (qSeq (qS (cIf (bOf (eOp gNeL (eFz (eCallL gSorted (aCons (eVar 5) aNil))) (eVar 3))) (cRet (eC (.bl false))) cNext)) (qSeq (qS (cSet 6 (eFz (fLc (iLstD (eVar 5)) (.one 11) (List.map (·.2) ([("_law_k", 11)] : List (PySem.Str × Nat))) bYes (eTup (aSz (aCons (eVar 11) (aCons (eVar 2) aNil)))))))) (qSeq (qS (cSet 7 (eTup (aSz (aCons (eVar 2) (aCons (eCall gTupl (aCons (eVar 6) aNil)) aNil)))))) (qSeq (qS (cIf (bOr (bNot (bOf (eCall F__law_same (aCons (eCall F_can_keep (aCons (eVar 1) (aCons (eVar 7) aNil))) (aCons (eC (.bl true)) aNil))))) (bNot (bOf (eCall F__law_same (aCons (eCall F_top_of (aCons (eVar 1) (aCons (eVar 7) aNil))) (aCons (eCall F__law_tops (aCons (eVar 1) (aCons (eVar 7) aNil))) aNil)))))) (cRet (eC (.bl false))) cNext)) (qSeq (qS (cSet 8 (eCall F_plan_for (aCons (eVar 1) (aCons (eVar 7) aNil))))) (qSeq (qS (cIf (bOr (bNot (bOf (eCall F__law_is_plan (aCons (eVar 8) (aCons (eCall gLen (aCons (eVar 1) aNil)) aNil))))) (bOf (eOp gNeL (eCall F__law_writing (aCons (eVar 8) aNil)) (eVar 5)))) (cRet (eC (.bl false))) cNext)) (qSeq (qIf (qOr (qB (bOf (eOp (gI fun i j => decide (j < i)) (eCall gMax (aCons (eFz (eOpL gCat (eFz (aSz (aCons (eC (.int 0)) aNil))) (eCall F__law_reading (aCons (eVar 8) aNil)))) aNil)) (eVar 2)))) (qNot (qBOf (qCall p F__law_about (qCons (qE (eVar 1)) (qCons (qE (eVar 2)) (qCons (qE (eVar 6)) qNil))))))) (qS (cRet (eC (.bl false)))) (qS cNext)) (qSeq (qSet 9 (qCall p F__law_drawn (qCons (qE (eVar 5)) qNil))) (qSeq (qS (cIf (bOf (eOp gEq (eVar 9) (eC (.int 0)))) (cRet (eC (.bl true))) cNext)) (qSeq (qS (cSet 10 (eCall F_one_bound (aCons (eVar 1) (aCons (eVar 7) (aCons (eVar 9) (aCons (eOp gSub (eOp gIx (eVar 5) (eOp gSub (eVar 9) (eC (.int 1)))) (eC (.int 1))) (aCons (eVar 2) aNil)))))))) (qSeq (qS (cIf (bNot (bOf (eCall F__law_same (aCons (eVar 10) (aCons (eTup (aSz (aCons (eVar 2) (aCons (eCall gTupl (aCons (eFz (eOpL gCat (eFz (eOpL gCat (eFz (lSl (eVar 6) oNo (oYes (eOp gSub (eVar 9) (eC (.int 1)))))) (eFz (aSz (aCons (eTup (aSz (aCons (eOp gSub (eOp gIx (eVar 5) (eOp gSub (eVar 9) (eC (.int 1)))) (eC (.int 1))) (aCons (eVar 2) aNil)))) aNil))))) (eFz (lSl (eVar 6) (oYes (eVar 9)) oNo)))) aNil)) aNil)))) aNil))))) (cRet (eC (.bl false))) cNext)) (qS (cRet (eAnd (eCall F__law_refused (aCons (eVar 1) (aCons (eVar 10) aNil))) (eCall F__law_same (aCons (eCall F_lifted_width (aCons (eVar 1) (aCons (eVar 10) (aCons (eVar 9) aNil)))) (aCons (eOp gIx (eVar 5) (eOp gSub (eVar 9) (eC (.int 1)))) aNil)))))))))))))))))))))))
def F__law_widths : List D → (D → Prop) → Prop := runN 12 2 g__law_widths
theorem len__law_widths : ∀ ds K, F__law_widths ds K → ds.length = 2 := runN_len
theorem b__law_widths {M : Md} (B : Blt M.mg) (C__law_refused : Cal M 12 "_law_refused" 2 F__law_refused) (C_lifted_width : Cal M 13 "lifted_width" 3 F_lifted_width) (C__law_same : Cal M 5 "_law_same" 2 F__law_same) (C_one_bound : Cal M 6 "one_bound" 5 F_one_bound) (C__law_reading : Cal M 1 "_law_reading" 1 F__law_reading) (C__law_is_plan : Cal M 1 "_law_is_plan" 2 F__law_is_plan) (C__law_writing : Cal M 1 "_law_writing" 1 F__law_writing) (C_plan_for : Cal M 11 "plan_for" 2 F_plan_for) (C_can_keep : Cal M 10 "can_keep" 2 F_can_keep) (C__law_tops : Cal M 3 "_law_tops" 2 F__law_tops) (C_top_of : Cal M 10 "top_of" 2 F_top_of) (C_least_greatest : Cal M 4 "least_greatest" 2 F_least_greatest) (C_sorted_least : Cal M 4 "sorted_least" 2 F_sorted_least) (C_least_sum : Cal M 5 "least_sum" 2 F_least_sum) (C__law_sorted : Cal M 2 "_law_sorted" 2 F__law_sorted) (K_best_plan : CalK M 38 "best_plan" "reach" F_best_plan) (C__law_drawn : CalN M 2 "_law_drawn" 1 F__law_drawn) (C__law_about : CalN M 11 "_law_about" 3 F__law_about) : BodyN M 38 N__law_widths "_law_widths" (topS 82) g__law_widths := fun T p q cs f cdv A outer s H E hT hh hc4 hr =>
  (ns_cons (ns_of (ss_set (i := 3) nd__law_widths rfl (by first | exact Or.inl rfl | exact Or.inr rfl) (se_call C__law_sorted hT rfl (hr.mono (by decide)) rfl (sa_cons (se_callB cd_len rfl B.len bt_len (sa_cons (se_var (i := 1)) sa_nil)) (sa_cons (se_var (i := 2)) sa_nil))))) (ns_cons (ns_of (ss_if (st_pw (sw_or (st_not (st_val (se_call C__law_same hT rfl (hr.mono (by decide)) rfl (sa_cons (se_call C_sorted_least hT rfl (hr.mono (by decide)) rfl (sa_cons (se_callB cd_len rfl B.len bt_len (sa_cons (se_var (i := 1)) sa_nil)) (sa_cons (se_var (i := 2)) sa_nil))) (sa_cons (se_callTy cd_tuple rfl B.tuple bt_tuple (sa_cons (se_var (i := 3)) sa_nil)) sa_nil))))) (sw_or1 (st_not (st_val (se_call C__law_same hT rfl (hr.mono (by decide)) rfl (sa_cons (se_call C_least_sum hT rfl (hr.mono (by decide)) rfl (sa_cons (se_callB cd_len rfl B.len bt_len (sa_cons (se_var (i := 1)) sa_nil)) (sa_cons (se_var (i := 2)) sa_nil))) (sa_cons (se_callB (cd_sum rfl) rfl B.sum bt_sum (sa_cons (se_var (i := 3)) sa_nil)) sa_nil)))))))) (ss_one (ss_ret se_bl)) ss_nil)) (ns_cons (ns_of (ss_if (st_not (st_val (se_call C__law_same hT rfl (hr.mono (by decide)) rfl (sa_cons (se_call C_least_greatest hT rfl (hr.mono (by decide)) rfl (sa_cons (se_callB cd_len rfl B.len bt_len (sa_cons (se_var (i := 1)) sa_nil)) (sa_cons (se_var (i := 2)) sa_nil))) (sa_cons (se_callB (cd_max rfl) rfl B.max bt_max (sa_cons (se_fz (sl_op ol_cat (se_fz (sl_lst (sa_cons se_int sa_nil))) (se_var (i := 3)))) sa_nil)) sa_nil))))) (ss_one (ss_ret se_bl)) ss_nil)) (ns_cons (ns_of (ss_set (i := 4) nd__law_widths rfl (by first | exact Or.inl rfl | exact Or.inr rfl) (se_callK K_best_plan hT rfl (hr.mono (by decide)) rfl (se_callB cd_len rfl B.len bt_len (sa_cons (se_var (i := 1)) sa_nil)) (se_var (i := 2))))) (ns_cons (ns_of (ss_if (st_pw (sw_or (st_not (st_val (se_call C__law_is_plan hT rfl (hr.mono (by decide)) rfl (sa_cons (se_var (i := 4)) (sa_cons (se_callB cd_len rfl B.len bt_len (sa_cons (se_var (i := 1)) sa_nil)) sa_nil))))) (sw_or1 (st_cmp od_gt (se_callB (cd_max rfl) rfl B.max bt_max (sa_cons (se_fz (sl_op ol_cat (se_fz (sl_lst (sa_cons se_int sa_nil))) (se_call C__law_reading hT rfl (hr.mono (by decide)) rfl (sa_cons (se_var (i := 4)) sa_nil)))) sa_nil)) (se_var (i := 2)))))) (ss_one (ss_ret se_bl)) ss_nil)) (ns_cons (ns_of (ss_set (i := 5) nd__law_widths rfl (by first | exact Or.inl rfl | exact Or.inr rfl) (se_call C__law_writing hT rfl (hr.mono (by decide)) rfl (sa_cons (se_var (i := 4)) sa_nil)))) (ns_cons (ns_of (ss_if (st_cmp (od_neL hr.units) (se_fz (sl_callB cl_sorted rfl B.sorted bt_sorted (sa_cons (se_var (i := 5)) sa_nil))) (se_var (i := 3))) (ss_one (ss_ret se_bl)) ss_nil)) (ns_cons (ns_of (ss_setLc (i := 6) (own := [("_law_k", 11)]) (by decide) rfl nd__law_widths rfl rfl rfl (si_lst (se_var (i := 5))) (blkOk_by (show blkC N__law_widths (defScope (topS 82)) _ _ = true by decide +kernel)) (fun s H C cl fp => (pg_name (i := 11) nd__law_widths rfl (by first | exact Or.inl rfl | exact Or.inr rfl))) (fun s H C cl fp => sts_nil) (fun s H C cl fp => (se_tup (sa_cons (se_var (i := 11)) (sa_cons (se_var (i := 2)) sa_nil)))))) (ns_cons (ns_of (ss_set (i := 7) nd__law_widths rfl (by first | exact Or.inl rfl | exact Or.inr rfl) (se_tup (sa_cons (se_var (i := 2)) (sa_cons (se_callTy cd_tuple rfl B.tuple bt_tuple (sa_cons (se_var (i := 6)) sa_nil)) sa_nil))))) (ns_cons (ns_of (ss_if (st_pw (sw_or (st_not (st_val (se_call C__law_same hT rfl (hr.mono (by decide)) rfl (sa_cons (se_call C_can_keep hT rfl (hr.mono (by decide)) rfl (sa_cons (se_var (i := 1)) (sa_cons (se_var (i := 7)) sa_nil))) (sa_cons se_bl sa_nil))))) (sw_or1 (st_not (st_val (se_call C__law_same hT rfl (hr.mono (by decide)) rfl (sa_cons (se_call C_top_of hT rfl (hr.mono (by decide)) rfl (sa_cons (se_var (i := 1)) (sa_cons (se_var (i := 7)) sa_nil))) (sa_cons (se_call C__law_tops hT rfl (hr.mono (by decide)) rfl (sa_cons (se_var (i := 1)) (sa_cons (se_var (i := 7)) sa_nil))) sa_nil)))))))) (ss_one (ss_ret se_bl)) ss_nil)) (ns_cons (ns_of (ss_set (i := 8) nd__law_widths rfl (by first | exact Or.inl rfl | exact Or.inr rfl) (se_call C_plan_for hT rfl (hr.mono (by decide)) rfl (sa_cons (se_var (i := 1)) (sa_cons (se_var (i := 7)) sa_nil))))) (ns_cons (ns_of (ss_if (st_pw (sw_or (st_not (st_val (se_call C__law_is_plan hT rfl (hr.mono (by decide)) rfl (sa_cons (se_var (i := 8)) (sa_cons (se_callB cd_len rfl B.len bt_len (sa_cons (se_var (i := 1)) sa_nil)) sa_nil))))) (sw_or1 (st_cmp (od_neL hr.units) (se_call C__law_writing hT rfl (hr.mono (by decide)) rfl (sa_cons (se_var (i := 8)) sa_nil)) (se_var (i := 5)))))) (ss_one (ss_ret se_bl)) ss_nil)) (ns_cons (ns_if (nt_pw (nw_or (nt_of (st_cmp od_gt (se_callB (cd_max rfl) rfl B.max bt_max (sa_cons (se_fz (sl_op ol_cat (se_fz (sl_lst (sa_cons se_int sa_nil))) (se_call C__law_reading hT rfl (hr.mono (by decide)) rfl (sa_cons (se_var (i := 8)) sa_nil)))) sa_nil)) (se_var (i := 2)))) (nw_or1 (nt_not (nt_val (ne_call C__law_about hT hh hc4 rfl (hr.mono (by decide)) rfl len__law_about rfl (by first | exact Or.inl rfl | exact Or.inr (Or.inl rfl) | exact Or.inr (Or.inr rfl)) (na_cons (ne_of (se_var (i := 1))) (na_cons (ne_of (se_var (i := 2))) (na_cons (ne_of (se_var (i := 6))) na_nil))))))))) (nss_of (ss_one (ss_ret se_bl))) (nss_of ss_nil)) (ns_cons (ns_set (i := 9) nd__law_widths rfl (by first | exact Or.inl rfl | exact Or.inr rfl) (ne_call C__law_drawn hT hh hc4 rfl (hr.mono (by decide)) rfl len__law_drawn rfl (by first | exact Or.inl rfl | exact Or.inr (Or.inl rfl) | exact Or.inr (Or.inr rfl)) (na_cons (ne_of (se_var (i := 5))) na_nil))) (ns_cons (ns_of (ss_if (st_cmp od_eq (se_var (i := 9)) se_int) (ss_one (ss_ret se_bl)) ss_nil)) (ns_cons (ns_of (ss_set (i := 10) nd__law_widths rfl (by first | exact Or.inl rfl | exact Or.inr rfl) (se_call C_one_bound hT rfl (hr.mono (by decide)) rfl (sa_cons (se_var (i := 1)) (sa_cons (se_var (i := 7)) (sa_cons (se_var (i := 9)) (sa_cons (se_op od_sub (se_ix ix_any (se_var (i := 5)) (se_op od_sub (se_var (i := 9)) se_int)) se_int) (sa_cons (se_var (i := 2)) sa_nil)))))))) (ns_cons (ns_of (ss_if (st_not (st_val (se_call C__law_same hT rfl (hr.mono (by decide)) rfl (sa_cons (se_var (i := 10)) (sa_cons (se_tup (sa_cons (se_var (i := 2)) (sa_cons (se_callTy cd_tuple rfl B.tuple bt_tuple (sa_cons (se_fz (sl_op ol_cat (se_fz (sl_op ol_cat (se_fz (sl_sl (se_var (i := 6)) so_none (so_some (se_op od_sub (se_var (i := 9)) se_int)))) (se_fz (sl_lst (sa_cons (se_tup (sa_cons (se_op od_sub (se_ix ix_any (se_var (i := 5)) (se_op od_sub (se_var (i := 9)) se_int)) se_int) (sa_cons (se_var (i := 2)) sa_nil))) sa_nil))))) (se_fz (sl_sl (se_var (i := 6)) (so_some (se_var (i := 9))) so_none)))) sa_nil)) sa_nil))) sa_nil))))) (ss_one (ss_ret se_bl)) ss_nil)) (ns_one (ns_of (ss_ret (se_and (se_call C__law_refused hT rfl (hr.mono (by decide)) rfl (sa_cons (se_var (i := 1)) (sa_cons (se_var (i := 10)) sa_nil))) (se_one (se_call C__law_same hT rfl (hr.mono (by decide)) rfl (sa_cons (se_call C_lifted_width hT rfl (hr.mono (by decide)) rfl (sa_cons (se_var (i := 1)) (sa_cons (se_var (i := 10)) (sa_cons (se_var (i := 9)) sa_nil)))) (sa_cons (se_ix ix_any (se_var (i := 5)) (se_op od_sub (se_var (i := 9)) se_int)) sa_nil)))))))))))))))))))))))))
theorem c__law_widths {M : Md} (B : Blt M.mg) (h : DefAt M "_law_widths" (topS 82) ["_law_hand_here", "_law_tree", "_law_far"]) (C__law_refused : Cal M 12 "_law_refused" 2 F__law_refused) (C_lifted_width : Cal M 13 "lifted_width" 3 F_lifted_width) (C__law_same : Cal M 5 "_law_same" 2 F__law_same) (C_one_bound : Cal M 6 "one_bound" 5 F_one_bound) (C__law_reading : Cal M 1 "_law_reading" 1 F__law_reading) (C__law_is_plan : Cal M 1 "_law_is_plan" 2 F__law_is_plan) (C__law_writing : Cal M 1 "_law_writing" 1 F__law_writing) (C_plan_for : Cal M 11 "plan_for" 2 F_plan_for) (C_can_keep : Cal M 10 "can_keep" 2 F_can_keep) (C__law_tops : Cal M 3 "_law_tops" 2 F__law_tops) (C_top_of : Cal M 10 "top_of" 2 F_top_of) (C_least_greatest : Cal M 4 "least_greatest" 2 F_least_greatest) (C_sorted_least : Cal M 4 "sorted_least" 2 F_sorted_least) (C_least_sum : Cal M 5 "least_sum" 2 F_least_sum) (C__law_sorted : Cal M 2 "_law_sorted" 2 F__law_sorted) (K_best_plan : CalK M 38 "best_plan" "reach" F_best_plan) (C__law_drawn : CalN M 2 "_law_drawn" 1 F__law_drawn) (C__law_about : CalN M 11 "_law_about" 3 F__law_about) : CalN M 39 "_law_widths" 2 F__law_widths := calN_of h ⟨rfl, rfl, rfl, nd__law_widths, rfl, by decide +kernel, by decide +kernel⟩ rfl (b__law_widths B C__law_refused C_lifted_width C__law_same C_one_bound C__law_reading C__law_is_plan C__law_writing C_plan_for C_can_keep C__law_tops C_top_of C_least_greatest C_sorted_least C_least_sum C__law_sorted K_best_plan C__law_drawn C__law_about)
abbrev N__law_reaches : List PySem.Str := ["_law_hand_here", "_law_tree", "_law_wide", "_law_due", "_law_bases", "_law_counts", "_law_roof", "_law_pairs", "_law_bounds", "_law_found", "_law_v", "_law_tight", "_law_k"]
theorem nd__law_reaches : N__law_reaches.Nodup := by decide +kernel
def g__law_reaches (p : Addr) : Env → (Out → Prop) → Prop := (qSeq (qS (cSet 3 (eCall F__law_sorted (aCons (eCall gLen (aCons (eVar 1) aNil)) (aCons (eVar 2) aNil))))) (qSeq (qS (cSet 4 (eCall F_best_for_writes (aCons (eCall gLen (aCons (eVar 1) aNil)) (aCons (eVar 2) aNil))))) (qSeq (qS (cIf (bOr (bNot (bOf (eCall F__law_is_plan (aCons (eVar 4) (aCons (eCall gLen (aCons (eVar 1) aNil)) aNil))))) (bOf (eOp (gI fun i j => decide (j < i)) (eCall gMax (aCons (eFz (eOpL gCat (eFz (aSz (aCons (eC (.int 0)) aNil))) (eCall F__law_writing (aCons (eVar 4) aNil)))) aNil)) (eVar 2)))) (cRet (eC (.bl false))) cNext)) (qSeq (qS (cSet 5 (eCall F__law_reading (aCons (eVar 4) aNil)))) (qSeq (qS (cIf (bOf (eOp gNeL (eFz (eCallL gSorted (aCons (eVar 5) aNil))) (eVar 3))) (cRet (eC (.bl false))) cNext)) (qSeq (qSet 6 (qOp gAdd (qE (eCall gMax (aCons (eFz (eOpL gCat (eFz (aSz (aCons (eC (.int 1)) aNil))) (eVar 5))) aNil))) (qCall p F__law_take (qCons (qE (eC (.int 2))) qNil)))) (qSeq (qS (cSet 7 (eFz (fLc (iLstD (eVar 5)) (.one 12) (List.map (·.2) ([("_law_k", 12)] : List (PySem.Str × Nat))) bYes (eTup (aSz (aCons (eVar 2) (aCons (eVar 12) aNil)))))))) (qSeq (qS (cSet 8 (eTup (aSz (aCons (eVar 6) (aCons (eCall gTupl (aCons (eVar 7) aNil)) aNil)))))) (qSeq (qS (cIf (bOr (bNot (bOf (eCall F__law_same (aCons (eCall F_can_keep (aCons (eVar 1) (aCons (eVar 8) aNil))) (aCons (eC (.bl true)) aNil))))) (bNot (bOf (eCall F__law_same (aCons (eCall F_top_of (aCons (eVar 1) (aCons (eVar 8) aNil))) (aCons (eCall F__law_tops (aCons (eVar 1) (aCons (eVar 8) aNil))) aNil)))))) (cRet (eC (.bl false))) cNext)) (qSeq (qS (cSet 9 (eCall F_plan_for (aCons (eVar 1) (aCons (eVar 8) aNil))))) (qSeq (qS (cIf (bOr (bNot (bOf (eCall F__law_is_plan (aCons (eVar 9) (aCons (eCall gLen (aCons (eVar 1) aNil)) aNil))))) (bOf (eOp gNeL (eCall F__law_reading (aCons (eVar 9) aNil)) (eVar 5)))) (cRet (eC (.bl false))) cNext)) (qSeq (qIf (qOr (qB (bOf (eOp (gI fun i j => decide (j < i)) (eCall gMax (aCons (eFz (eOpL gCat (eFz (aSz (aCons (eC (.int 0)) aNil))) (eCall F__law_writing (aCons (eVar 9) aNil)))) aNil)) (eVar 2)))) (qNot (qBOf (qCall p F__law_about (qCons (qE (eVar 1)) (qCons (qE (eVar 6)) (qCons (qE (eVar 7)) qNil))))))) (qS (cRet (eC (.bl false)))) (qS cNext)) (qSeq (qSet 10 (qCall p F__law_drawn (qCons (qE (eVar 5)) qNil))) (qSeq (qS (cIf (bOf (eOp gEq (eVar 10) (eC (.int 0)))) (cRet (eC (.bl true))) cNext)) (qSeq (qS (cSet 11 (eCall F_one_bound (aCons (eVar 1) (aCons (eVar 8) (aCons (eVar 10) (aCons (eVar 2) (aCons (eOp gSub (eOp gIx (eVar 5) (eOp gSub (eVar 10) (eC (.int 1)))) (eC (.int 1))) aNil)))))))) (qSeq (qS (cIf (bNot (bOf (eCall F__law_same (aCons (eVar 11) (aCons (eTup (aSz (aCons (eVar 6) (aCons (eCall gTupl (aCons (eFz (eOpL gCat (eFz (eOpL gCat (eFz (lSl (eVar 7) oNo (oYes (eOp gSub (eVar 10) (eC (.int 1)))))) (eFz (aSz (aCons (eTup (aSz (aCons (eVar 2) (aCons (eOp gSub (eOp gIx (eVar 5) (eOp gSub (eVar 10) (eC (.int 1)))) (eC (.int 1))) aNil)))) aNil))))) (eFz (lSl (eVar 7) (oYes (eVar 10)) oNo)))) aNil)) aNil)))) aNil))))) (cRet (eC (.bl false))) cNext)) (qS (cRet (eAnd (eCall F__law_refused (aCons (eVar 1) (aCons (eVar 11) aNil))) (eCall F__law_same (aCons (eCall F_lifted_reach (aCons (eVar 1) (aCons (eVar 11) (aCons (eVar 10) aNil)))) (aCons (eOp gIx (eVar 5) (eOp gSub (eVar 10) (eC (.int 1)))) aNil))))))))))))))))))))))
def F__law_reaches : List D → (D → Prop) → Prop := runN 13 2 g__law_reaches
theorem len__law_reaches : ∀ ds K, F__law_reaches ds K → ds.length = 2 := runN_len
theorem b__law_reaches {M : Md} (B : Blt M.mg) (C__law_refused : Cal M 12 "_law_refused" 2 F__law_refused) (C_lifted_reach : Cal M 13 "lifted_reach" 3 F_lifted_reach) (C__law_same : Cal M 5 "_law_same" 2 F__law_same) (C_one_bound : Cal M 6 "one_bound" 5 F_one_bound) (C__law_writing : Cal M 1 "_law_writing" 1 F__law_writing) (C__law_is_plan : Cal M 1 "_law_is_plan" 2 F__law_is_plan) (C__law_reading : Cal M 1 "_law_reading" 1 F__law_reading) (C_plan_for : Cal M 11 "plan_for" 2 F_plan_for) (C_can_keep : Cal M 10 "can_keep" 2 F_can_keep) (C__law_tops : Cal M 3 "_law_tops" 2 F__law_tops) (C_top_of : Cal M 10 "top_of" 2 F_top_of) (C__law_sorted : Cal M 2 "_law_sorted" 2 F__law_sorted) (K_best_for_writes : CalK M 39 "best_for_writes" "width" F_best_for_writes) (C__law_drawn : CalN M 2 "_law_drawn" 1 F__law_drawn) (C__law_about : CalN M 11 "_law_about" 3 F__law_about) (C__law_take : CalN M 1 "_law_take" 1 F__law_take) : BodyN M 39 N__law_reaches "_law_reaches" (topS 83) g__law_reaches := fun T p q cs f cdv A outer s H E hT hh hc4 hr =>
  (ns_cons (ns_of (ss_set (i := 3) nd__law_reaches rfl (by first | exact Or.inl rfl | exact Or.inr rfl) (se_call C__law_sorted hT rfl (hr.mono (by decide)) rfl (sa_cons (se_callB cd_len rfl B.len bt_len (sa_cons (se_var (i := 1)) sa_nil)) (sa_cons (se_var (i := 2)) sa_nil))))) (ns_cons (ns_of (ss_set (i := 4) nd__law_reaches rfl (by first | exact Or.inl rfl | exact Or.inr rfl) (se_callK K_best_for_writes hT rfl (hr.mono (by decide)) rfl (se_callB cd_len rfl B.len bt_len (sa_cons (se_var (i := 1)) sa_nil)) (se_var (i := 2))))) (ns_cons (ns_of (ss_if (st_pw (sw_or (st_not (st_val (se_call C__law_is_plan hT rfl (hr.mono (by decide)) rfl (sa_cons (se_var (i := 4)) (sa_cons (se_callB cd_len rfl B.len bt_len (sa_cons (se_var (i := 1)) sa_nil)) sa_nil))))) (sw_or1 (st_cmp od_gt (se_callB (cd_max rfl) rfl B.max bt_max (sa_cons (se_fz (sl_op ol_cat (se_fz (sl_lst (sa_cons se_int sa_nil))) (se_call C__law_writing hT rfl (hr.mono (by decide)) rfl (sa_cons (se_var (i := 4)) sa_nil)))) sa_nil)) (se_var (i := 2)))))) (ss_one (ss_ret se_bl)) ss_nil)) (ns_cons (ns_of (ss_set (i := 5) nd__law_reaches rfl (by first | exact Or.inl rfl | exact Or.inr rfl) (se_call C__law_reading hT rfl (hr.mono (by decide)) rfl (sa_cons (se_var (i := 4)) sa_nil)))) (ns_cons (ns_of (ss_if (st_cmp (od_neL hr.units) (se_fz (sl_callB cl_sorted rfl B.sorted bt_sorted (sa_cons (se_var (i := 5)) sa_nil))) (se_var (i := 3))) (ss_one (ss_ret se_bl)) ss_nil)) (ns_cons (ns_set (i := 6) nd__law_reaches rfl (by first | exact Or.inl rfl | exact Or.inr rfl) (ne_op od_add (ne_of (se_callB (cd_max rfl) rfl B.max bt_max (sa_cons (se_fz (sl_op ol_cat (se_fz (sl_lst (sa_cons se_int sa_nil))) (se_var (i := 5)))) sa_nil))) (ne_call C__law_take hT hh hc4 rfl (hr.mono (by decide)) rfl len__law_take rfl (by first | exact Or.inl rfl | exact Or.inr (Or.inl rfl) | exact Or.inr (Or.inr rfl)) (na_cons (ne_of se_int) na_nil)))) (ns_cons (ns_of (ss_setLc (i := 7) (own := [("_law_k", 12)]) (by decide) rfl nd__law_reaches rfl rfl rfl (si_lst (se_var (i := 5))) (blkOk_by (show blkC N__law_reaches (defScope (topS 83)) _ _ = true by decide +kernel)) (fun s H C cl fp => (pg_name (i := 12) nd__law_reaches rfl (by first | exact Or.inl rfl | exact Or.inr rfl))) (fun s H C cl fp => sts_nil) (fun s H C cl fp => (se_tup (sa_cons (se_var (i := 2)) (sa_cons (se_var (i := 12)) sa_nil)))))) (ns_cons (ns_of (ss_set (i := 8) nd__law_reaches rfl (by first | exact Or.inl rfl | exact Or.inr rfl) (se_tup (sa_cons (se_var (i := 6)) (sa_cons (se_callTy cd_tuple rfl B.tuple bt_tuple (sa_cons (se_var (i := 7)) sa_nil)) sa_nil))))) (ns_cons (ns_of (ss_if (st_pw (sw_or (st_not (st_val (se_call C__law_same hT rfl (hr.mono (by decide)) rfl (sa_cons (se_call C_can_keep hT rfl (hr.mono (by decide)) rfl (sa_cons (se_var (i := 1)) (sa_cons (se_var (i := 8)) sa_nil))) (sa_cons se_bl sa_nil))))) (sw_or1 (st_not (st_val (se_call C__law_same hT rfl (hr.mono (by decide)) rfl (sa_cons (se_call C_top_of hT rfl (hr.mono (by decide)) rfl (sa_cons (se_var (i := 1)) (sa_cons (se_var (i := 8)) sa_nil))) (sa_cons (se_call C__law_tops hT rfl (hr.mono (by decide)) rfl (sa_cons (se_var (i := 1)) (sa_cons (se_var (i := 8)) sa_nil))) sa_nil)))))))) (ss_one (ss_ret se_bl)) ss_nil)) (ns_cons (ns_of (ss_set (i := 9) nd__law_reaches rfl (by first | exact Or.inl rfl | exact Or.inr rfl) (se_call C_plan_for hT rfl (hr.mono (by decide)) rfl (sa_cons (se_var (i := 1)) (sa_cons (se_var (i := 8)) sa_nil))))) (ns_cons (ns_of (ss_if (st_pw (sw_or (st_not (st_val (se_call C__law_is_plan hT rfl (hr.mono (by decide)) rfl (sa_cons (se_var (i := 9)) (sa_cons (se_callB cd_len rfl B.len bt_len (sa_cons (se_var (i := 1)) sa_nil)) sa_nil))))) (sw_or1 (st_cmp (od_neL hr.units) (se_call C__law_reading hT rfl (hr.mono (by decide)) rfl (sa_cons (se_var (i := 9)) sa_nil)) (se_var (i := 5)))))) (ss_one (ss_ret se_bl)) ss_nil)) (ns_cons (ns_if (nt_pw (nw_or (nt_of (st_cmp od_gt (se_callB (cd_max rfl) rfl B.max bt_max (sa_cons (se_fz (sl_op ol_cat (se_fz (sl_lst (sa_cons se_int sa_nil))) (se_call C__law_writing hT rfl (hr.mono (by decide)) rfl (sa_cons (se_var (i := 9)) sa_nil)))) sa_nil)) (se_var (i := 2)))) (nw_or1 (nt_not (nt_val (ne_call C__law_about hT hh hc4 rfl (hr.mono (by decide)) rfl len__law_about rfl (by first | exact Or.inl rfl | exact Or.inr (Or.inl rfl) | exact Or.inr (Or.inr rfl)) (na_cons (ne_of (se_var (i := 1))) (na_cons (ne_of (se_var (i := 6))) (na_cons (ne_of (se_var (i := 7))) na_nil))))))))) (nss_of (ss_one (ss_ret se_bl))) (nss_of ss_nil)) (ns_cons (ns_set (i := 10) nd__law_reaches rfl (by first | exact Or.inl rfl | exact Or.inr rfl) (ne_call C__law_drawn hT hh hc4 rfl (hr.mono (by decide)) rfl len__law_drawn rfl (by first | exact Or.inl rfl | exact Or.inr (Or.inl rfl) | exact Or.inr (Or.inr rfl)) (na_cons (ne_of (se_var (i := 5))) na_nil))) (ns_cons (ns_of (ss_if (st_cmp od_eq (se_var (i := 10)) se_int) (ss_one (ss_ret se_bl)) ss_nil)) (ns_cons (ns_of (ss_set (i := 11) nd__law_reaches rfl (by first | exact Or.inl rfl | exact Or.inr rfl) (se_call C_one_bound hT rfl (hr.mono (by decide)) rfl (sa_cons (se_var (i := 1)) (sa_cons (se_var (i := 8)) (sa_cons (se_var (i := 10)) (sa_cons (se_var (i := 2)) (sa_cons (se_op od_sub (se_ix ix_any (se_var (i := 5)) (se_op od_sub (se_var (i := 10)) se_int)) se_int) sa_nil)))))))) (ns_cons (ns_of (ss_if (st_not (st_val (se_call C__law_same hT rfl (hr.mono (by decide)) rfl (sa_cons (se_var (i := 11)) (sa_cons (se_tup (sa_cons (se_var (i := 6)) (sa_cons (se_callTy cd_tuple rfl B.tuple bt_tuple (sa_cons (se_fz (sl_op ol_cat (se_fz (sl_op ol_cat (se_fz (sl_sl (se_var (i := 7)) so_none (so_some (se_op od_sub (se_var (i := 10)) se_int)))) (se_fz (sl_lst (sa_cons (se_tup (sa_cons (se_var (i := 2)) (sa_cons (se_op od_sub (se_ix ix_any (se_var (i := 5)) (se_op od_sub (se_var (i := 10)) se_int)) se_int) sa_nil))) sa_nil))))) (se_fz (sl_sl (se_var (i := 7)) (so_some (se_var (i := 10))) so_none)))) sa_nil)) sa_nil))) sa_nil))))) (ss_one (ss_ret se_bl)) ss_nil)) (ns_one (ns_of (ss_ret (se_and (se_call C__law_refused hT rfl (hr.mono (by decide)) rfl (sa_cons (se_var (i := 1)) (sa_cons (se_var (i := 11)) sa_nil))) (se_one (se_call C__law_same hT rfl (hr.mono (by decide)) rfl (sa_cons (se_call C_lifted_reach hT rfl (hr.mono (by decide)) rfl (sa_cons (se_var (i := 1)) (sa_cons (se_var (i := 11)) (sa_cons (se_var (i := 10)) sa_nil)))) (sa_cons (se_ix ix_any (se_var (i := 5)) (se_op od_sub (se_var (i := 10)) se_int)) sa_nil))))))))))))))))))))))))
theorem c__law_reaches {M : Md} (B : Blt M.mg) (h : DefAt M "_law_reaches" (topS 83) ["_law_hand_here", "_law_tree", "_law_wide"]) (C__law_refused : Cal M 12 "_law_refused" 2 F__law_refused) (C_lifted_reach : Cal M 13 "lifted_reach" 3 F_lifted_reach) (C__law_same : Cal M 5 "_law_same" 2 F__law_same) (C_one_bound : Cal M 6 "one_bound" 5 F_one_bound) (C__law_writing : Cal M 1 "_law_writing" 1 F__law_writing) (C__law_is_plan : Cal M 1 "_law_is_plan" 2 F__law_is_plan) (C__law_reading : Cal M 1 "_law_reading" 1 F__law_reading) (C_plan_for : Cal M 11 "plan_for" 2 F_plan_for) (C_can_keep : Cal M 10 "can_keep" 2 F_can_keep) (C__law_tops : Cal M 3 "_law_tops" 2 F__law_tops) (C_top_of : Cal M 10 "top_of" 2 F_top_of) (C__law_sorted : Cal M 2 "_law_sorted" 2 F__law_sorted) (K_best_for_writes : CalK M 39 "best_for_writes" "width" F_best_for_writes) (C__law_drawn : CalN M 2 "_law_drawn" 1 F__law_drawn) (C__law_about : CalN M 11 "_law_about" 3 F__law_about) (C__law_take : CalN M 1 "_law_take" 1 F__law_take) : CalN M 40 "_law_reaches" 2 F__law_reaches := calN_of h ⟨rfl, rfl, rfl, nd__law_reaches, rfl, by decide +kernel, by decide +kernel⟩ rfl (b__law_reaches B C__law_refused C_lifted_reach C__law_same C_one_bound C__law_writing C__law_is_plan C__law_reading C_plan_for C_can_keep C__law_tops C_top_of C__law_sorted K_best_for_writes C__law_drawn C__law_about C__law_take)
abbrev N__law_limit : List PySem.Str := ["_law_hand_here"]
theorem nd__law_limit : N__law_limit.Nodup := by decide +kernel
def g__law_limit (p : Addr) : Env → (Out → Prop) → Prop := (qSeq (qIf (qBOf (qOp gEq (qCall p F__law_take (qCons (qE (eC (.int 8))) qNil)) (qE (eC (.int 3))))) (qRet (qOp gAdd (qE (eC (.int 1))) (qCall p F__law_take (qCons (qE (eC (.int 12))) qNil)))) (qS cNext)) (qRet (qOp gAdd (qE (eC (.int 1))) (qCall p F__law_take (qCons (qE (eC (.int 4))) qNil)))))
def F__law_limit : List D → (D → Prop) → Prop := runN 1 0 g__law_limit
theorem len__law_limit : ∀ ds K, F__law_limit ds K → ds.length = 0 := runN_len
theorem b__law_limit {M : Md} (B : Blt M.mg) (C__law_take : CalN M 1 "_law_take" 1 F__law_take) : BodyN M 1 N__law_limit "_law_limit" (topS 84) g__law_limit := fun T p q cs f cdv A outer s H E hT hh hc4 hr =>
  (ns_cons (ns_if (nt_cmp od_eq (ne_call C__law_take hT hh hc4 rfl (hr.mono (by decide)) rfl len__law_take rfl (by first | exact Or.inl rfl | exact Or.inr (Or.inl rfl) | exact Or.inr (Or.inr rfl)) (na_cons (ne_of se_int) na_nil)) (ne_of se_int)) (ns_one (ns_ret (ne_op od_add (ne_of se_int) (ne_call C__law_take hT hh hc4 rfl (hr.mono (by decide)) rfl len__law_take rfl (by first | exact Or.inl rfl | exact Or.inr (Or.inl rfl) | exact Or.inr (Or.inr rfl)) (na_cons (ne_of se_int) na_nil))))) (nss_of ss_nil)) (ns_one (ns_ret (ne_op od_add (ne_of se_int) (ne_call C__law_take hT hh hc4 rfl (hr.mono (by decide)) rfl len__law_take rfl (by first | exact Or.inl rfl | exact Or.inr (Or.inl rfl) | exact Or.inr (Or.inr rfl)) (na_cons (ne_of se_int) na_nil))))))
theorem c__law_limit {M : Md} (B : Blt M.mg) (h : DefAt M "_law_limit" (topS 84) ["_law_hand_here"]) (C__law_take : CalN M 1 "_law_take" 1 F__law_take) : CalN M 2 "_law_limit" 0 F__law_limit := calN_of h ⟨rfl, rfl, rfl, nd__law_limit, rfl, by decide +kernel, by decide +kernel⟩ rfl (b__law_limit B C__law_take)
end DL

set_option Elab.async false
set_option linter.all false
set_option maxRecDepth 100000
set_option maxHeartbeats 4000000
namespace DL
open PySem PySem.Spec PyProof.Rows L2 LamX NdefX
/-! ### _law_take -/
/-- hand[k], hand the name at 0 -/
def tH (k : Nat) : TE := fun σ H Q => ∃ p xs v, σ[(0 : Nat)]? = some (some (.ref p)) ∧ H p = some (.lst xs) ∧ xs[k]? = some v ∧ Q v H
theorem pe_h {X : Cx} {k j : Nat} {x : PySem.Str} {p1 p2 p3 : Pos} (hN : X.N[(0 : Nat)]? = some x) (hv : Vis X.env.scope x) (hd : (x == ("__debug__" : PySem.Str)) = false := by decide) (hcd : (x == ("__classdict__" : PySem.Str)) = false := by decide) :
    PE X (.Subscript (.Name x p1) (.Constant (.int (k : Nat)) j p2) p3) (tH k) := peI (pe_ix ix_list (pe_var (i := 0) hN hv hd hcd) pe_int (fun _ _ => rfl)) fun σ H Q ⟨p, xs, v, h1, h2, h3, q⟩ => ⟨.ref p, h1, p, xs, (k : Nat), v, rfl, rfl, .inl (.inl h2), atI_nat h3, q⟩
theorem peMono {X : Cx} {e : Expr} {te : TE} (h : PE X e te) : PE X e (fun σ H Q => ∃ Q' : VK, te σ H Q' ∧ ∀ v H1, Q' v H1 → Q v H1) := ⟨fun pins s σ H Q I ⟨Q', q, w⟩ => thn (h.run pins s σ H Q' I q) fun v s1 ⟨x, H1, I1, r1, q1⟩ => ⟨x, H1, I1, r1, w x H1 q1⟩⟩
/-- hand[k] = e -/
def tHS (k : Nat) (te : TE) : TS := fun D σ H => te σ H fun v H1 => ∃ p xs, σ[(0 : Nat)]? = some (some (.ref p)) ∧ H1 p = some (.lst xs) ∧ k < xs.length ∧ D.nx σ (upd H1 p (.lst (xs.set k v)))
theorem ps_h {X : Cx} {k j : Nat} {x : PySem.Str} {e : Expr} {te : TE} {px pk spos pos : Pos} (hN : X.N[(0 : Nat)]? = some x) (hv : Vis X.env.scope x) (he : PE X e te) (hd : (x == ("__debug__" : PySem.Str)) = false := by decide) (hcd : (x == ("__classdict__" : PySem.Str)) = false := by decide)
    (ha : ∀ v, assign (.Subscript (.Name x px) (.Constant (.int (k : Nat)) j pk) spos) X.env v = (do
      let ov ← holding [v] (eval (.Name x px) X.env)
      let iv ← holding [v, ov] (eval (.Constant (.int (k : Nat)) j pk) X.env)
      standAt spos
      holding [v, ov, iv] (setItem ov iv v)
      release [v, ov, iv] []) := by intro _; rfl)
    (hs : swapsWithSole [.Subscript (.Name x px) (.Constant (.int (k : Nat)) j pk) spos] e pos.line X.env = pure false := by rfl) (hw : swappedStores [.Subscript (.Name x px) (.Constant (.int (k : Nat)) j pk) spos] e X.env = pure none := by rfl)
    (h1 : (assignEach [.Subscript (.Name x px) (.Constant (.int (k : Nat)) j pk) spos] X.env).map (·.2) = [assign (.Subscript (.Name x px) (.Constant (.int (k : Nat)) j pk) spos) X.env] := by rfl) :
    PS X (.Assign [.Subscript (.Name x px) (.Constant (.int (k : Nat)) j pk) spos] e pos) (tHS k te) := psI (ps_asg (peMono he) (pg_sub (pe_var (i := 0) hN hv hd hcd) pe_int set_list ha) hs hw h1) fun D σ H h => ⟨_, h, fun v H1 ⟨p, xs, e1, e2, e3, q⟩ => ⟨.ref p, e1, p, xs, (k : Nat), k, rfl, rfl, e2, ixN_of e3, q⟩⟩
abbrev N__law_take : List PySem.Str := ["_law_hand_here", "_law_many", "_law_cell", "_law_mixed", "_law_digit"]
theorem nd__law_take : N__law_take.Nodup := by decide +kernel
theorem bt_abs : bootBuiltins "abs" = some (.builtin "abs") := by decide +kernel
section
variable {X : Cx} {e : Expr} {te : TE} {p pos : Pos}
/-- int(e) of an int -/
def tInt (te : TE) : TE := fun σ H Q => te σ H fun v H1 => ∃ i, v = .int i ∧ Q (.int i) H1
theorem pe_int_ (hg : Gl X "int") (hm : X.mg "int" = none) (he : PE X e te) (hs : starEach (e :: []) X.env = (false, eval e X.env) :: starEach [] X.env := by rfl) : PE X (.Call (.Name "int" p) [e] [] pos) (tInt te) :=
  peI (pe_callTy call_int1 hg hm bt_int (pa_cons (peMono he) pa_nil hs) (by decide) (by decide) hs) fun σ H Q h => ⟨_, h, fun v H1 ⟨i, e1, q⟩ => .inl ⟨i, by rw [e1], q⟩⟩
def tAbs (te : TE) : TE := fun σ H Q => te σ H fun v H1 => ∃ i : Int, v = .int i ∧ Q (.int (if i < 0 then -i else i)) H1
theorem pe_abs_ (hg : Gl X "abs") (hm : X.mg "abs" = none) (he : PE X e te) (hs : starEach (e :: []) X.env = (false, eval e X.env) :: starEach [] X.env := by rfl) : PE X (.Call (.Name "abs" p) [e] [] pos) (tAbs te) :=
  peI (pe_callB call_abs hg hm bt_abs (pa_cons (peMono he) pa_nil hs) (by decide) (by decide) hs) fun σ H Q h => ⟨_, h, fun v H1 ⟨i, e1, q⟩ => ⟨i, by rw [e1], q⟩⟩
def tLenL (K : PySem.W.Frag) (te : TE) : TE := fun σ H Q => te σ H fun v H1 => ∃ p xs, v = .ref p ∧ H1 p = some (.lst xs) ∧ Q (.int xs.length) H1
theorem pe_len_ (hg : Gl X "len") (hm : X.mg "len" = none) (he : PE X e te) (hs : starEach (e :: []) X.env = (false, eval e X.env) :: starEach [] X.env := by rfl) : PE X (.Call (.Name "len" p) [e] [] pos) (tLenL X.K te) :=
  peI (pe_callB call_len_seq hg hm PySem.boot_len (pa_cons (peMono he) pa_nil hs) (by decide) (by decide) hs) fun σ H Q h => ⟨_, h, fun v H1 ⟨p, xs, e1, e2, q⟩ => ⟨p, xs, by rw [e1], .inl (.inl (.inl e2)), q⟩⟩
end
theorem pt_pw_ {X : Cx} {a : Expr} {t : TT} (h : PW X a t) : PT X a t := h.pt
theorem hand_fin {T : Tx} {S H H' : Hp} {p q : Addr} {cs : List Int} {i b g u : Int} {xs : List V} (hh : T.hand = some (p, q, cs)) (hs : HS T S) (c : Same S H) (t : Tb T H) (h0 : H p = some (.lst xs)) (hq : H q = some (.lst (cs.map V.int))) (hqp : q ≠ p)
    (h1 : ∀ x, x ≠ p → H' x = H x) (h2 : H' p = some (.lst [.ref q, .int i, .int b, .int g, .int u])) (hi : 0 ≤ i) (hb : 0 ≤ b) : Ext T S H S H' := by
  obtain ⟨sp, fp⟩ := hs p q cs hh
  refine ⟨c.rf, ⟨fun a o e _ n => ?_, fun a e => ?_⟩, ⟨fun a o e => ?_, c.z⟩, fun _ _ e => .inl e, ⟨fun r hr => ?_, fun p' q' cs' e => ?_, ⟨fun a o e => ?_, t.h.2.z⟩⟩, t.h⟩
  · rw [h1 a (fun z => n (z ▸ ⟨q, cs, hh⟩))]; exact e
  · by_cases z : a = p
    · rw [z, h2] at e; cases e
    · rw [← h1 a z]; exact e
  · rw [h1 a (ne_of_none e sp)]; exact c a o e
  · obtain ⟨ps, e1, e2, e3⟩ := t.t r hr
    refine ⟨ps, ?_, e2, fun pos cv hc => ?_⟩
    · rw [h1 _ (L2.ne_of e1 h0 (fun z => by cases z))]; exact e1
    · obtain ⟨c', e4, e5⟩ := e3 pos cv hc
      refine ⟨c', e4, ?_⟩
      rw [h1 _ (L2.ne_of e5 h0 (codeO_nl _))]; exact e5
  · rw [hh] at e
    cases e
    exact ⟨i, b, g, u, h2, by rw [h1 q hqp]; exact hq, hi, hb⟩
  · rw [h1 a (ne_of_none e fp)]; exact t.h.2 a o e
/-- what is asked where no short cell was taken -/
def tRest : TS := fun D σ H => ∃ (p q : Addr) (cs : List Int) (i b g u m : Int), σ.length = 5 ∧ σ[(0 : Nat)]? = some (some (.ref p)) ∧ σ[(1 : Nat)]? = some (some (.int m)) ∧ H p = some (.lst [.ref q, .int i, .int b, .int g, .int u]) ∧ H q = some (.lst (cs.map V.int)) ∧ q ≠ p ∧ 0 ≤ b ∧ 0 < m ∧ m ≤ 1000 ∧
  ∀ (H' : Hp) (b' k : Int), (∀ x, x ≠ p → H' x = H x) → H' p = some (.lst [.ref q, .int i, .int b', .int g, .int u]) → 0 ≤ b' → 0 ≤ k → k < m → D.rt (.int k) H'
theorem b_rest {M : Md} (B : Blt M.mg) {f : Addr} {cdv : Value} {A : Around} {outer : List PySem.Env} {s : Shared} {H : Hp} {E : XK} : PSs (XD M N__law_take "_law_take" (defScope (topS 66)) f cdv A outer s H E) ((defBody (topS 66)).drop 2) tRest := by
  refine pssI (pss_cons (ps_if (pt_cmpR op_gt (pe_h (k := 2) rfl (Or.inl rfl)) pe_int (by rfl))
      (pss_cons (ps_set (i := 4) nd__law_take rfl (Or.inl rfl) (pe_op op_mod (pe_int_ rfl B.int (pe_h (k := 2) rfl (Or.inl rfl))) (pv 1)))
      (pss_cons (ps_h (k := 2) rfl (Or.inl rfl) (pe_op op_fdiv (pe_h (k := 2) rfl (Or.inl rfl)) (pv 1)))
      (pss_one (ps_ret (pv 4)))))
      pss_nil)
    (pss_cons (ps_if (pt_cmpR op_eq (pe_len_ rfl B.len (pe_h (k := 0) rfl (Or.inl rfl))) pe_int (by rfl)) (pss_one (ps_ret pe_int)) pss_nil)
    (pss_cons (ps_set (i := 3) nd__law_take rfl (Or.inl rfl) (pe_op op_mod (pe_int_ rfl B.int (pe_op op_add (pe_op op_add (pe_op op_mul (pe_h (k := 3) rfl (Or.inl rfl)) pe_int) (pe_op op_mul (pe_h (k := 4) rfl (Or.inl rfl)) pe_int)) pe_int)) pe_int))
    (pss_one (ps_ret (pe_op op_mod (pe_op op_mod (pe_int_ rfl B.int (pe_op op_add (pe_op op_mul (pv 3) (pe_op op_add (pe_op op_mod (pe_int_ rfl B.int (pv 3)) pe_int) pe_int)) (pe_op op_fdiv (pv 3) pe_int))) pe_int) (pv 1))))))) fun D σ H ⟨p, q, cs, i, b, g, u, m, hl, s0, s1, hp, hq, hqp, hb, hm0, hm1, fin⟩ => ?_
  have em : ∀ x : Int, 0 ≤ x % m ∧ x % m < m := fun x => ⟨Int.emod_nonneg x (by omega), Int.emod_lt_of_pos x hm0⟩
  refine ⟨p, _, _, s0, hp, rfl, b, 0, rfl, rfl, _, rfl, ?_⟩
  refine ite2 (fun c1 => ?_) (fun c1 => ?_)
  · have s4 : ∀ x : Option V, (σ.set 4 x)[(4 : Nat)]? = some x := fun x => List.getElem?_set_self (by rw [hl]; decide)
    have t0 : ∀ x : Option V, (σ.set 4 x)[(0 : Nat)]? = some (some (.ref p)) := fun x => by rw [List.getElem?_set_ne (by decide)]; exact s0
    have t1 : ∀ x : Option V, (σ.set 4 x)[(1 : Nat)]? = some (some (.int m)) := fun x => by rw [List.getElem?_set_ne (by decide)]; exact s1
    refine ⟨p, _, _, s0, hp, rfl, b, rfl, .int m, s1, b, m, rfl, rfl, hm0, ?_⟩
    refine ⟨p, _, _, t0 _, hp, rfl, .int m, t1 _, b, m, rfl, rfl, ⟨hm0, by omega⟩, p, _, t0 _, hp, by show 2 < 5; decide, ?_⟩
    refine ⟨.int (b % m), s4 _, fin _ (b / m) (b % m) (fun x z => upd_ne z) upd_same (Int.ediv_nonneg hb (by omega)) (em b).1 (em b).2⟩
  · refine ⟨p, _, _, s0, hp, rfl, q, _, rfl, hq, rfl, _, rfl, ?_⟩
    refine ite2 (fun c2 => ?_) (fun c2 => ?_)
    · exact fin H b 0 (fun _ _ => rfl) hp hb (Int.le_refl 0) hm0
    · have s3 : ∀ x : Option V, (σ.set 3 x)[(3 : Nat)]? = some x := fun x => List.getElem?_set_self (by rw [hl]; decide)
      have t1 : ∀ x : Option V, (σ.set 3 x)[(1 : Nat)]? = some (some (.int m)) := fun x => by rw [List.getElem?_set_ne (by decide)]; exact s1
      refine ⟨p, _, _, s0, hp, rfl, g, 40063, rfl, rfl, .inr ⟨by decide, by decide⟩, p, _, _, s0, hp, rfl, u, 52837, rfl, rfl, .inr ⟨by decide, by decide⟩, _, _, rfl, rfl, _, _, rfl, rfl, _, rfl, _, 2147483563, rfl, rfl, (by show (0 : Int) < 2147483563; decide), ?_⟩
      refine ⟨_, s3 _, _, s3 _, _, rfl, _, 7919, rfl, rfl, (by show (0 : Int) < 7919; decide), _, _, rfl, rfl, _, _, rfl, rfl, ?_, _, s3 _, _, 512, rfl, rfl, ⟨by decide, by decide⟩, _, _, rfl, rfl, _, rfl, _, 1999999973, rfl, rfl, (by show (0 : Int) < 1999999973; decide), .int m, t1 _, _, m, rfl, rfl, hm0, fin H b _ (fun _ _ => rfl) hp hb (em _).1 (em _).2⟩
      refine .inr ?_
      have h1 := Int.emod_nonneg ((g * 40063 + u * 52837 + 3) % 2147483563) (b := 7919) (by decide)
      have h2 := Int.emod_lt_of_pos ((g * 40063 + u * 52837 + 3) % 2147483563) (b := 7919) (by decide)
      have p64 : (2 : Int) ^ 64 = 18446744073709551616 := by decide
      rw [p64]
      constructor <;> omega
theorem c_take {M : Md} (B : Blt M.mg) (h : DefAt M "_law_take" (topS 66) ["_law_hand_here", "_law_many"]) : CalN M 1 "_law_take" 1 F__law_take := by
  obtain ⟨f, fd, FF, hm, hb⟩ := h.ex
  refine ⟨⟨f, fd, _, FF.ok (N := N__law_take) (k := 0) ⟨rfl, rfl, rfl, nd__law_take, rfl, by decide +kernel, by decide +kernel⟩ (fun vs H Q E ⟨T, Sx, p, q, cs, ds, K, _, _, _, _, _, _, r, hl, _⟩ => by rw [r.len, List.length_cons, hl] <;> rfl) fun cdv A outer s H vs Q E hr ⟨T, S, p, q, cs, ds, K, hT, hh, hc4, hs, c, t, r, hl, hF, qq⟩ => ?_, hm, FF.kp, hb⟩⟩
  obtain ⟨m, ed, hm0, hm1, hK⟩ := hF
  subst ed
  obtain ⟨x1, x2, ev, r1, r2⟩ := reps2 r
  have r1 : x1 = .ref p := r1
  have r2 : x2 = .int m := r2
  subst r1 r2 ev
  obtain ⟨i, b, g, u, hp, hq, hi, hbb⟩ := t.h.1 p q cs hh
  have hqp : q ≠ p := fun z => by
    rw [z, hp] at hq
    have := HO.lst.inj (Option.some.inj hq)
    cases cs <;> cases this
  have fin : ∀ {H' : Hp} {i b g u k : Int}, (∀ x, x ≠ p → H' x = H x) → H' p = some (.lst [.ref q, .int i, .int b, .int g, .int u]) → 0 ≤ i → 0 ≤ b → 0 ≤ k → k < m → Q (.int k) H' := fun {H' i b g u k} h1 h2 h3 h4 h5 h6 =>
    qq (.int k) (hK k h5 h6) (.int k) S H' (hand_fin hh hs c t hp hq hqp h1 h2 h3 h4) rfl
  refine ⟨_, pss_cons (ps_h (k := 4) rfl (Or.inl rfl) (pe_op op_add (pe_h (k := 4) rfl (Or.inl rfl)) pe_int))
    (pss_cons (ps_if (pt_pw_ (pw_and (pt_cmpR op_eq (pe_h (k := 2) rfl (Or.inl rfl)) pe_int (by rfl)) (pw_and1 (pt_cmpR op_lt (pe_h (k := 1) rfl (Or.inl rfl)) (pe_len_ rfl B.len (pe_h (k := 0) rfl (Or.inl rfl))) (by rfl)))))
      (pss_cons (ps_set (i := 2) nd__law_take rfl (Or.inl rfl) (pe_ix ix_list (pe_h (k := 0) rfl (Or.inl rfl)) (pe_h (k := 1) rfl (Or.inl rfl)) (fun _ _ => rfl)))
      (pss_cons (ps_h (k := 1) rfl (Or.inl rfl) (pe_op op_add (pe_h (k := 1) rfl (Or.inl rfl)) pe_int))
      (pss_one (ps_if (pt_cmpR op_ge (pe_abs_ rfl B.abs (pv 2)) (pe_op op_pow pe_int pe_int) (by rfl))
        (pss_one (ps_h (k := 2) rfl (Or.inl rfl) (pe_abs_ rfl B.abs (pv 2))))
        (pss_cons (ps_set (i := 3) nd__law_take rfl (Or.inl rfl) (pe_op op_mod (pe_int_ rfl B.int (pe_op op_add (pe_op op_add (pe_op op_mul (pv 2) pe_int) (pe_op op_mul (pe_h (k := 4) rfl (Or.inl rfl)) pe_int)) pe_int)) pe_int))
        (pss_one (ps_ret (pe_op op_mod (pe_op op_mod (pe_int_ rfl B.int (pe_op op_add (pe_op op_mul (pv 3) pe_int) (pe_op op_fdiv (pv 3) pe_int))) pe_int) (pv 1)))))))))
      pss_nil)
    (b_rest B)), ?_⟩
  have q1 : ∀ {o : HO}, upd H p o q = some (.lst (cs.map V.int)) := fun {o} => by rw [upd_ne hqp]; exact hq
  have q2 : ∀ {o o' : HO}, upd (upd H p o) p o' q = some (.lst (cs.map V.int)) := fun {o o'} => by rw [upd_ne hqp, upd_ne hqp]; exact hq
  have q3 : ∀ {o o' o2 : HO}, upd (upd (upd H p o) p o') p o2 q = some (.lst (cs.map V.int)) := fun {o o' o2} => by rw [upd_ne hqp, upd_ne hqp, upd_ne hqp]; exact hq
  have em : ∀ x : Int, 0 ≤ x % m ∧ x % m < m := fun x => ⟨Int.emod_nonneg x (by omega), Int.emod_lt_of_pos x hm0⟩
  have e1 : ∀ {o : HO} x, x ≠ p → upd H p o x = H x := fun x z => upd_ne z
  have e2 : ∀ {o o' : HO} x, x ≠ p → upd (upd H p o) p o' x = H x := fun x z => by rw [upd_ne z, upd_ne z]
  have e3 : ∀ {o o' o2 : HO} x, x ≠ p → upd (upd (upd H p o) p o') p o2 x = H x := fun x z => by rw [upd_ne z, upd_ne z, upd_ne z]
  have e4 : ∀ {o o' o2 o3 : HO} x, x ≠ p → upd (upd (upd (upd H p o) p o') p o2) p o3 x = H x := fun x z => by rw [upd_ne z, upd_ne z, upd_ne z, upd_ne z]
  refine ⟨p, _, _, rfl, hp, rfl, u, 1, rfl, rfl, p, _, rfl, hp, by show 4 < 5; decide, ?_⟩
  refine ⟨p, _, _, rfl, upd_same, rfl, rfl, _, rfl, ?_⟩
  refine ite2 (fun c1 => ?_) (fun c1 => ?_)
  · refine ⟨p, _, _, rfl, upd_same, rfl, p, _, _, rfl, upd_same, rfl, q, _, rfl, q1, _, _, rfl, rfl, _, rfl, ?_⟩
    refine ite2 (fun c2 => ?_) (fun c2 => ?_)
    · have c2 : i < ((cs.map V.int).length : Nat) := of_decide_eq_true c2
      rw [List.length_map] at c2
      have hit : i.toNat < cs.length := by omega
      have hat : atI (cs.map V.int) i = some (.int cs[i.toNat]) := by
        have := atI_nat (xs := cs.map V.int) (j := i.toNat) (v := V.int cs[i.toNat]) (by rw [List.getElem?_map, List.getElem?_eq_getElem hit] <;> rfl)
        rwa [Int.toNat_of_nonneg hi] at this
      refine ⟨p, _, _, rfl, upd_same, rfl, p, _, _, rfl, upd_same, rfl, q, _, i, _, rfl, rfl, .inl (.inl q1), hat, ?_⟩
      refine ⟨p, _, _, rfl, upd_same, rfl, i, 1, rfl, rfl, p, _, rfl, upd_same, by show 1 < 5; decide, ?_⟩
      refine ⟨_, rfl, _, rfl, 10, 18, rfl, rfl, ⟨by decide, by decide, by decide⟩, _, _, rfl, rfl, _, rfl, ?_⟩
      refine ite2 (fun c3 => ?_) (fun c3 => ?_)
      · refine ⟨_, rfl, _, rfl, p, _, rfl, upd_same, by show 2 < 5; decide, ?_⟩
        refine ⟨p, q, cs, i + 1, _, g, u + 1, m, rfl, rfl, rfl, upd_same, q3, hqp, ?_, hm0, hm1, fun H' b' k h1 h2 h3 h4 h5 => fin (fun x z => by rw [h1 x z]; exact e3 x z) h2 (by omega) h3 h4 h5⟩
        split <;> omega
      · refine ⟨_, rfl, _, 48313, rfl, rfl, .inr ⟨by decide, by decide⟩, p, _, _, rfl, upd_same, rfl, _, 69677, rfl, rfl, .inr ⟨by decide, by decide⟩, _, _, rfl, rfl, _, _, rfl, rfl, _, rfl, _, 2147483647, rfl, rfl, (by show (0 : Int) < 2147483647; decide), ?_⟩
        refine ⟨_, rfl, _, 16831, rfl, rfl, .inr ⟨by decide, by decide⟩, _, rfl, _, 1024, rfl, rfl, ⟨by decide, by decide⟩, _, _, rfl, rfl, _, rfl, _, 998244353, rfl, rfl, (by show (0 : Int) < 998244353; decide), _, rfl, _, m, rfl, rfl, hm0, fin e2 upd_same (by omega) hbb (em _).1 (em _).2⟩
    · exact ⟨p, q, cs, i, b, g, u + 1, m, rfl, rfl, rfl, upd_same, q1, hqp, hbb, hm0, hm1, fun H' b' k h1 h2 h3 h4 h5 => fin (fun x z => by rw [h1 x z]; exact e1 x z) h2 hi h3 h4 h5⟩
  · exact ⟨p, q, cs, i, b, g, u + 1, m, rfl, rfl, rfl, upd_same, q1, hqp, hbb, hm0, hm1, fun H' b' k h1 h2 h3 h4 h5 => fin (fun x z => by rw [h1 x z]; exact e1 x z) h2 hi h3 h4 h5⟩
end DL

set_option Elab.async false
set_option linter.all false
set_option maxRecDepth 100000
set_option maxHeartbeats 4000000
namespace DL
open PySem PySem.Spec PyProof.Rows L2 LamX NdefX
/-! ### _law_hand -/
def spHd (K : PySem.W.Frag) : Sp := fun vs H Q _ => ∃ (a : Addr) (ns : List Int), vs = [.ref a] ∧ SqL K H a (ns.map V.int) ∧ ∀ (p q : Addr) (g : Int), H q = none → p ≠ q → H p = none → Q (.ref p) (upd (upd H q (.lst (ns.map V.int))) p (.lst [.ref q, .int 0, .int 0, .int g, .int 0]))
abbrev N_hd : List PySem.Str := ["_law_script", "_law_stir", "_law_cell"]
theorem nd_hd : N_hd.Nodup := by decide +kernel
theorem bt_list : bootBuiltins "list" = some (.type "list") := by decide +kernel
theorem c_hd {M : Md} (B : Blt M.mg) {f : Addr} {fd : FuncData} (F : Fun M.K "_law_hand" "_law_hand" (topS 65) f fd) : FnOk M.P M.w M.K M.mg M.base CX0 1 f fd ["_law_script"] (spHd M.K) := by
  refine F.ok (N := N_hd) (k := 0) ⟨rfl, rfl, rfl, nd_hd, rfl, by decide +kernel, by decide +kernel⟩ (fun vs H Q E ⟨a, ns, e, _⟩ => by rw [e] <;> rfl) fun cdv A outer s H vs Q E hr ⟨a, ns, e, hS, q⟩ => ?_
  subst e
  refine ⟨_, pss_cons (ps_set (i := 1) nd_hd rfl (Or.inl rfl) pe_int)
    (pss_cons (ps_for PassesOwn.never rfl (pi_list (pv 0)) (pg_name (i := 2) nd_hd rfl (Or.inl rfl)) (pss_one (ps_set (i := 1) nd_hd rfl (Or.inl rfl) (pe_op op_mod (pe_int_ rfl B.int (pe_op op_add (pe_op op_add (pe_op op_mul (pv 1) pe_int) (pe_op op_mul (pv 2) pe_int)) pe_int)) pe_int))) (by intro _; rfl))
    (pss_one (ps_ret (pe_lst (pa_cons (pe_callTy call_list_of rfl B.list bt_list (pa_cons (pv 0) pa_nil)) (pa_cons pe_int (pa_cons pe_int (pa_cons (pv 1) (pa_cons pe_int pa_nil))))))))), ?_⟩
  refine ⟨_, rfl, a, rfl, ⟨_, hS⟩, for_list (xs := ns.map V.int) (fun i σ H' => H' = H ∧ ∃ z x, σ = [some (.ref a), some (.int z), x]) ⟨rfl, 0, none, rfl⟩ (fun i σ H' _ ⟨e, _⟩ => by rw [e]; exact hS) (fun i x σ H' hx ⟨e, z, y, es⟩ => ?_) (fun σ H' ⟨e, z, y, es⟩ => ?_)⟩
  · subst e es
    rw [List.getElem?_map] at hx
    cases hn : ns[i]? with
    | none => rw [hn] at hx; cases hx
    | some n =>
      rw [hn] at hx
      cases hx
      exact ⟨_, rfl, _, 1033, rfl, rfl, .inr ⟨by decide, by decide⟩, _, rfl, _, 53, rfl, rfl, .inr ⟨by decide, by decide⟩, _, _, rfl, rfl, _, _, rfl, rfl, _, rfl, _, 1000003, rfl, rfl, (by show (0 : Int) < 1000003; decide), rfl, _, _, rfl⟩
  · subst e es
    refine ⟨_, rfl, a, _, rfl, .inl hS, fun l hl => ⟨_, rfl, (by show 5 ≤ sizeLine; decide), fun p hp => ?_⟩⟩
    have hpl : p ≠ l := fun z => by rw [z, upd_same] at hp; cases hp
    exact q p l z hl hpl (by rw [upd_ne hpl] at hp; exact hp)
/-! ### law -/
abbrev N_law : List PySem.Str := ["_law_script", "_law_hand_here", "_law_length", "_law_tree"]
theorem nd_law : N_law.Nodup := by decide +kernel
def g_law (p : Addr) : Env → (Out → Prop) → Prop :=
  qSeq (qSet 2 (qCallAt 1 p F__law_take (qCons (qE (eC (.int 13))) qNil)))
  (qSeq (qIf (qBOf (qOp gEq (qCallAt 1 p F__law_take (qCons (qE (eC (.int 16))) qNil)) (qE (eC (.int 9))))) (qS (cSet 2 (eC (.int 20)))) (qS cNext))
  (qSeq (qS (cSet 3 (eCall gTupl (aCons (eFz (iRg1 (eVar 2))) aNil))))
  (qSeq (qIf (qNot (qBOf (qCallAt 1 p F__law_widths (qCons (qE (eVar 3)) (qCons (qCallAt 1 p F__law_limit qNil) qNil))))) (qS (cRet (eC (.bl false)))) (qS cNext))
  (qRet (qCallAt 1 p F__law_reaches (qCons (qE (eVar 3)) (qCons (qCallAt 1 p F__law_limit qNil) qNil)))))))
def spLaw (K : PySem.W.Frag) (TT : List NTab) : Sp := fun vs H Q _ => ∃ (a : Addr) (ns : List Int), vs = [.ref a] ∧ SqL K H a (ns.map V.int) ∧ ns.length ≤ 4000 ∧ TabsN TT H ∧ ∀ H', Q (.bl true) H'
theorem c_law {M : Md} (PL : ∀ p, g_law p [.no, .pu (.adr p), .no, .no] (fun o => o = .rt (.bl true))) (B : Blt M.mg) {f : Addr} {fd : FuncData} (F : Fun M.K "law" "law" (topS 85) f fd) {fh : Addr} {fdh : FuncData} (C_hd : FnOk M.P M.w M.K M.mg M.base CX0 1 fh fdh ["_law_script"] (spHd M.K)) (mh : M.mg "_law_hand" = some (.ref fh)) (kh : PySem.W.keepIn M.K (.ref fh) = true) (bh : Binds M.K fdh ["_law_script"] [])
    (C_take : CalN M 1 "_law_take" 1 F__law_take) (C_widths : CalN M 60 "_law_widths" 2 F__law_widths) (C_reaches : CalN M 60 "_law_reaches" 2 F__law_reaches) (C_limit : CalN M 2 "_law_limit" 0 F__law_limit) : FnOk M.P M.w M.K M.mg M.base CX0 61 f fd ["_law_script"] (spLaw M.K M.TT) := by
  refine F.ok (N := N_law) (k := 60) ⟨rfl, rfl, rfl, nd_law, rfl, by decide +kernel, by decide +kernel⟩ (fun vs H Q E ⟨a, ns, e, _⟩ => by rw [e] <;> rfl) fun cdv A outer s H vs Q E hr ⟨a, ns, e, hS, h4, hTabs, q⟩ => ?_
  subst e
  have hrest : ∀ (T : Tx) (p q : Addr) (cs : List Int), T.tabs = M.TT → T.hand = some (p, q, cs) → cs.length ≤ 4000 → NSs T (XD M N_law "law" (defScope (topS 85)) f cdv A outer s H E) ((defBody (topS 85)).drop 1) (g_law p) := fun T p q cs hT hh hc4 =>
    ns_cons (ns_set (i := 2) nd_law rfl (Or.inl rfl) (ne_callAt (j := 1) C_take hT hh hc4 rfl (hr.mono (by decide)) rfl len__law_take rfl (Or.inl rfl) (na_cons (ne_of se_int) na_nil)))
    (ns_cons (ns_if (nt_cmp od_eq (ne_callAt (j := 1) C_take hT hh hc4 rfl (hr.mono (by decide)) rfl len__law_take rfl (Or.inl rfl) (na_cons (ne_of se_int) na_nil)) (ne_of se_int)) (nss_of (ss_one (ss_set (i := 2) nd_law rfl (Or.inl rfl) se_int))) (nss_of ss_nil))
    (ns_cons (ns_of (ss_set (i := 3) nd_law rfl (Or.inl rfl) (se_callTy cd_tuple rfl B.tuple bt_tuple (sa_cons (se_fz (sl_lstRg1 rfl rfl B.list rfl B.range (se_var (i := 2)))) sa_nil))))
    (ns_cons (ns_if (nt_not (nt_val (ne_callAt (j := 1) C_widths hT hh hc4 rfl (hr.mono (by decide)) rfl len__law_widths rfl (Or.inl rfl) (na_cons (ne_of (se_var (i := 3))) (na_cons (ne_callAt (j := 1) C_limit hT hh hc4 rfl (hr.mono (by decide)) rfl len__law_limit rfl (Or.inl rfl) na_nil) na_nil))))) (nss_of (ss_one (ss_ret se_bl))) (nss_of ss_nil))
    (ns_one (ns_ret (ne_callAt (j := 1) C_reaches hT hh hc4 rfl (hr.mono (by decide)) rfl len__law_reaches rfl (Or.inl rfl) (na_cons (ne_of (se_var (i := 3))) (na_cons (ne_callAt (j := 1) C_limit hT hh hc4 rfl (hr.mono (by decide)) rfl len__law_limit rfl (Or.inl rfl) na_nil) na_nil))))))))
  have hmid : PSs (XD M N_law "law" (defScope (topS 85)) f cdv A outer s H E) ((defBody (topS 85)).drop 1) (fun D σ H0 => ∃ (T : Tx) (p q : Addr) (cs : List Int), T.tabs = M.TT ∧ T.hand = some (p, q, cs) ∧ cs.length ≤ 4000 ∧ nS T (g_law p) D σ H0) :=
    ⟨fun pins s σ H D I ⟨T, p, q, cs, hT, hh, hc4, h⟩ => (hrest T p q cs hT hh hc4).run pins s σ H D I h⟩
  refine ⟨_, pss_cons (ps_set (i := 1) nd_law rfl (Or.inl rfl) (pe_call (E := E0) C_hd (hr.mono (by decide)) rfl mh kh bh .nil pass0 (pa_cons (pv 0) pa_nil))) hmid, ?_⟩
  refine ⟨_, rfl, a, ns, rfl, hS, fun p q0 g hq0 hpq hp0 => ?_⟩
  have hqp : q0 ≠ p := Ne.symm hpq
  have kp : ∀ b o, H b = some o → upd (upd H q0 (.lst (ns.map V.int))) p (.lst [.ref q0, .int 0, .int 0, .int g, .int 0]) b = some o := fun b o e => by
    rw [upd_ne (ne_of_none e hp0), upd_ne (ne_of_none e hq0)]
    exact e
  have hq1 : upd (upd H q0 (.lst (ns.map V.int))) p (.lst [.ref q0, .int 0, .int 0, .int g, .int 0]) q0 = some (.lst (ns.map V.int)) := by
    rw [upd_ne hqp, upd_same]
  have t : Tb ⟨M.TT, some (p, q0, ns), fun _ => none⟩ (upd (upd H q0 (.lst (ns.map V.int))) p (.lst [.ref q0, .int 0, .int 0, .int g, .int 0])) := ⟨hTabs.ext kp, fun p' q' cs' e => by
    cases e
    exact ⟨0, 0, g, 0, upd_same, hq1, Int.le_refl 0, Int.le_refl 0⟩, ⟨(fun _ _ e => by cases e), (fun _ _ e => by cases e)⟩⟩
  have c : Same (fun _ => none) (upd (upd H q0 (.lst (ns.map V.int))) p (.lst [.ref q0, .int 0, .int 0, .int g, .int 0])) := ⟨(fun _ _ e => by cases e), (fun _ _ e => by cases e)⟩
  refine ⟨⟨M.TT, some (p, q0, ns), fun _ => none⟩, p, q0, ns, rfl, rfl, h4, [.no, .pu (.adr p), .no, .no], _, fun _ => none, fun _ => none, _, ⟨Ext.refl c t, rfl, fun i s x e1 e2 => ?_, fun i j p' a b hn e1 e2 _ _ => ?_⟩, fun p' q' cs' e => ⟨rfl, rfl⟩, PL p, fun o ko => ?_⟩
  · match i, e1, e2 with
    | 0, e1, e2 => cases e1; exact True.intro
    | 1, e1, e2 => cases e1; cases e2; exact ⟨.ref p, rfl, rfl⟩
    | 2, e1, e2 => cases e1; exact True.intro
    | 3, e1, e2 => cases e1; exact True.intro
    | i + 4, e1, e2 => simp at e1
  · match i, e1 with
    | 0, e1 => cases e1
    | 1, e1 => cases e1
    | 2, e1 => cases e1
    | 3, e1 => cases e1
    | i + 4, e1 => simp at e1
  · subst ko
    exact fun v S' H' _ rv => by
      have rv : v = .bl true := rv
      rw [rv]
      exact q H'
end DL

set_option Elab.async false
set_option linter.all false
set_option maxRecDepth 100000
set_option maxHeartbeats 4000000
namespace DL
open PySem PySem.Spec PyProof.Rows L2 LamX NdefX

/-- what the module's top says of a def -/
def DefIn (K : PySem.W.Frag) (x : PySem.Str) (st : Stmt) (cdv : Value) : Prop := ∃ (f : Addr) (oc : Value) (od : Option Addr) (kV doc pm : Value) (an : Option Addr) (ct : Value) (osl : Array (Option Value)),
  PySem.W.nsIn K mainGlobals x = some (some (.ref f)) ∧ K.lookup f = some ⟨oc, od, .func (PySem.W.fnOf x x (defArgs st) (defBody st) (defScope st) .none kV doc pm an cdv ct), osl⟩ ∧ PySem.W.codeIn K cdv x = true ∧ PySem.W.keepIn K (.ref f) = true
def DefIx (K : PySem.W.Frag) (x : PySem.Str) (st : Stmt) : Prop := ∃ cdv, DefIn K x st cdv
theorem defIn_mk {K : PySem.W.Frag} {x : PySem.Str} {st : Stmt} {cdv : Value} {f : Addr} {oc : Value} {od : Option Addr} {kV doc pm : Value} {an : Option Addr} {ct : Value} {osl : Array (Option Value)}
    (a : PySem.W.nsIn K mainGlobals x = some (some (.ref f))) (l : K.lookup f = some ⟨oc, od, .func (PySem.W.fnOf x x (defArgs st) (defBody st) (defScope st) .none kV doc pm an cdv ct), osl⟩) (c : PySem.W.codeIn K cdv x = true) (k : PySem.W.keepIn K (.ref f) = true) : DefIn K x st cdv := ⟨f, oc, od, kV, doc, pm, an, ct, osl, a, l, c, k⟩
theorem defIx_mk {K : PySem.W.Frag} {x : PySem.Str} {st : Stmt} {cdv : Value} {f : Addr} {oc : Value} {od : Option Addr} {kV doc pm : Value} {an : Option Addr} {ct : Value} {osl : Array (Option Value)}
    (a : PySem.W.nsIn K mainGlobals x = some (some (.ref f))) (l : K.lookup f = some ⟨oc, od, .func (PySem.W.fnOf x x (defArgs st) (defBody st) (defScope st) .none kV doc pm an cdv ct), osl⟩) (c : PySem.W.codeIn K cdv x = true) (k : PySem.W.keepIn K (.ref f) = true) : DefIx K x st := ⟨cdv, f, oc, od, kV, doc, pm, an, ct, osl, a, l, c, k⟩
theorem defAt {M : Md} {x : PySem.Str} {st : Stmt} {ps : List PySem.Str} {h : Heap} (X : M.K.In h) (G : h.Ns mainGlobals M.mg) (d : DefIx M.K x st)
    (hb : ∀ (kV doc pm : Value) (an : Option Addr) (cdv ct : Value) (us : List Value), us.length = ps.length → bindArgs (PySem.W.fnOf x x (defArgs st) (defBody st) (defScope st) .none kV doc pm an cdv ct) ⟨us, []⟩ = pure (ps.zip us)) : DefAt M x st ps := by
  obtain ⟨cdv, f, oc, od, kV, doc, pm, an, ct, osl, a, l, c, k⟩ := d
  have F := fun_mk (st := st) l c k
  exact ⟨⟨f, _, F, PySem.W.mg_of X G a, F.binds hb⟩⟩
theorem defAtC {M : Md} {x : PySem.Str} {st : Stmt} {ps : List PySem.Str} {c : Addr} {h : Heap} (X : M.K.In h) (G : h.Ns mainGlobals M.mg) (d : DefIn M.K x st (.ref c))
    (hb : ∀ (kV doc pm : Value) (an : Option Addr) (cdv ct : Value) (us : List Value), us.length = ps.length → bindArgs (PySem.W.fnOf x x (defArgs st) (defBody st) (defScope st) .none kV doc pm an cdv ct) ⟨us, []⟩ = pure (ps.zip us)) : DefAtC M x st ps c := by
  obtain ⟨f, oc, od, kV, doc, pm, an, ct, osl, a, l, c', k⟩ := d
  have F := fun_mk (st := st) l c' k
  exact ⟨⟨f, oc, od, kV, doc, pm, an, ct, osl, l, c', k, PySem.W.mg_of X G a, F.binds hb⟩⟩
theorem fn_of_body {M : Md} {k : Nat} {N ps : List PySem.Str} {x : PySem.Str} {st : Stmt} {g : Env → Option Out} {f : Addr} {fd : FuncData} (F : Fun M.K x x st f fd) (S : FnScope N ps (defScope st)) (b : Body M k N x st g) : FnOk M.P M.w M.K M.mg M.base CX0 (k + 1) f fd ps (spD M.TT ps.length (runFn N.length ps.length g)) := by
  refine F.ok S (fun vs H Q E ⟨T, Sx, ds, d, _, _, _, r, hl, _⟩ => by rw [r.len, hl]) fun cdv A outer s H vs Q E hr ⟨T, Sx, ds, d, hT, c, t, r, hl, hF, q⟩ => ?_
  have hps : ps.length ≤ N.length := by
    have := congrArg List.length S.pre
    rw [List.length_take] at this
    omega
  refine ⟨_, b T f cdv A outer s H E hT hr, ?_⟩
  unfold runFn at hF
  obtain ⟨_, hF⟩ := gd_some hF
  have k0 := start_ok (N := N) c t r (by omega)
  rw [hl] at k0
  split at hF
  · rename_i d' hg
    cases hF
    exact ⟨_, _, H, Sx, Sx, hg, k0, fun v S' H' e rv => q v S' H' e rv⟩
  · rename_i ρ' hg
    cases hF
    exact ⟨_, _, H, Sx, Sx, hg, k0, fun S' H' σ' k' => q .non S' H' k'.e rfl⟩
  · cases hF
theorem CalN.lev {M : Md} {j k : Nat} {x : PySem.Str} {n : Nat} {F : List D → (D → Prop) → Prop} (c : CalN M j x n F) (h : j ≤ k) : CalN M k x n F := by
  obtain ⟨⟨f, fd, ps, Fn, r⟩⟩ := c
  exact ⟨⟨f, fd, ps, Fn.mono h, r⟩⟩
theorem calK_of {M : Md} {k : Nat} {x kw p1 : PySem.Str} {st : Stmt} {F : List D → Option D} (C : ∀ f fd, Fun M.K x x st f fd → M.mg x = some (.ref f) → FnOk M.P M.w M.K M.mg M.base CX0 k f fd [p1, kw] (spD M.TT 2 F)) (h : DefAt M x st [p1, kw])
    (hb : ∀ (kV doc pm : Value) (an : Option Addr) (cdv ct : Value) (a b : Value), bindArgs (PySem.W.fnOf x x (defArgs st) (defBody st) (defScope st) .none kV doc pm an cdv ct) ⟨[a], [(kw, b)]⟩ = pure [(p1, a), (kw, b)]) : CalK M k x kw F := by
  obtain ⟨f, fd, F0, hm, _⟩ := h.ex
  have C1 := C f fd F0 hm
  have hk := F0.kp
  obtain ⟨oc, od, kV, doc, pm, an, cdv, ct, osl, rfl, lk, hcd⟩ := F0.ex
  refine ⟨⟨f, _, [p1, kw], C1, hm, hk, ⟨fun s us ws _ hl => ?_, fun h1 h2 => g2_rel h1 h2⟩⟩⟩
  match us, ws, hl with
  | [], _, hl => exact absurd hl (by simp [g2])
  | [a], [], hl => exact absurd hl (by simp [g2])
  | [a], [b], _ => exact .of_eq (hb kV doc pm an cdv ct a b)
  | [a], _ :: _ :: _, hl => exact absurd hl (by simp [g2])
  | _ :: _ :: _, _, hl => exact absurd hl (by simp [g2])
theorem chain {M : Md} (PL : ∀ p, g_law p [.no, .pu (.adr p), .no, .no] (fun o => o = .rt (.bl true))) (B : Blt M.mg) {cR PR cW PW : Addr} (hTT : M.TT = [(PR, nmR), (PW, nmW)]) (hne : PR ≠ PW) (TBR : TabB M.base M.mg cR PR) (TBW : TabB M.base M.mg cW PW)
    (e_is_integer : DefAt M "is_integer" (topS 7) ["thing"])
    (e_is_number : DefAt M "is_number" (topS 8) ["thing"])
    (e_is_natural : DefAt M "is_natural" (topS 9) ["thing"])
    (e_choose : DefAt M "choose" (topS 11) ["top", "few"])
    (e_is_nested : DefAt M "is_nested" (topS 13) ["thing"])
    (e_need_plan : DefAt M "need_plan" (topS 14) ["word", "thing"])
    (e_need_number : DefAt M "need_number" (topS 15) ["word", "thing"])
    (e_need_natural : DefAt M "need_natural" (topS 16) ["word", "thing"])
    (e_last_full : DefAt M "last_full" (topS 17) ["bases"])
    (e_ahead_and_behind : DefAt M "ahead_and_behind" (topS 18) ["bases"])
    (e_put_beside : DefAt M "put_beside" (topS 19) ["ahead", "behind"])
    (e_sorted_least : DefAt M "sorted_least" (topS 21) ["many", "reach"])
    (e_least_sum : DefAt M "least_sum" (topS 22) ["many", "reach"])
    (e_least_greatest : DefAt M "least_greatest" (topS 23) ["many", "reach"])
    (e__built : DefAt M "_built" (topS 25) ["track", "is_mirrored"])
    (e_track_of : DefAt M "track_of" (topS 26) ["bases"])
    (e_mirrored : DefAt M "mirrored" (topS 27) ["bases"])
    (e__shaped : DefAt M "_shaped" (topS 29) ["buds", "lefts", "rights"])
    (e_best_plan : DefAt M "best_plan" (topS 30) ["many", "reach"])
    (e_best_for_writes : DefAt M "best_for_writes" (topS 31) ["many", "width"])
    (e_up_to : DefAt M "up_to" (topS 34) ["thing", "greatest"])
    (e_is_pair : DefAt M "is_pair" (topS 35) ["thing"])
    (e_bound_fault : DefAt M "bound_fault" (topS 36) ["history", "thing"])
    (e_need_bounds : DefAt M "need_bounds" (topS 37) ["history", "bounds"])
    (e_need_version : DefAt M "need_version" (topS 38) ["history", "version"])
    (e_all_versions : DefAt M "all_versions" (topS 39) ["history"])
    (e_falling : DefAt M "falling" (topS 40) ["members"])
    (e_row_after : DefAt M "row_after" (topS 41) ["width", "floor", "row"])
    (e_step_of : DefAt M "step_of" (topS 42) ["bounds", "version", "members"])
    (e_near_elder : DefAt M "near_elder" (topS 43) ["history", "marked", "version"])
    (e_walked : DefAt M "walked" (topS 44) ["history", "bounds", "versions"])
    (e_goes_above : DefAt M "goes_above" (topS 45) ["history", "bounds", "versions"])
    (e_one_bound : DefAt M "one_bound" (topS 47) ["history", "bounds", "version", "width", "reach"])
    (e_is_heights : DefAt M "is_heights" (topS 49) ["history", "thing"])
    (e_bases_by : DefAt M "bases_by" (topS 50) ["history", "heights"])
    (e_wall_in : DefAt M "wall_in" (topS 52) ["history", "bounds"])
    (e_rows_of : DefAt M "rows_of" (topS 54) ["history", "bounds"])
    (e_walk_heights : DefAt M "walk_heights" (topS 55) ["history", "bounds"])
    (e_top_of : DefAt M "top_of" (topS 56) ["history", "bounds"])
    (e_can_keep : DefAt M "can_keep" (topS 57) ["history", "bounds"])
    (e_plan_for : DefAt M "plan_for" (topS 58) ["history", "bounds"])
    (e_margin_of : DefAt M "margin_of" (topS 60) ["history", "bounds"])
    (e__law_same : DefAt M "_law_same" (topS 67) ["_law_got", "_law_due"])
    (e__law_step : DefAt M "_law_step" (topS 68) ["_law_limit_here", "_law_floor", "_law_members"])
    (e__law_rows : DefAt M "_law_rows" (topS 69) ["_law_tree", "_law_limits", "_law_floors"])
    (e__law_high : DefAt M "_law_high" (topS 70) ["_law_rows_here"])
    (e__law_above : DefAt M "_law_above" (topS 71) ["_law_tree", "_law_limits", "_law_floors", "_law_roof", "_law_kept"])
    (e__law_struck : DefAt M "_law_struck" (topS 72) ["_law_tree", "_law_limits", "_law_floors", "_law_roof"])
    (e__law_choose : DefAt M "_law_choose" (topS 73) ["_law_top", "_law_few"])
    (e__law_is_plan : DefAt M "_law_is_plan" (topS 74) ["_law_bases", "_law_many"])
    (e__law_reading : DefAt M "_law_reading" (topS 75) ["_law_bases"])
    (e__law_writing : DefAt M "_law_writing" (topS 76) ["_law_bases"])
    (e__law_sorted : DefAt M "_law_sorted" (topS 77) ["_law_many", "_law_limit_here"])
    (e__law_tops : DefAt M "_law_tops" (topS 78) ["_law_tree", "_law_bounds"])
    (e__law_refused : DefAt M "_law_refused" (topS 79) ["_law_tree", "_law_bounds"])
    (e__least_good : DefAt M "_least_good" (topS 61) ["own", "greatest", "is_good"])
    (e_lifted_reach : DefAtC M "lifted_reach" (topS 62) ["history", "bounds", "version"] cR)
    (e_lifted_width : DefAtC M "lifted_width" (topS 63) ["history", "bounds", "version"] cW)
    (e__law_take : DefAt M "_law_take" (topS 66) ["_law_hand_here", "_law_many"])
    (e__law_drawn : DefAt M "_law_drawn" (topS 80) ["_law_hand_here", "_law_counts"])
    (e__law_about : DefAt M "_law_about" (topS 81) ["_law_hand_here", "_law_tree", "_law_roof", "_law_pairs"])
    (e__law_widths : DefAt M "_law_widths" (topS 82) ["_law_hand_here", "_law_tree", "_law_far"])
    (e__law_reaches : DefAt M "_law_reaches" (topS 83) ["_law_hand_here", "_law_tree", "_law_wide"])
    (e__law_limit : DefAt M "_law_limit" (topS 84) ["_law_hand_here"])
    {fh : Addr} {fdh : FuncData} (Fh : Fun M.K "_law_hand" "_law_hand" (topS 65) fh fdh) (mh : M.mg "_law_hand" = some (.ref fh)) (bh : Binds M.K fdh ["_law_script"] []) {f : Addr} {fd : FuncData} (F : Fun M.K "law" "law" (topS 85) f fd) : FnOk M.P M.w M.K M.mg M.base CX0 61 f fd ["_law_script"] (spLaw M.K M.TT) := by
  have mR : (PR, nmR) ∈ M.TT := by rw [hTT]; exact List.mem_cons_self
  have mW : (PW, nmW) ∈ M.TT := by rw [hTT]; exact List.mem_cons_of_mem _ List.mem_cons_self
  have huR : ∀ p ∈ M.TT, p.1 = PR → p.2 = nmR := fun p hp e => by
    rw [hTT] at hp
    rcases List.mem_cons.mp hp with z | hp
    · rw [z]
    · rw [List.mem_singleton.mp hp] at e
      exact absurd e.symm hne
  have huW : ∀ p ∈ M.TT, p.1 = PW → p.2 = nmW := fun p hp e => by
    rw [hTT] at hp
    rcases List.mem_cons.mp hp with z | hp
    · rw [z] at e
      exact absurd e hne
    · rw [List.mem_singleton.mp hp]
  have C_is_integer := c_is_integer B e_is_integer
  have C_is_number := c_is_number B e_is_number C_is_integer
  have C_is_natural := c_is_natural B e_is_natural C_is_integer
  have C_choose := c_choose B e_choose C_is_number
  have C_is_nested := c_is_nested B e_is_nested C_is_number
  have C_need_plan := c_need_plan B e_need_plan C_is_nested
  have C_need_number := c_need_number B e_need_number C_is_number
  have C_need_natural := c_need_natural B e_need_natural C_is_natural
  have C_last_full := c_last_full B e_last_full
  have C_ahead_and_behind := c_ahead_and_behind B e_ahead_and_behind C_last_full
  have C_put_beside := c_put_beside B e_put_beside
  have C_sorted_least := c_sorted_least B e_sorted_least C_choose C_need_natural C_need_number
  have C_least_sum := c_least_sum B e_least_sum C_sorted_least
  have C_least_greatest := c_least_greatest B e_least_greatest C_choose C_need_natural C_need_number
  have C__built := c__built B e__built C_put_beside
  have C_track_of := c_track_of B e_track_of C_ahead_and_behind C_need_plan
  have C_mirrored := c_mirrored B e_mirrored C_track_of C__built
  have C__shaped := c__shaped B e__shaped C_put_beside C_choose
  have C_best_plan := c_best_plan B e_best_plan C_least_greatest C__shaped C_need_natural C_need_number
  have C_best_for_writes := c_best_for_writes B e_best_for_writes C_best_plan C_mirrored C_need_natural C_need_number
  have C_up_to := c_up_to B e_up_to C_is_natural
  have C_is_pair := c_is_pair B e_is_pair
  have C_bound_fault := c_bound_fault B e_bound_fault C_up_to C_is_pair
  have C_need_bounds := c_need_bounds B e_need_bounds C_bound_fault
  have C_need_version := c_need_version B e_need_version C_up_to
  have C_all_versions := c_all_versions B e_all_versions
  have C_falling := c_falling B e_falling
  have C_row_after := c_row_after B e_row_after
  have C_step_of := c_step_of B e_step_of C_falling C_row_after
  have C_near_elder := c_near_elder B e_near_elder
  have C_walked := c_walked B e_walked (C_step_of.lev (by decide)) (C_near_elder.lev (by decide))
  have C_goes_above := c_goes_above B e_goes_above C_walked
  have C_one_bound := c_one_bound B e_one_bound C_up_to C_need_version C_need_bounds
  have C_is_heights := c_is_heights B e_is_heights C_is_natural
  have C_bases_by := c_bases_by B e_bases_by C_is_heights
  have C_wall_in := c_wall_in B e_wall_in C_goes_above C_all_versions C_need_bounds
  have C_rows_of := c_rows_of B e_rows_of C_all_versions C_walked C_need_bounds
  have C_walk_heights := c_walk_heights B e_walk_heights C_rows_of
  have C_top_of := c_top_of B e_top_of C_rows_of
  have C_can_keep := c_can_keep B e_can_keep C_all_versions C_goes_above C_need_bounds
  have C_plan_for := c_plan_for B e_plan_for C_bases_by C_wall_in C_walk_heights
  have C_margin_of := c_margin_of B e_margin_of C_top_of C_need_bounds
  have C__law_same := c__law_same B e__law_same
  have C__law_step := c__law_step B e__law_step
  have C__law_rows := c__law_rows B e__law_rows C__law_step
  have C__law_high := c__law_high B e__law_high
  have C__law_above := c__law_above B e__law_above C__law_step
  have C__law_struck := c__law_struck B e__law_struck C__law_above
  have C__law_choose := c__law_choose B e__law_choose
  have C__law_is_plan := c__law_is_plan B e__law_is_plan
  have C__law_reading := c__law_reading B e__law_reading
  have C__law_writing := c__law_writing B e__law_writing
  have C__law_sorted := c__law_sorted B e__law_sorted C__law_choose
  have C__law_tops := c__law_tops B e__law_tops C__law_rows C__law_high
  have C__law_refused := c__law_refused B e__law_refused C__law_struck C_wall_in C__law_same C__law_tops C_margin_of C_can_keep
  have C_lifted_reach := c_lr B e_lifted_reach C_need_bounds C_need_version C_can_keep C_one_bound e__least_good TBR mR huR
  have C_lifted_width := c_lw B e_lifted_width C_need_bounds C_need_version C_can_keep C_one_bound e__least_good TBW mW huW
  have C__law_take := c_take B e__law_take
  have K_best_plan : CalK M 38 "best_plan" "reach" F_best_plan := calK_of (p1 := "many") (fun f fd F0 _ => fn_of_body F0 ⟨rfl, rfl, rfl, nd_best_plan, rfl, by decide +kernel, by decide +kernel⟩ (b_best_plan B C_least_greatest C__shaped C_need_natural C_need_number)) e_best_plan (fun _ _ _ _ _ _ _ _ => rfl)
  have K_best_for_writes : CalK M 39 "best_for_writes" "width" F_best_for_writes := calK_of (p1 := "many") (fun f fd F0 _ => fn_of_body F0 ⟨rfl, rfl, rfl, nd_best_for_writes, rfl, by decide +kernel, by decide +kernel⟩ (b_best_for_writes B C_best_plan C_mirrored C_need_natural C_need_number)) e_best_for_writes (fun _ _ _ _ _ _ _ _ => rfl)
  have C__law_drawn := c__law_drawn B e__law_drawn C__law_take
  have C__law_about := c__law_about B e__law_about C__law_tops C_can_keep C__law_same C__law_take
  have C__law_widths := c__law_widths B e__law_widths C__law_refused C_lifted_width C__law_same C_one_bound C__law_reading C__law_is_plan C__law_writing C_plan_for C_can_keep C__law_tops C_top_of C_least_greatest C_sorted_least C_least_sum C__law_sorted K_best_plan C__law_drawn C__law_about
  have C__law_reaches := c__law_reaches B e__law_reaches C__law_refused C_lifted_reach C__law_same C_one_bound C__law_writing C__law_is_plan C__law_reading C_plan_for C_can_keep C__law_tops C_top_of C__law_sorted K_best_for_writes C__law_drawn C__law_about C__law_take
  have C__law_limit := c__law_limit B e__law_limit C__law_take
  exact c_law PL B F (c_hd B Fh) mh Fh.kp bh C__law_take (C__law_widths.lev (by decide)) (C__law_reaches.lev (by decide)) (C__law_limit.lev (by decide))
end DL

set_option Elab.async false
set_option linter.all false
set_option maxRecDepth 100000
set_option maxHeartbeats 4000000
namespace DL
open PySem PySem.Spec PyProof.Rows L2 LamX NdefX

theorem all_mk {l : PySem.W.OpenLaw} {w : World} {K : PySem.W.Frag} {h : Heap} {mg : PySem.Str → Option Value} {fa : Addr} (PL : ∀ p, g_law p [.no, .pu (.adr p), .no, .no] (fun o => o = .rt (.bl true))) (X : K.In h) (G : h.Ns mainGlobals mg) (hfa : mg "law" = some (.ref fa)) {cR PR cW PW : Addr} {tg : PySem.Tok}
    (d_is_integer : DefIx K "is_integer" (topS 7)) (d_is_number : DefIx K "is_number" (topS 8)) (d_is_natural : DefIx K "is_natural" (topS 9)) (d_choose : DefIx K "choose" (topS 11)) (d_is_nested : DefIx K "is_nested" (topS 13)) (d_need_plan : DefIx K "need_plan" (topS 14)) (d_need_number : DefIx K "need_number" (topS 15)) (d_need_natural : DefIx K "need_natural" (topS 16)) (d_last_full : DefIx K "last_full" (topS 17)) (d_ahead_and_behind : DefIx K "ahead_and_behind" (topS 18)) (d_put_beside : DefIx K "put_beside" (topS 19)) (d_sorted_least : DefIx K "sorted_least" (topS 21)) (d_least_sum : DefIx K "least_sum" (topS 22)) (d_least_greatest : DefIx K "least_greatest" (topS 23)) (d__built : DefIx K "_built" (topS 25)) (d_track_of : DefIx K "track_of" (topS 26)) (d_mirrored : DefIx K "mirrored" (topS 27)) (d__shaped : DefIx K "_shaped" (topS 29)) (d_best_plan : DefIx K "best_plan" (topS 30)) (d_best_for_writes : DefIx K "best_for_writes" (topS 31)) (d_up_to : DefIx K "up_to" (topS 34)) (d_is_pair : DefIx K "is_pair" (topS 35)) (d_bound_fault : DefIx K "bound_fault" (topS 36)) (d_need_bounds : DefIx K "need_bounds" (topS 37)) (d_need_version : DefIx K "need_version" (topS 38)) (d_all_versions : DefIx K "all_versions" (topS 39)) (d_falling : DefIx K "falling" (topS 40)) (d_row_after : DefIx K "row_after" (topS 41)) (d_step_of : DefIx K "step_of" (topS 42)) (d_near_elder : DefIx K "near_elder" (topS 43)) (d_walked : DefIx K "walked" (topS 44)) (d_goes_above : DefIx K "goes_above" (topS 45)) (d_one_bound : DefIx K "one_bound" (topS 47)) (d_is_heights : DefIx K "is_heights" (topS 49)) (d_bases_by : DefIx K "bases_by" (topS 50)) (d_wall_in : DefIx K "wall_in" (topS 52)) (d_rows_of : DefIx K "rows_of" (topS 54)) (d_walk_heights : DefIx K "walk_heights" (topS 55)) (d_top_of : DefIx K "top_of" (topS 56)) (d_can_keep : DefIx K "can_keep" (topS 57)) (d_plan_for : DefIx K "plan_for" (topS 58)) (d_margin_of : DefIx K "margin_of" (topS 60)) (d__law_same : DefIx K "_law_same" (topS 67)) (d__law_step : DefIx K "_law_step" (topS 68)) (d__law_rows : DefIx K "_law_rows" (topS 69)) (d__law_high : DefIx K "_law_high" (topS 70)) (d__law_above : DefIx K "_law_above" (topS 71)) (d__law_struck : DefIx K "_law_struck" (topS 72)) (d__law_choose : DefIx K "_law_choose" (topS 73)) (d__law_is_plan : DefIx K "_law_is_plan" (topS 74)) (d__law_reading : DefIx K "_law_reading" (topS 75)) (d__law_writing : DefIx K "_law_writing" (topS 76)) (d__law_sorted : DefIx K "_law_sorted" (topS 77)) (d__law_tops : DefIx K "_law_tops" (topS 78)) (d__law_refused : DefIx K "_law_refused" (topS 79)) (d__least_good : DefIx K "_least_good" (topS 61)) (d_lifted_reach : DefIn K "lifted_reach" (topS 62) (.ref cR)) (d_lifted_width : DefIn K "lifted_width" (topS 63) (.ref cW)) (d__law_hand : DefIx K "_law_hand" (topS 65)) (d__law_take : DefIx K "_law_take" (topS 66)) (d__law_drawn : DefIx K "_law_drawn" (topS 80)) (d__law_about : DefIx K "_law_about" (topS 81)) (d__law_widths : DefIx K "_law_widths" (topS 82)) (d__law_reaches : DefIx K "_law_reaches" (topS 83)) (d__law_limit : DefIx K "_law_limit" (topS 84)) (d_law : DefIx K "law" (topS 85))
    (z_isinstance : PySem.W.nsIn K mainGlobals "isinstance" = some none) (z_int : PySem.W.nsIn K mainGlobals "int" = some none) (z_bool : PySem.W.nsIn K mainGlobals "bool" = some none) (z_tuple : PySem.W.nsIn K mainGlobals "tuple" = some none) (z_str : PySem.W.nsIn K mainGlobals "str" = some none) (z_len : PySem.W.nsIn K mainGlobals "len" = some none) (z_range : PySem.W.nsIn K mainGlobals "range" = some none) (z_enumerate : PySem.W.nsIn K mainGlobals "enumerate" = some none) (z_zip : PySem.W.nsIn K mainGlobals "zip" = some none) (z_sorted : PySem.W.nsIn K mainGlobals "sorted" = some none) (z_max : PySem.W.nsIn K mainGlobals "max" = some none) (z_min : PySem.W.nsIn K mainGlobals "min" = some none) (z_sum : PySem.W.nsIn K mainGlobals "sum" = some none) (z_any : PySem.W.nsIn K mainGlobals "any" = some none) (z_all : PySem.W.nsIn K mainGlobals "all" = some none) (z_list : PySem.W.nsIn K mainGlobals "list" = some none) (z_reversed : PySem.W.nsIn K mainGlobals "reversed" = some none) (z_abs : PySem.W.nsIn K mainGlobals "abs" = some none) (z_comb : PySem.W.nsIn K mainGlobals "comb" = some (some (.builtin "math.comb"))) (z_gb : PySem.W.nsIn K mainGlobals "GREATEST_BOUND" = some (some (.int 999 tg)))
    (hne : PR ≠ PW) (tR : h.get? PR = some { cls := .none, data := .fields #[] }) (tW : h.get? PW = some { cls := .none, data := .fields #[] }) (nR : K.lookup PR = none) (nW : K.lookup PW = none) (gR : PySem.W.codeHdIn K cR PR = true) (gW : PySem.W.codeHdIn K cW PW = true) :
    LawAtS l w K CX0 61 63 "_law_script" mg fa h := by
  have B : Blt mg := ⟨PySem.W.mg_none_of X G z_isinstance, PySem.W.mg_none_of X G z_int, PySem.W.mg_none_of X G z_bool, PySem.W.mg_none_of X G z_tuple, PySem.W.mg_none_of X G z_str, PySem.W.mg_none_of X G z_len, PySem.W.mg_none_of X G z_range, PySem.W.mg_none_of X G z_enumerate, PySem.W.mg_none_of X G z_zip, PySem.W.mg_none_of X G z_sorted, PySem.W.mg_none_of X G z_max, PySem.W.mg_none_of X G z_min, PySem.W.mg_none_of X G z_sum, PySem.W.mg_none_of X G z_any, PySem.W.mg_none_of X G z_all, PySem.W.mg_none_of X G z_list, PySem.W.mg_none_of X G z_reversed, PySem.W.mg_none_of X G z_abs, PySem.W.mg_of X G z_comb, ⟨tg, PySem.W.mg_of X G z_gb⟩⟩
  obtain ⟨cdh, fh, och, odh, kVh, doch, pmh, anh, cth, oslh, ah, lh, ch, kh⟩ := d__law_hand
  have Fh := fun_mk (st := topS 65) lh ch kh
  obtain ⟨cdl, fl, ocl, odl, kVl, docl, pml, anl, ctl, osll, al, ll, cl, kl⟩ := d_law
  have Fl := fun_mk (st := topS 85) ll cl kl
  have e := hfa.symm.trans (PySem.W.mg_of X G al)
  cases e
  have bh := Fh.binds (ps := ["_law_script"]) (fun _ _ _ _ _ _ us hl => match us, hl with | [_], _ => rfl)
  refine ⟨PySem.W.fnOf "law" "law" (defArgs (topS 85)) (defBody (topS 85)) (defScope (topS 85)) .none kVl docl pml anl cdl ctl, [(cR, PR), (cW, PW)], spLaw K [(PR, nmR), (PW, nmW)], fun p hp => ?_, fun p hp => ?_, fun p hp => ?_, fun s u => .of_eq rfl, fun H a ns hl _ hH hS => ⟨a, ns, rfl, hS, by omega, fun p hp => ?_, fun _ => rfl⟩, fun base KB GB hTB => ?_⟩
  · rcases List.mem_cons.mp hp with z | hp
    · rw [z]; exact tR
    · rw [List.mem_singleton.mp hp]; exact tW
  · rcases List.mem_cons.mp hp with z | hp
    · rw [z]; exact nR
    · rw [List.mem_singleton.mp hp]; exact nW
  · rcases List.mem_cons.mp hp with z | hp
    · rw [z]; exact PySem.W.codeHd_of_K X gR
    · rw [List.mem_singleton.mp hp]; exact PySem.W.codeHd_of_K X gW
  · rcases List.mem_cons.mp hp with z | hp
    · rw [z]; exact TabN.nil (hH (cR, PR) List.mem_cons_self)
    · rw [List.mem_singleton.mp hp]; exact TabN.nil (hH (cW, PW) (List.mem_cons_of_mem _ List.mem_cons_self))
  · exact chain (M := ⟨l.prog, w, K, mg, base, [(PR, nmR), (PW, nmW)]⟩) PL B rfl hne (hTB (cR, PR) List.mem_cons_self) (hTB (cW, PW) (List.mem_cons_of_mem _ List.mem_cons_self))
      (defAt KB GB d_is_integer (fun _ _ _ _ _ _ us hl => match us, hl with | [_], _ => rfl))
      (defAt KB GB d_is_number (fun _ _ _ _ _ _ us hl => match us, hl with | [_], _ => rfl))
      (defAt KB GB d_is_natural (fun _ _ _ _ _ _ us hl => match us, hl with | [_], _ => rfl))
      (defAt KB GB d_choose (fun _ _ _ _ _ _ us hl => match us, hl with | [_, _], _ => rfl))
      (defAt KB GB d_is_nested (fun _ _ _ _ _ _ us hl => match us, hl with | [_], _ => rfl))
      (defAt KB GB d_need_plan (fun _ _ _ _ _ _ us hl => match us, hl with | [_, _], _ => rfl))
      (defAt KB GB d_need_number (fun _ _ _ _ _ _ us hl => match us, hl with | [_, _], _ => rfl))
      (defAt KB GB d_need_natural (fun _ _ _ _ _ _ us hl => match us, hl with | [_, _], _ => rfl))
      (defAt KB GB d_last_full (fun _ _ _ _ _ _ us hl => match us, hl with | [_], _ => rfl))
      (defAt KB GB d_ahead_and_behind (fun _ _ _ _ _ _ us hl => match us, hl with | [_], _ => rfl))
      (defAt KB GB d_put_beside (fun _ _ _ _ _ _ us hl => match us, hl with | [_, _], _ => rfl))
      (defAt KB GB d_sorted_least (fun _ _ _ _ _ _ us hl => match us, hl with | [_, _], _ => rfl))
      (defAt KB GB d_least_sum (fun _ _ _ _ _ _ us hl => match us, hl with | [_, _], _ => rfl))
      (defAt KB GB d_least_greatest (fun _ _ _ _ _ _ us hl => match us, hl with | [_, _], _ => rfl))
      (defAt KB GB d__built (fun _ _ _ _ _ _ us hl => match us, hl with | [_, _], _ => rfl))
      (defAt KB GB d_track_of (fun _ _ _ _ _ _ us hl => match us, hl with | [_], _ => rfl))
      (defAt KB GB d_mirrored (fun _ _ _ _ _ _ us hl => match us, hl with | [_], _ => rfl))
      (defAt KB GB d__shaped (fun _ _ _ _ _ _ us hl => match us, hl with | [_, _, _], _ => rfl))
      (defAt KB GB d_best_plan (fun _ _ _ _ _ _ us hl => match us, hl with | [_, _], _ => rfl))
      (defAt KB GB d_best_for_writes (fun _ _ _ _ _ _ us hl => match us, hl with | [_, _], _ => rfl))
      (defAt KB GB d_up_to (fun _ _ _ _ _ _ us hl => match us, hl with | [_, _], _ => rfl))
      (defAt KB GB d_is_pair (fun _ _ _ _ _ _ us hl => match us, hl with | [_], _ => rfl))
      (defAt KB GB d_bound_fault (fun _ _ _ _ _ _ us hl => match us, hl with | [_, _], _ => rfl))
      (defAt KB GB d_need_bounds (fun _ _ _ _ _ _ us hl => match us, hl with | [_, _], _ => rfl))
      (defAt KB GB d_need_version (fun _ _ _ _ _ _ us hl => match us, hl with | [_, _], _ => rfl))
      (defAt KB GB d_all_versions (fun _ _ _ _ _ _ us hl => match us, hl with | [_], _ => rfl))
      (defAt KB GB d_falling (fun _ _ _ _ _ _ us hl => match us, hl with | [_], _ => rfl))
      (defAt KB GB d_row_after (fun _ _ _ _ _ _ us hl => match us, hl with | [_, _, _], _ => rfl))
      (defAt KB GB d_step_of (fun _ _ _ _ _ _ us hl => match us, hl with | [_, _, _], _ => rfl))
      (defAt KB GB d_near_elder (fun _ _ _ _ _ _ us hl => match us, hl with | [_, _, _], _ => rfl))
      (defAt KB GB d_walked (fun _ _ _ _ _ _ us hl => match us, hl with | [_, _, _], _ => rfl))
      (defAt KB GB d_goes_above (fun _ _ _ _ _ _ us hl => match us, hl with | [_, _, _], _ => rfl))
      (defAt KB GB d_one_bound (fun _ _ _ _ _ _ us hl => match us, hl with | [_, _, _, _, _], _ => rfl))
      (defAt KB GB d_is_heights (fun _ _ _ _ _ _ us hl => match us, hl with | [_, _], _ => rfl))
      (defAt KB GB d_bases_by (fun _ _ _ _ _ _ us hl => match us, hl with | [_, _], _ => rfl))
      (defAt KB GB d_wall_in (fun _ _ _ _ _ _ us hl => match us, hl with | [_, _], _ => rfl))
      (defAt KB GB d_rows_of (fun _ _ _ _ _ _ us hl => match us, hl with | [_, _], _ => rfl))
      (defAt KB GB d_walk_heights (fun _ _ _ _ _ _ us hl => match us, hl with | [_, _], _ => rfl))
      (defAt KB GB d_top_of (fun _ _ _ _ _ _ us hl => match us, hl with | [_, _], _ => rfl))
      (defAt KB GB d_can_keep (fun _ _ _ _ _ _ us hl => match us, hl with | [_, _], _ => rfl))
      (defAt KB GB d_plan_for (fun _ _ _ _ _ _ us hl => match us, hl with | [_, _], _ => rfl))
      (defAt KB GB d_margin_of (fun _ _ _ _ _ _ us hl => match us, hl with | [_, _], _ => rfl))
      (defAt KB GB d__law_same (fun _ _ _ _ _ _ us hl => match us, hl with | [_, _], _ => rfl))
      (defAt KB GB d__law_step (fun _ _ _ _ _ _ us hl => match us, hl with | [_, _, _], _ => rfl))
      (defAt KB GB d__law_rows (fun _ _ _ _ _ _ us hl => match us, hl with | [_, _, _], _ => rfl))
      (defAt KB GB d__law_high (fun _ _ _ _ _ _ us hl => match us, hl with | [_], _ => rfl))
      (defAt KB GB d__law_above (fun _ _ _ _ _ _ us hl => match us, hl with | [_, _, _, _, _], _ => rfl))
      (defAt KB GB d__law_struck (fun _ _ _ _ _ _ us hl => match us, hl with | [_, _, _, _], _ => rfl))
      (defAt KB GB d__law_choose (fun _ _ _ _ _ _ us hl => match us, hl with | [_, _], _ => rfl))
      (defAt KB GB d__law_is_plan (fun _ _ _ _ _ _ us hl => match us, hl with | [_, _], _ => rfl))
      (defAt KB GB d__law_reading (fun _ _ _ _ _ _ us hl => match us, hl with | [_], _ => rfl))
      (defAt KB GB d__law_writing (fun _ _ _ _ _ _ us hl => match us, hl with | [_], _ => rfl))
      (defAt KB GB d__law_sorted (fun _ _ _ _ _ _ us hl => match us, hl with | [_, _], _ => rfl))
      (defAt KB GB d__law_tops (fun _ _ _ _ _ _ us hl => match us, hl with | [_, _], _ => rfl))
      (defAt KB GB d__law_refused (fun _ _ _ _ _ _ us hl => match us, hl with | [_, _], _ => rfl))
      (defAt KB GB d__least_good (fun _ _ _ _ _ _ us hl => match us, hl with | [_, _, _], _ => rfl))
      (defAtC KB GB d_lifted_reach (fun _ _ _ _ _ _ us hl => match us, hl with | [_, _, _], _ => rfl))
      (defAtC KB GB d_lifted_width (fun _ _ _ _ _ _ us hl => match us, hl with | [_, _, _], _ => rfl))
      (defAt KB GB d__law_take (fun _ _ _ _ _ _ us hl => match us, hl with | [_, _], _ => rfl))
      (defAt KB GB d__law_drawn (fun _ _ _ _ _ _ us hl => match us, hl with | [_, _], _ => rfl))
      (defAt KB GB d__law_about (fun _ _ _ _ _ _ us hl => match us, hl with | [_, _, _, _], _ => rfl))
      (defAt KB GB d__law_widths (fun _ _ _ _ _ _ us hl => match us, hl with | [_, _, _], _ => rfl))
      (defAt KB GB d__law_reaches (fun _ _ _ _ _ _ us hl => match us, hl with | [_, _, _], _ => rfl))
      (defAt KB GB d__law_limit (fun _ _ _ _ _ _ us hl => match us, hl with | [_], _ => rfl))
      Fh (PySem.W.mg_of X G ah) bh Fl
end DL

set_option Elab.async false
set_option linter.all false
set_option maxRecDepth 100000
set_option maxHeartbeats 4000000
namespace DL
open PySem
/-! ### the plain law: bounds, checks -/
abbrev nv (v : Nat) : D := .int (Int.ofNat v)
def lineL (L : Nat) : List D := (List.range L).map nv
def lineT (L : Nat) : D := .tup (lineL L)
def prs (ps : List (Int × Int)) : List D := ps.map fun q => .tup [.int q.1, .int q.2]
def bd (roof : Int) (ps : List (Int × Int)) : D := .tup [.int roof, .tup (prs ps)]
structure Val (L : Nat) (roof : Int) (ps : List (Int × Int)) : Prop where
  l : L ≤ 20
  r1 : 1 ≤ roof
  r2 : roof ≤ 999
  len : ps.length = L
  q : ∀ q ∈ ps, 1 ≤ q.1 ∧ q.1 ≤ 999 ∧ 1 ≤ q.2 ∧ q.2 ≤ roof
theorem nat_ok {a : Int} (h : 1 ≤ a) : F_is_natural [.int a] = some (.bl true) := by
  simp [F_is_natural, runFn, g_is_natural, F_is_integer, g_is_integer, cRet, eAnd, eCall, aCons, aNil, eVar, eOp, eUn, gIs, gI, eC, eNot, isInt, isBl, gd, h]
theorem up_ok {a g : Int} (h : 1 ≤ a) (h2 : a ≤ g) : F_up_to [.int a, .int g] = some (.bl true) := by
  simp [F_up_to, runFn, g_up_to, nat_ok h, cRet, eAnd, eCall, aCons, aNil, eVar, eOp, gI, gd, h2]
theorem pair_ok {a b : D} : F_is_pair [.tup [a, b]] = some (.bl true) := by rfl
theorem lineL_len (L : Nat) : (lineL L).length = L := by
  unfold lineL
  rw [List.length_map, List.length_range]
theorem prs_len (ps : List (Int × Int)) : (prs ps).length = ps.length := by
  unfold prs
  rw [List.length_map]
theorem forL_nx {t : Tg} {body : Env → Option Out} {d : D} {r : List D} {ρ ρ1 ρ' : Env} (h1 : t.put d ρ = some ρ1) (h2 : body ρ1 = some (.nx ρ')) : forL t body (d :: r) ρ = forL t body r ρ' := by
  rw [forL, h1]
  show (match body ρ1 with
    | some (.nx ρ') => forL t body r ρ'
    | some (.ct ρ') => forL t body r ρ'
    | some (.bk ρ') => some (.nx ρ')
    | some (.rt d) => some (.rt d)
    | none => none) = _
  rw [h2]
def cBf : Env → Option Out := (cSeq (cIf (bNot (bOf (eCall F_is_pair (aCons (eVar 5) aNil)))) (cRet (eTup (aSz (aCons (eC (.str ("pair" : PySem.Str))) (aCons (eVar 4) aNil))))) cNext) (cSeq (cIf (bNot (bOf (eCall F_up_to (aCons (eOp gIx (eVar 5) (eC (.int 0))) (aCons (eC (.int 999)) aNil))))) (cRet (eTup (aSz (aCons (eC (.str ("width" : PySem.Str))) (aCons (eVar 4) aNil))))) cNext) (cIf (bNot (bOf (eCall F_up_to (aCons (eOp gIx (eVar 5) (eC (.int 1))) (aCons (eVar 2) aNil))))) (cRet (eTup (aSz (aCons (eC (.str ("reach" : PySem.Str))) (aCons (eVar 4) aNil))))) cNext)))
theorem bf_loop {h b w : D} {roof : Int} : ∀ (ps : List (Int × Int)) (k : Int) (x y : Sl), (∀ q ∈ ps, 1 ≤ q.1 ∧ q.1 ≤ 999 ∧ 1 ≤ q.2 ∧ q.2 ≤ roof) → ∃ x' y', forL (.two 4 5) cBf (enD k (prs ps)) [.pu h, .pu b, .pu (.int roof), .pu w, x, y] = some (.nx [.pu h, .pu b, .pu (.int roof), .pu w, x', y'])
  | [], _, x, y, _ => ⟨x, y, rfl⟩
  | (a, r) :: ps, k, x, y, hv => by
    obtain ⟨h1, h2, h3, h4⟩ := hv (a, r) List.mem_cons_self
    obtain ⟨x', y', e⟩ := bf_loop (h := h) (b := b) (w := w) ps (k + 1) (.pu (.int k)) (.pu (.tup [.int a, .int r])) fun q hq => hv q (List.mem_cons_of_mem _ hq)
    refine ⟨x', y', ?_⟩
    have hb : cBf [.pu h, .pu b, .pu (.int roof), .pu w, .pu (.int k), .pu (.tup [.int a, .int r])] = some (.nx [.pu h, .pu b, .pu (.int roof), .pu w, .pu (.int k), .pu (.tup [.int a, .int r])]) := by
      have u1 := up_ok h1 h2
      have u2 := up_ok h3 h4
      dsimp only at u1 u2
      simp [cBf, cSeq, cIf, bNot, bOf, eCall, aCons, aNil, eVar, pair_ok, eOp, gIx, atD, eC, u1, u2, cNext]
    show forL (.two 4 5) cBf (.tup [.int k, .tup [.int a, .int r]] :: enD (k + 1) (prs ps)) _ = _
    rw [forL_nx rfl hb]
    exact e
theorem need_ok {L : Nat} {roof : Int} {ps : List (Int × Int)} (v : Val L roof ps) : F_need_bounds [lineT L, bd roof ps] = some .non := by
  obtain ⟨x', y', e⟩ := bf_loop (h := lineT L) (b := bd roof ps) (w := .tup (prs ps)) (roof := roof) ps 0 .no .no v.q
  have u1 := up_ok v.r1 v.r2
  have e1 : ((prs ps).length : Int) = ((lineL L).length : Int) := by rw [prs_len, lineL_len, v.len]
  have e2 : F_bound_fault [lineT L, bd roof ps] = some .non := by
    have hb : g_bound_fault [.pu (lineT L), .pu (bd roof ps), .no, .no, .no, .no] = some (.rt .non) := by
      have e3 : cFor (iEnD 0 (eVar 3)) (.two 4 5) cBf [.pu (lineT L), .pu (bd roof ps), .pu (.int roof), .pu (.tup (prs ps)), .no, .no] = some (.nx [.pu (lineT L), .pu (bd roof ps), .pu (.int roof), .pu (.tup (prs ps)), x', y']) := e
      show (cSeq _ (cSeq _ (cSeq _ (cSeq _ (cSeq (cFor (iEnD 0 (eVar 3)) (.two 4 5) cBf) (cRet (eC .non))))))) _ = _
      simp only [cSeq, cIf, bNot, bOf, eCall, aCons, aNil, eVar, eC, cNext, cUnp, bd, List.getElem?_cons_succ, List.getElem?_cons_zero, pair_ok, u1, List.set_cons_succ, List.set_cons_zero, Bool.not_true, bOr, eUn, gIs, isTupD, eOp, gNe, gLen, lineT]
      simp only [lineT, bd] at e3
      simp [e1, e3, cRet, eC]
    show gd true (match g_bound_fault [.pu (lineT L), .pu (bd roof ps), .no, .no, .no, .no] with
      | some (.rt d) => some d
      | some (.nx _) => some .non
      | _ => none) = _
    rw [hb] <;> rfl
  simp [F_need_bounds, runFn, g_need_bounds, cIf, bOf, eOp, eCall, aCons, aNil, eVar, e2, gNotN, isN, eC, cNext, gd]
end DL

set_option Elab.async false
set_option linter.all false
set_option maxRecDepth 100000
set_option maxHeartbeats 4000000
namespace DL
open PySem
/-! ### the plain law: one step -/
abbrev tI_ (r : List Int) : D := .tup (r.map D.int)
theorem lc_map {α : Type} {t : Tg} {tt : Env → Option Bool} {el : Env → Option D} {ρw : Env} (f : α → D) (p : α → Bool) (e : α → D) : ∀ (l : List α), (∀ a ∈ l, ∃ ρ2, t.put (f a) ρw = some ρ2 ∧ tt ρ2 = some (p a) ∧ (p a = true → el ρ2 = some (e a))) → lcL t tt el ρw (l.map f) = some ((l.filter p).map e)
  | [], _ => rfl
  | a :: l, h => by
    obtain ⟨ρ2, h1, h2, h3⟩ := h a List.mem_cons_self
    have ih := lc_map f p e l fun b hb => h b (List.mem_cons_of_mem _ hb)
    rw [List.map_cons, lcL, h1]
    simp only [h2]
    cases hp : p a with
    | true =>
      simp only [h3 hp, ih]
      rw [List.filter_cons_of_pos hp, List.map_cons]
    | false =>
      simp only [ih]
      rw [List.filter_cons_of_neg (by rw [hp]; exact Bool.false_ne_true)]
def tallM (w fl : Int) (r : List Int) : Int := match decide (w ≤ (r.length : Int)) with
  | true => match r[(w - 1).toNat]? with
    | some x => match decide (fl ≤ x) with
      | true => x + 1
      | false => fl
    | none => fl
  | false => fl
def rowM (w fl : Int) (r : List Int) : List Int := r.filter (fun m => decide (tallM w fl r ≤ m)) ++ [tallM w fl r]
theorem szOk_of {l : List D} (h : l.length ≤ 4000) : szOk l = true := by
  unfold szOk
  rw [Nat.ble_eq]
  exact h
theorem fall_ok {l : List Int} : F_falling [.lst (l.map D.int)] = some (tI_ (rsort l)) := by
  simp [F_falling, runFn, g_falling, cRet, eCall, aCons, aNil, eFz, lSortR, eVar, intsOf_map, gTupl, gd]
theorem ix_ints {r : List Int} {k : Int} (h : 0 ≤ k) (h2 : k < r.length) : gIx (tI_ r) (.int k) = some (.int (r[k.toNat]'(by omega))) := by
  obtain ⟨n, rfl⟩ := Int.eq_ofNat_of_zero_le h
  have hk : n < r.length := by omega
  show (r.map D.int)[n]? = _
  rw [List.getElem?_map, List.getElem?_eq_getElem hk]
  simp
theorem tail_ok {w fl h : Int} {r : List Int} {s4 : Sl} (hl : r.length ≤ 100) : cRet (eOp gAdd (eCall gTupl (aCons (eFz (fLc (iTupD (eVar 2)) (.one 4) (List.map (·.2) ([("member", 4)] : List (PySem.Str × Nat))) (bOf (eOp (gI fun i j => decide (j ≤ i)) (eVar 4) (eVar 3))) (eVar 4))) aNil)) (eTup (aSz (aCons (eVar 3) aNil)))) [.pu (.int w), .pu (.int fl), .pu (tI_ r), .pu (.int h), s4] =
    some (.rt (tI_ (r.filter (fun m => decide (h ≤ m)) ++ [h]))) := by
  have e1 : lcL (.one 4) (bOf (eOp (gI fun i j => decide (j ≤ i)) (eVar 4) (eVar 3))) (eVar 4) (wipeE [.pu (.int w), .pu (.int fl), .pu (tI_ r), .pu (.int h), s4] [4]) (r.map D.int) = some ((r.filter (fun m => decide (h ≤ m))).map D.int) :=
    lc_map D.int (fun m => decide (h ≤ m)) D.int r fun a _ => ⟨_, rfl, rfl, fun _ => rfl⟩
  have z1 : szOk (r.map D.int) = true := szOk_of (by rw [List.length_map]; omega)
  have z3 : szOk ((r.filter (fun m => decide (h ≤ m))).map D.int ++ [D.int h]) = true := szOk_of (by
    have := List.length_filter_le (fun m => decide (h ≤ m)) r
    rw [List.length_append, List.length_map, List.length_singleton]
    omega)
  have e2 : fLc (iTupD (eVar 2)) (.one 4) (List.map (·.2) ([("member", 4)] : List (PySem.Str × Nat))) (bOf (eOp (gI fun i j => decide (j ≤ i)) (eVar 4) (eVar 3))) (eVar 4) [.pu (.int w), .pu (.int fl), .pu (tI_ r), .pu (.int h), s4] = some ((r.filter (fun m => decide (h ≤ m))).map D.int) := by
    show gd (szOk (r.map D.int)) (lcL (.one 4) _ _ (wipeE _ [4]) (r.map D.int)) = _
    rw [z1, e1] <;> rfl
  have z4 : szOk [D.int h] = true := rfl
  have e2' : fLc (iTupD (eVar 2)) (.one 4) [4] (bOf (eOp (gI fun i j => decide (j ≤ i)) (eVar 4) (eVar 3))) (eVar 4) [.pu (.int w), .pu (.int fl), .pu (tI_ r), .pu (.int h), s4] = some ((r.filter (fun m => decide (h ≤ m))).map D.int) := e2
  simp [e2', cRet, eOp, eCall, aCons, aNil, eFz, e2, gTupl, eTup, aSz, eVar, gd, gAdd, z3, z4]
theorem row_ok {w fl : Int} {r : List Int} (hw : 1 ≤ w) (hl : r.length ≤ 100) : F_row_after [.int w, .int fl, tI_ r] = some (tI_ (rowM w fl r)) := by
  have hlen : ((r.map D.int).length : Int) = (r.length : Int) := by rw [List.length_map]
  have key : g_row_after [.pu (.int w), .pu (.int fl), .pu (tI_ r), .no, .no] = some (.rt (tI_ (rowM w fl r))) := by
    have tail := fun h s => tail_ok (w := w) (fl := fl) (h := h) (r := r) (s4 := s) hl
    have e0 : cSet 3 (eVar 1) [.pu (.int w), .pu (.int fl), .pu (tI_ r), .no, .no] = some (.nx [.pu (.int w), .pu (.int fl), .pu (tI_ r), .pu (.int fl), .no]) := rfl
    have e1 : cIf (bAnd (bOf (eOp (gI fun i j => decide (j ≤ i)) (eCall gLen (aCons (eVar 2) aNil)) (eVar 0))) (bOf (eOp (gI fun i j => decide (j ≤ i)) (eOp gIx (eVar 2) (eOp gSub (eVar 0) (eC (.int 1)))) (eVar 1)))) (cSet 3 (eOp gAdd (eOp gIx (eVar 2) (eOp gSub (eVar 0) (eC (.int 1)))) (eC (.int 1)))) cNext [.pu (.int w), .pu (.int fl), .pu (tI_ r), .pu (.int fl), .no] =
        some (.nx [.pu (.int w), .pu (.int fl), .pu (tI_ r), .pu (.int (tallM w fl r)), .no]) := by
      have c1 : bOf (eOp (gI fun i j => decide (j ≤ i)) (eCall gLen (aCons (eVar 2) aNil)) (eVar 0)) [.pu (.int w), .pu (.int fl), .pu (tI_ r), .pu (.int fl), .no] = some (decide (w ≤ (r.length : Int))) := by
        show some (decide (w ≤ ((r.map D.int).length : Int))) = _
        rw [hlen]
      by_cases hc : w ≤ (r.length : Int)
      · have hk : (w - 1).toNat < r.length := by omega
        have ix := ix_ints (r := r) (k := w - 1) (by omega) (by omega)
        have e3 : eOp gIx (eVar 2) (eOp gSub (eVar 0) (eC (.int 1))) [.pu (.int w), .pu (.int fl), .pu (tI_ r), .pu (.int fl), .no] = some (.int r[(w - 1).toNat]) := ix
        have c2 : bOf (eOp (gI fun i j => decide (j ≤ i)) (eOp gIx (eVar 2) (eOp gSub (eVar 0) (eC (.int 1)))) (eVar 1)) [.pu (.int w), .pu (.int fl), .pu (tI_ r), .pu (.int fl), .no] = some (decide (fl ≤ r[(w - 1).toNat])) := by
          unfold bOf
          rw [eOp, e3] <;> rfl
        have tm : tallM w fl r = match decide (fl ≤ r[(w - 1).toNat]) with
            | true => r[(w - 1).toNat] + 1
            | false => fl := by
          unfold tallM
          rw [decide_eq_true hc, List.getElem?_eq_getElem hk] <;> rfl
        unfold cIf bAnd
        rw [c1, decide_eq_true hc]
        simp only [c2]
        rw [tm]
        cases hd : decide (fl ≤ r[(w - 1).toNat]) with
        | true =>
          show cSet 3 (eOp gAdd (eOp gIx (eVar 2) (eOp gSub (eVar 0) (eC (.int 1)))) (eC (.int 1))) _ = _
          unfold cSet
          rw [eOp, e3] <;> rfl
        | false => rfl
      · have tm : tallM w fl r = fl := by
          unfold tallM
          rw [decide_eq_false hc] <;> rfl
        unfold cIf bAnd
        rw [c1, decide_eq_false hc, tm] <;> rfl
    unfold g_row_after
    rw [cSeq, e0]
    show cSeq _ _ _ = _
    rw [cSeq, e1]
    exact tail _ _
  show gd true (match g_row_after [.pu (.int w), .pu (.int fl), .pu (tI_ r), .no, .no] with
      | some (.rt d) => some d
      | some (.nx _) => some .non
      | _ => none) = _
  rw [key] <;> rfl
end DL

set_option Elab.async false
set_option linter.all false
set_option maxRecDepth 100000
set_option maxHeartbeats 4000000
namespace DL
open PySem
/-! ### the plain law: the walk of a line -/
/-- the pair of a version -/
def pairAt (ps : List (Int × Int)) (v : Nat) : Int × Int := ps.getD (v - 1) (1, 1)
def stM (roof : Int) (ps : List (Int × Int)) (v : Nat) (m : List Int) : List Int := rowM (pairAt ps v).1 (roof + 1 - (pairAt ps v).2) (rsort m)
theorem rsort_len (l : List Int) : (rsort l).length = l.length := by
  unfold rsort
  rw [List.length_reverse]
  exact (isort_perm l).length_eq
theorem rowM_len (w fl : Int) (r : List Int) : (rowM w fl r).length ≤ r.length + 1 := by
  unfold rowM
  rw [List.length_append, List.length_singleton]
  have := List.length_filter_le (fun m => decide (tallM w fl r ≤ m)) r
  omega
theorem stM_len (roof : Int) (ps : List (Int × Int)) (v : Nat) (m : List Int) : (stM roof ps v m).length ≤ m.length + 1 := by
  have := rowM_len (pairAt ps v).1 (roof + 1 - (pairAt ps v).2) (rsort m)
  rw [rsort_len] at this
  exact this
theorem prs_at {ps : List (Int × Int)} {v : Nat} (h1 : 1 ≤ v) (h2 : v ≤ ps.length) : gIx (.tup (prs ps)) (.int (Int.ofNat v - 1)) = some (.tup [.int (pairAt ps v).1, .int (pairAt ps v).2]) := by
  obtain ⟨n, rfl⟩ : ∃ n, v = n + 1 := ⟨v - 1, by omega⟩
  have e : Int.ofNat (n + 1) - 1 = Int.ofNat n := by
    show ((n + 1 : Nat) : Int) - 1 = (n : Int)
    omega
  rw [e]
  show (prs ps)[n]? = _
  unfold prs pairAt
  have hn : n < ps.length := by omega
  rw [List.getElem?_map, List.getElem?_eq_getElem hn]
  simp [hn]
theorem pairAt_ok {L : Nat} {roof : Int} {ps : List (Int × Int)} (hv : Val L roof ps) {v : Nat} (h1 : 1 ≤ v) (h2 : v ≤ L) : 1 ≤ (pairAt ps v).1 ∧ (pairAt ps v).1 ≤ 999 ∧ 1 ≤ (pairAt ps v).2 ∧ (pairAt ps v).2 ≤ roof := by
  have hn : v - 1 < ps.length := by rw [hv.len]; omega
  have e : pairAt ps v = ps[v - 1] := by
    unfold pairAt
    simp [hn]
  rw [e]
  exact hv.q _ (List.getElem_mem hn)
theorem step_ok {L : Nat} {roof : Int} {ps : List (Int × Int)} (hv : Val L roof ps) {v : Nat} {m : List Int} (h1 : 1 ≤ v) (h2 : v ≤ L) (hm : m.length ≤ 99) : F_step_of [bd roof ps, nv v, .lst (m.map D.int)] = some (tI_ (stM roof ps v m)) := by
  have pa := prs_at (ps := ps) h1 (by rw [hv.len]; exact h2)
  have ro := row_ok (w := (pairAt ps v).1) (fl := roof + 1 - (pairAt ps v).2) (r := rsort m) (pairAt_ok hv h1 h2).1 (by rw [rsort_len]; omega)
  have fo := fall_ok (l := m)
  have e0 : cUnp 3 4 (eVar 0) [.pu (bd roof ps), .pu (nv v), .pu (.lst (m.map D.int)), .no, .no, .no, .no] = some (.nx [.pu (bd roof ps), .pu (nv v), .pu (.lst (m.map D.int)), .pu (.int roof), .pu (.tup (prs ps)), .no, .no]) := rfl
  have e1 : eOp gIx (eVar 4) (eOp gSub (eVar 1) (eC (.int 1))) [.pu (bd roof ps), .pu (nv v), .pu (.lst (m.map D.int)), .pu (.int roof), .pu (.tup (prs ps)), .no, .no] = some (.tup [.int (pairAt ps v).1, .int (pairAt ps v).2]) := pa
  have e2 : cUnp 5 6 (eOp gIx (eVar 4) (eOp gSub (eVar 1) (eC (.int 1)))) [.pu (bd roof ps), .pu (nv v), .pu (.lst (m.map D.int)), .pu (.int roof), .pu (.tup (prs ps)), .no, .no] = some (.nx [.pu (bd roof ps), .pu (nv v), .pu (.lst (m.map D.int)), .pu (.int roof), .pu (.tup (prs ps)), .pu (.int (pairAt ps v).1), .pu (.int (pairAt ps v).2)]) := by
    unfold cUnp
    rw [e1] <;> rfl
  have e3 : eCall F_falling (aCons (eVar 2) aNil) [.pu (bd roof ps), .pu (nv v), .pu (.lst (m.map D.int)), .pu (.int roof), .pu (.tup (prs ps)), .pu (.int (pairAt ps v).1), .pu (.int (pairAt ps v).2)] = some (tI_ (rsort m)) := fo
  have e4 : cRet (eCall F_row_after (aCons (eVar 5) (aCons (eOp gSub (eOp gAdd (eVar 3) (eC (.int 1))) (eVar 6)) (aCons (eCall F_falling (aCons (eVar 2) aNil)) aNil)))) [.pu (bd roof ps), .pu (nv v), .pu (.lst (m.map D.int)), .pu (.int roof), .pu (.tup (prs ps)), .pu (.int (pairAt ps v).1), .pu (.int (pairAt ps v).2)] = some (.rt (tI_ (stM roof ps v m))) := by
    simp only [cRet, eCall, aCons, aNil, eVar, eOp, gAdd, gSub, eC, List.getElem?_cons_succ, List.getElem?_cons_zero, fo, ro]
    rfl
  have key : g_step_of [.pu (bd roof ps), .pu (nv v), .pu (.lst (m.map D.int)), .no, .no, .no, .no] = some (.rt (tI_ (stM roof ps v m))) := by
    unfold g_step_of
    rw [cSeq, e0]
    show cSeq _ _ _ = _
    rw [cSeq, e2]
    exact e4
  show gd true (match g_step_of [.pu (bd roof ps), .pu (nv v), .pu (.lst (m.map D.int)), .no, .no, .no, .no] with
      | some (.rt d) => some d
      | some (.nx _) => some .non
      | _ => none) = _
  rw [key] <;> rfl
/-! near_elder -/
def nearM (mk : Nat → Bool) : Nat → Nat
  | 0 => 0
  | e + 1 => match mk (e + 1) with
    | true => e + 1
    | false => nearM mk e
theorem line_at {L n : Nat} (h : n < L) : gIx (lineT L) (.int (Int.ofNat (n + 1) - 1)) = some (nv n) := by
  have e : Int.ofNat (n + 1) - 1 = Int.ofNat n := by
    show ((n + 1 : Nat) : Int) - 1 = (n : Int)
    omega
  rw [e]
  show (lineL L)[n]? = _
  unfold lineL
  rw [List.getElem?_map, List.getElem?_range h] <;> rfl
abbrev nwC : Env → Option Bool := bAnd (bOf (eOp gNe (eVar 3) (eC (.int 0)))) (bNot (bOf (eOp gIx (eVar 1) (eVar 3))))
abbrev nwB : Env → Option Out := cSet 3 (eOp gIx (eVar 0) (eOp gSub (eVar 3) (eC (.int 1))))
theorem near_loop {L : Nat} {ms : List D} {mk : Nat → Bool} {x : D} (hm : ∀ j, j ≤ L → ms[j]? = some (.bl (mk j))) : ∀ (e n : Nat), e ≤ L → e < n → whileL nwC nwB n [.pu (lineT L), .pu (.lst ms), .pu x, .pu (nv e)] = some (.nx [.pu (lineT L), .pu (.lst ms), .pu x, .pu (nv (nearM mk e))])
  | _, 0, _, h => absurd h (Nat.not_lt_zero _)
  | 0, n + 1, _, _ => rfl
  | e + 1, n + 1, hL, hn => by
    have c1 : bOf (eOp gNe (eVar 3) (eC (.int 0))) [.pu (lineT L), .pu (.lst ms), .pu x, .pu (nv (e + 1))] = some true := by
      show some (!decide (Int.ofNat (e + 1) = 0)) = _
      have : decide (Int.ofNat (e + 1) = 0) = false := decide_eq_false (by
        intro h
        have h : ((e + 1 : Nat) : Int) = 0 := h
        omega)
      rw [this] <;> rfl
    have c2 : bNot (bOf (eOp gIx (eVar 1) (eVar 3))) [.pu (lineT L), .pu (.lst ms), .pu x, .pu (nv (e + 1))] = some (!mk (e + 1)) := by
      have e4 : eOp gIx (eVar 1) (eVar 3) [.pu (lineT L), .pu (.lst ms), .pu x, .pu (nv (e + 1))] = some (.bl (mk (e + 1))) := hm (e + 1) hL
      unfold bNot bOf
      rw [e4]
    have c3 : nwC [.pu (lineT L), .pu (.lst ms), .pu x, .pu (nv (e + 1))] = some (!mk (e + 1)) := by
      unfold nwC bAnd
      rw [c1]
      exact c2
    unfold whileL
    rw [c3]
    cases hk : mk (e + 1) with
    | true =>
      have : nearM mk (e + 1) = e + 1 := by
        unfold nearM
        rw [hk]
      rw [this] <;> rfl
    | false =>
      have e5 : nearM mk (e + 1) = nearM mk e := by
        rw [nearM, hk]
      have e6 : nwB [.pu (lineT L), .pu (.lst ms), .pu x, .pu (nv (e + 1))] = some (.nx [.pu (lineT L), .pu (.lst ms), .pu x, .pu (nv e)]) := by
        have e7 : eOp gIx (eVar 0) (eOp gSub (eVar 3) (eC (.int 1))) [.pu (lineT L), .pu (.lst ms), .pu x, .pu (nv (e + 1))] = some (nv e) := line_at (by omega)
        unfold nwB cSet
        rw [e7] <;> rfl
      rw [e6, e5]
      exact near_loop hm e n (by omega) (by omega)
theorem near_ok {L v : Nat} {ms : List D} {mk : Nat → Bool} (hm : ∀ j, j ≤ L → ms[j]? = some (.bl (mk j))) (h1 : 1 ≤ v) (h2 : v ≤ L) (hL : L ≤ 20) : F_near_elder [lineT L, .lst ms, nv v] = some (nv (nearM mk (v - 1))) := by
  obtain ⟨n, rfl⟩ : ∃ n, v = n + 1 := ⟨v - 1, by omega⟩
  have e0 : cSet 3 (eOp gIx (eVar 0) (eOp gSub (eVar 2) (eC (.int 1)))) [.pu (lineT L), .pu (.lst ms), .pu (nv (n + 1)), .no] = some (.nx [.pu (lineT L), .pu (.lst ms), .pu (nv (n + 1)), .pu (nv n)]) := by
    have e7 : eOp gIx (eVar 0) (eOp gSub (eVar 2) (eC (.int 1))) [.pu (lineT L), .pu (.lst ms), .pu (nv (n + 1)), .no] = some (nv n) := line_at (by omega)
    unfold cSet
    rw [e7] <;> rfl
  have lp := near_loop (x := nv (n + 1)) hm n 80 (by omega) (by omega)
  have key : g_near_elder [.pu (lineT L), .pu (.lst ms), .pu (nv (n + 1)), .no] = some (.rt (nv (nearM mk n))) := by
    unfold g_near_elder
    rw [cSeq, e0]
    show cSeq (whileL nwC nwB 80) _ _ = _
    rw [cSeq, lp] <;> rfl
  show gd true (match g_near_elder [.pu (lineT L), .pu (.lst ms), .pu (nv (n + 1)), .no] with
      | some (.rt d) => some d
      | some (.nx _) => some .non
      | _ => none) = _
  rw [key] <;> rfl
end DL

set_option Elab.async false
set_option linter.all false
set_option maxRecDepth 100000
set_option maxHeartbeats 4000000
namespace DL
open PySem
/-! ### the plain law: walked -/
def walkM (st : Nat → List Int → List Int) : List Nat → List Int → List (Nat × List Int)
  | [], _ => []
  | v :: r, prev => (v, st v prev) :: walkM st r (st v prev)
def rowD (q : Nat × List Int) : D := .tup [nv q.1, tI_ q.2]
def Ch (mk : Nat → Bool) (L : Nat) : List Nat → Prop
  | [] => True
  | v :: r => 1 ≤ v ∧ v ≤ L ∧ nearM mk (v - 1) = r.headD 0 ∧ Ch mk L r
theorem near_le (mk : Nat → Bool) : ∀ e, nearM mk e ≤ e
  | 0 => Nat.le_refl 0
  | e + 1 => by
    unfold nearM
    split
    · exact Nat.le_refl _
    · exact Nat.le_succ_of_le (near_le mk e)
theorem near_spec {mk : Nat → Bool} {u : Nat} : ∀ e, u ≤ e → (u = 0 ∨ mk u = true) → (∀ i, u < i → i ≤ e → mk i = false) → nearM mk e = u
  | 0, h, _, _ => (Nat.le_zero.mp h).symm
  | e + 1, h, hu, hn => by
    unfold nearM
    by_cases z : u = e + 1
    · subst z
      rcases hu with hu | hu
      · cases hu
      · rw [hu]
    · rw [hn (e + 1) (by omega) (Nat.le_refl _)]
      exact near_spec e (by omega) hu fun i h1 h2 => hn i h1 (by omega)
theorem ch_of {mk : Nat → Bool} {L : Nat} : ∀ (vs : List Nat), vs.Pairwise (· > ·) → (∀ v ∈ vs, 1 ≤ v ∧ v ≤ L) → (∀ v ∈ vs, mk v = true) → (∀ v r, v :: r <:+ vs → ∀ i, i < v → mk i = true → i ∈ r) → Ch mk L vs
  | [], _, _, _, _ => True.intro
  | v :: r, hp, hr, ht, hs => by
    obtain ⟨h1, h2⟩ := hr v List.mem_cons_self
    obtain ⟨p1, p2⟩ := List.pairwise_cons.mp hp
    refine ⟨h1, h2, ?_, ch_of r p2 (fun x hx => hr x (List.mem_cons_of_mem _ hx)) (fun x hx => ht x (List.mem_cons_of_mem _ hx)) fun x q hq i hi hm => hs x q (hq.trans (List.suffix_cons v r)) i hi hm⟩
    have top := hs v r (List.suffix_refl _)
    cases r with
    | nil =>
      refine near_spec _ (Nat.zero_le _) (.inl rfl) fun i h1 h2 => ?_
      cases z : mk i with
      | false => rfl
      | true => exact absurd (top i (by omega) z) (by simp)
    | cons u q =>
      have hu : u < v := p1 u List.mem_cons_self
      refine near_spec _ (by show u ≤ v - 1; omega) (.inr (ht u (by simp))) fun i h1 h2 => ?_
      cases z : mk i with
      | false => rfl
      | true =>
        have h1 : u < i := h1
        rcases List.mem_cons.mp (top i (by omega) z) with e | e
        · omega
        · have := (List.pairwise_cons.mp p2).1 i e
          omega
theorem walkL_ok {L : Nat} {roof : Int} {ps : List (Int × Int)} {ms : List D} {mk : Nat → Bool} (hv : Val L roof ps) (hm : ∀ j, j ≤ L → ms[j]? = some (.bl (mk j))) : ∀ (vs : List Nat) (prev : List Int) (ls : List (List D)) (acc : List D), Ch mk L vs → ls.length = L + 1 → (∀ v r, vs = v :: r → ls[v]? = some (prev.map D.int) ∧ ∀ j, j < v → ls[j]? = some []) → prev.length + vs.length ≤ 60 → acc.length + vs.length ≤ 1000 →
    walkL (lineT L) (bd roof ps) (.lst ms) (vs.map nv) ls acc = some (acc ++ (walkM (stM roof ps) vs prev).map rowD)
  | [], prev, ls, acc, _, _, _, _, _ => by
    show some acc = some (acc ++ [])
    rw [List.append_nil]
  | v :: r, prev, ls, acc, hc, hl, hs, hn, ha => by
    obtain ⟨h1, h2, h3, h4⟩ := hc
    obtain ⟨s1, s2⟩ := hs v r rfl
    rw [List.length_cons] at hn ha
    have st := step_ok (m := prev) hv h1 h2 (by omega)
    have ne := near_ok hm h1 h2 hv.l
    have hj : nearM mk (v - 1) < v := by have := near_le mk (v - 1); omega
    have sj := s2 _ hj
    have rl := stM_len roof ps v prev
    have z1 : szOk ([] ++ (stM roof ps v prev).map D.int) = true := szOk_of (by rw [List.nil_append, List.length_map]; omega)
    have z2 : szOk acc = true := szOk_of (by omega)
    have ih := walkL_ok hv hm r (stM roof ps v prev) (ls.set (nearM mk (v - 1)) ([] ++ (stM roof ps v prev).map D.int)) (acc ++ [.tup [nv v, tI_ (stM roof ps v prev)]]) h4 (by rw [List.length_set]; exact hl) (fun u q e => by
      subst e
      have e : nearM mk (v - 1) = u := h3
      rw [e] at hj ⊢
      refine ⟨?_, fun j hj2 => ?_⟩
      · rw [List.getElem?_set_self (by omega), List.nil_append]
      · rw [List.getElem?_set_ne (by omega)]
        exact s2 j (by omega)) (by omega) (by rw [List.length_append, List.length_singleton]; omega)
    rw [List.map_cons, walkL]
    simp only [s1, st, intsOf_map, ne, sj, z1, z2, Bool.and_true]
    show walkL _ _ _ _ _ _ = _
    rw [ih, walkM, List.map_cons, List.append_assoc]
    rfl
/-! marks -/
def markL (us : List Nat) (m : List D) : List D := us.foldl (fun m u => m.set u (.bl true)) m
theorem mark_len : ∀ (us : List Nat) (m : List D), (markL us m).length = m.length
  | [], _ => rfl
  | u :: us, m => by
    show (markL us (m.set u (.bl true))).length = _
    rw [mark_len, List.length_set]
theorem mark_at : ∀ (us : List Nat) (m : List D) (j : Nat) (b : Bool), m[j]? = some (.bl b) → (markL us m)[j]? = some (.bl (b || decide (j ∈ us)))
  | [], m, j, b, h => by
    rw [show (b || decide (j ∈ ([] : List Nat))) = b by simp]
    exact h
  | u :: us, m, j, b, h => by
    have hj : j < m.length := (List.getElem?_eq_some_iff.mp h).1
    show (markL us (m.set u (.bl true)))[j]? = _
    by_cases z : u = j
    · subst z
      rw [mark_at us _ u true (List.getElem?_set_self hj)]
      simp
    · rw [mark_at us _ j b (by rw [List.getElem?_set_ne z]; exact h)]
      have : decide (j ∈ u :: us) = decide (j ∈ us) := by
        simp [Ne.symm z]
      rw [this]
abbrev mkB : Env → Option Out := cSetIx 3 (eVar 4) (eC (.bl true))
theorem mark_loop {h b vs : D} {L : Nat} : ∀ (us : List Nat) (m : List D) (s : Sl), m.length = L + 1 → (∀ u ∈ us, u ≤ L) → (s = .no ∨ ∃ d, s = .pu d) → ∃ s', (s' = .no ∨ ∃ d, s' = .pu d) ∧
    forL (.one 4) mkB (us.map nv) [.pu h, .pu b, .pu vs, .ow m, s, .no, .no, .no, .no] = some (.nx [.pu h, .pu b, .pu vs, .ow (markL us m), s', .no, .no, .no, .no])
  | [], m, s, _, _, hs => ⟨s, hs, rfl⟩
  | u :: us, m, s, hm, hu, hs => by
    obtain ⟨s', h1, h2⟩ := mark_loop (h := h) (b := b) (vs := vs) us (m.set u (.bl true)) (.pu (nv u)) (by rw [List.length_set]; exact hm) (fun x hx => hu x (List.mem_cons_of_mem _ hx)) (.inr ⟨_, rfl⟩)
    refine ⟨s', h1, ?_⟩
    have hlt : Nat.blt u m.length = true := by
      have := hu u List.mem_cons_self
      rw [hm]
      exact Nat.ble_eq.mpr (by omega)
    have hb : mkB [.pu h, .pu b, .pu vs, .ow m, .pu (nv u), .no, .no, .no, .no] = some (.nx [.pu h, .pu b, .pu vs, .ow (m.set u (.bl true)), .pu (nv u), .no, .no, .no, .no]) := by
      show gd (Nat.blt u m.length) _ = _
      rw [hlt] <;> rfl
    rw [List.map_cons, forL_nx rfl hb]
    exact h2
theorem flat1 (d : D) : ∀ n : Nat, (List.replicate n [d]).flatten = List.replicate n d
  | 0 => rfl
  | n + 1 => by
    rw [List.replicate_succ, List.flatten_cons, flat1 d n, List.replicate_succ] <;> rfl
theorem walked_ok {L : Nat} {roof : Int} {ps : List (Int × Int)} (hv : Val L roof ps) {us : List Nat} (hp : us.Pairwise (· < ·)) (hu : ∀ u ∈ us, 1 ≤ u ∧ u ≤ L) (hl : us.length ≤ 40) : F_walked [lineT L, bd roof ps, .tup (us.map nv)] = some (.lst ((walkM (stM roof ps) us.reverse []).map rowD)) := by
  have hL := hv.l
  have e1 : cNew 3 (eOpL gRep (eFz (aSz (aCons (eC (.bl false)) aNil))) (eOp gAdd (eCall gLen (aCons (eVar 0) aNil)) (eC (.int 1)))) [.pu (lineT L), .pu (bd roof ps), .pu (.tup (us.map nv)), .no, .no, .no, .no, .no, .no] =
      some (.nx [.pu (lineT L), .pu (bd roof ps), .pu (.tup (us.map nv)), .ow (List.replicate (L + 1) (.bl false)), .no, .no, .no, .no, .no]) := by
    have g : gRep (.lst [.bl false]) (.int (((lineL L).length : Int) + 1)) = some (List.replicate (L + 1) (.bl false)) := by
      rw [lineL_len]
      have h0 : decide ((0 : Int) ≤ (L : Int) + 1) = true := decide_eq_true (by omega)
      have h1 : decide ((L : Int) + 1 ≤ 1000) = true := decide_eq_true (by omega)
      have h2 : ((L : Int) + 1).toNat = L + 1 := by omega
      show gd (decide ((0 : Int) ≤ (L : Int) + 1) && decide ((L : Int) + 1 ≤ 1000) && Nat.ble 1 1000) (some (List.replicate ((L : Int) + 1).toNat [D.bl false]).flatten) = _
      rw [h0, h1, h2, flat1] <;> rfl
    have g2 : eOpL gRep (eFz (aSz (aCons (eC (.bl false)) aNil))) (eOp gAdd (eCall gLen (aCons (eVar 0) aNil)) (eC (.int 1))) [.pu (lineT L), .pu (bd roof ps), .pu (.tup (us.map nv)), .no, .no, .no, .no, .no, .no] = some (List.replicate (L + 1) (.bl false)) := g
    unfold cNew
    rw [g2] <;> rfl
  obtain ⟨s', hs', e2⟩ := mark_loop (h := lineT L) (b := bd roof ps) (vs := .tup (us.map nv)) (L := L) us (List.replicate (L + 1) (.bl false)) .no (by rw [List.length_replicate]) (fun u h => (hu u h).2) (.inl rfl)
  have e3 : cFor (iTupD (eVar 2)) (.one 4) mkB [.pu (lineT L), .pu (bd roof ps), .pu (.tup (us.map nv)), .ow (List.replicate (L + 1) (.bl false)), .no, .no, .no, .no, .no] = _ := e2
  have hmk : ∀ j, j ≤ L → (markL us (List.replicate (L + 1) (.bl false)))[j]? = some (.bl (decide (j ∈ us))) := fun j hj => by
    have := mark_at us (List.replicate (L + 1) (.bl false)) j false (by rw [List.getElem?_replicate_of_lt (by omega)])
    rw [this] <;> rfl
  have ch : Ch (fun j => decide (j ∈ us)) L us.reverse := by
    refine ch_of us.reverse (by rw [List.pairwise_reverse]; exact hp) (fun v h => hu v (List.mem_reverse.mp h)) (fun v h => decide_eq_true (List.mem_reverse.mp h)) fun v r hr i hi hm => ?_
    have hm : i ∈ us.reverse := List.mem_reverse.mpr (of_decide_eq_true hm)
    obtain ⟨t, ht⟩ := hr
    rw [← ht] at hm
    have hp2 : us.reverse.Pairwise (· > ·) := by rw [List.pairwise_reverse]; exact hp
    rw [← ht] at hp2
    rcases List.mem_append.mp hm with z | z
    · have := (List.pairwise_append.mp hp2).2.2 i z v List.mem_cons_self
      omega
    · rcases List.mem_cons.mp z with z | z
      · omega
      · exact z
  have wk := walkL_ok hv hmk us.reverse [] (List.replicate (L + 1) []) [] ch (by rw [List.length_replicate]) (fun v r e => by
    have : v ≤ L := (hu v (List.mem_reverse.mp (by rw [e]; exact List.mem_cons_self))).2
    exact ⟨by rw [List.getElem?_replicate_of_lt (by omega)] <;> rfl, fun j hj => by rw [List.getElem?_replicate_of_lt (by omega)]⟩) (by rw [List.length_reverse]; simp; omega) (by rw [List.length_reverse]; simp; omega)
  have e4 : cWalk [.pu (lineT L), .pu (bd roof ps), .pu (.tup (us.map nv)), .pu (.lst (markL us (List.replicate (L + 1) (.bl false)))), s', .no, .no, .no, .no] = some (.rt (.lst ((walkM (stM roof ps) us.reverse []).map rowD))) := by
    have hno : noOw [.pu (lineT L), .pu (bd roof ps), .pu (.tup (us.map nv)), .pu (.lst (markL us (List.replicate (L + 1) (.bl false)))), s', .no, .no, .no, .no] = true := by
      rcases hs' with z | ⟨d, z⟩ <;> rw [z] <;> rfl
    have hb : Nat.ble (lineL L).length 1000 = true := by
      rw [lineL_len]
      exact Nat.ble_eq.mpr (by omega)
    show gd (true && noOw _) (gd (Nat.ble (lineL L).length 1000) (match walkL (lineT L) (bd roof ps) _ (us.map nv).reverse (List.replicate ((lineL L).length + 1) []) [] with
      | some l => some (Out.rt (D.lst l))
      | none => none)) = _
    rw [hno, hb, lineL_len, ← List.map_reverse, wk] <;> rfl
  have key : g_walked [.pu (lineT L), .pu (bd roof ps), .pu (.tup (us.map nv)), .no, .no, .no, .no, .no, .no] = some (.rt (.lst ((walkM (stM roof ps) us.reverse []).map rowD))) := by
    unfold g_walked
    rw [cSeq, e1]
    show cSeq (cFor (iTupD (eVar 2)) (.one 4) mkB) _ _ = _
    rw [cSeq, e3]
    exact e4
  show gd true (match g_walked [.pu (lineT L), .pu (bd roof ps), .pu (.tup (us.map nv)), .no, .no, .no, .no, .no, .no] with
      | some (.rt d) => some d
      | some (.nx _) => some .non
      | _ => none) = _
  rw [key] <;> rfl
end DL

set_option Elab.async false
set_option linter.all false
set_option maxRecDepth 100000
set_option maxHeartbeats 4000000
namespace DL
open PySem
/-! ### the plain law: goes_above, can_keep, rows_of, top_of, margin_of -/
theorem call1 {F : List D → Option D} {fa : Env → Option D} {ρ : Env} {a : D} (h : fa ρ = some a) : eCall F (aCons fa aNil) ρ = F [a] := by
  simp only [eCall, aCons, aNil, h]
theorem call2 {F : List D → Option D} {fa fb : Env → Option D} {ρ : Env} {a b : D} (h : fa ρ = some a) (h2 : fb ρ = some b) : eCall F (aCons fa (aCons fb aNil)) ρ = F [a, b] := by
  simp only [eCall, aCons, aNil, h, h2]
theorem call3 {F : List D → Option D} {fa fb fc : Env → Option D} {ρ : Env} {a b c : D} (h : fa ρ = some a) (h2 : fb ρ = some b) (h3 : fc ρ = some c) : eCall F (aCons fa (aCons fb (aCons fc aNil))) ρ = F [a, b, c] := by
  simp only [eCall, aCons, aNil, h, h2, h3]
theorem fz_of {f : Env → Option (List D)} {ρ : Env} {l : List D} (h : f ρ = some l) : eFz f ρ = some (.lst l) := by
  simp only [eFz, h]
theorem ret_of {f : Env → Option D} {ρ : Env} {d : D} (h : f ρ = some d) : cRet f ρ = some (.rt d) := by
  simp only [cRet, h]
theorem set_of {i : Nat} {f : Env → Option D} {ρ : Env} {d : D} (h : f ρ = some d) : cSet i f ρ = some (.nx (ρ.set i (.pu d))) := by
  simp only [cSet, h]
theorem seq_nx {g1 g2 : Env → Option Out} {ρ ρ' : Env} (h : g1 ρ = some (.nx ρ')) : cSeq g1 g2 ρ = g2 ρ' := by
  simp only [cSeq, h]
theorem if_t {c : Env → Option Bool} {g1 g2 : Env → Option Out} {ρ : Env} (h : c ρ = some true) : cIf c g1 g2 ρ = g1 ρ := by
  simp only [cIf, h]
theorem if_f {c : Env → Option Bool} {g1 g2 : Env → Option Out} {ρ : Env} (h : c ρ = some false) : cIf c g1 g2 ρ = g2 ρ := by
  simp only [cIf, h]
theorem op_of {g : D → D → Option D} {fa fb : Env → Option D} {ρ : Env} {a b : D} (h : fa ρ = some a) (h2 : fb ρ = some b) : eOp g fa fb ρ = g a b := by
  simp only [eOp, h, h2]
theorem opL_of {g : D → D → Option (List D)} {fa fb : Env → Option D} {ρ : Env} {a b : D} (h : fa ρ = some a) (h2 : fb ρ = some b) : eOpL g fa fb ρ = g a b := by
  simp only [eOpL, h, h2]
theorem bof_of {f : Env → Option D} {ρ : Env} {b : Bool} (h : f ρ = some (.bl b)) : bOf f ρ = some b := by
  simp only [bOf, h]
theorem bnot_of {f : Env → Option Bool} {ρ : Env} {b : Bool} (h : f ρ = some b) : bNot f ρ = some (!b) := by
  simp only [bNot, h]
theorem fn_rt {N n : Nat} {g : Env → Option Out} {ds : List D} {d : D} (hl : Nat.beq ds.length n = true) (h : g (ds.map .pu ++ List.replicate (N - n) .no) = some (.rt d)) : runFn N n g ds = some d := by
  unfold runFn
  rw [hl, h] <;> rfl
theorem lc_all {α : Type} {t : Tg} {el : Env → Option D} {ρw : Env} (f : α → D) (e : α → D) (l : List α) (h : ∀ a ∈ l, ∃ ρ2, t.put (f a) ρw = some ρ2 ∧ el ρ2 = some (e a)) : lcL t bYes el ρw (l.map f) = some (l.map e) := by
  have := lc_map (t := t) (tt := bYes) (el := el) (ρw := ρw) f (fun _ => true) e l fun a ha => by
    obtain ⟨ρ2, h1, h2⟩ := h a ha
    exact ⟨ρ2, h1, rfl, fun _ => h2⟩
  rw [this, List.filter_eq_self.mpr (fun _ _ => rfl)]
theorem rowM_ne (w fl : Int) (r : List Int) : rowM w fl r ≠ [] := by
  unfold rowM
  simp
theorem head_ix {r : List Int} (h : r ≠ []) : gIx (tI_ r) (.int 0) = some (.int (r.headD 0)) := by
  cases r with
  | nil => exact absurd rfl h
  | cons a r => rfl
theorem walkM_ne {roof : Int} {ps : List (Int × Int)} : ∀ (vs : List Nat) (prev : List Int), ∀ q ∈ walkM (stM roof ps) vs prev, q.2 ≠ []
  | [], _, q, h => by cases h
  | v :: r, prev, q, h => by
    rcases List.mem_cons.mp h with e | e
    · rw [e]
      exact rowM_ne _ _ _
    · exact walkM_ne r _ q e
theorem walkM_len {st : Nat → List Int → List Int} : ∀ (vs : List Nat) (prev : List Int), (walkM st vs prev).length = vs.length
  | [], _ => rfl
  | v :: r, prev => by
    rw [walkM, List.length_cons, walkM_len r, List.length_cons]
def aboveM (roof : Int) (ps : List (Int × Int)) (us : List Nat) : Bool := (walkM (stM roof ps) us.reverse []).any fun q => decide (roof < q.2.headD 0)
theorem blsOf_map : ∀ l : List Bool, blsOf (l.map D.bl) = some l
  | [] => rfl
  | b :: l => by
    rw [List.map_cons, blsOf, blsOf_map l]
theorem ga_ok {L : Nat} {roof : Int} {ps : List (Int × Int)} (hv : Val L roof ps) {us : List Nat} (hp : us.Pairwise (· < ·)) (hu : ∀ u ∈ us, 1 ≤ u ∧ u ≤ L) (hl : us.length ≤ 40) : F_goes_above [lineT L, bd roof ps, .tup (us.map nv)] = some (.bl (aboveM roof ps us)) := by
  have wo := walked_ok hv hp hu hl
  have e1 : lcL (.one 3) bYes (eOp (gI fun i j => decide (j < i)) (eOp gIx (eOp gIx (eVar 3) (eC (.int 1))) (eC (.int 0))) (eOp gIx (eVar 1) (eC (.int 0)))) (wipeE [.pu (lineT L), .pu (bd roof ps), .pu (.tup (us.map nv)), .no] [3]) ((walkM (stM roof ps) us.reverse []).map rowD) = some ((walkM (stM roof ps) us.reverse []).map fun q => .bl (decide (roof < q.2.headD 0))) := by
    refine lc_all rowD _ _ fun q hq => ⟨_, rfl, ?_⟩
    have hh := head_ix (walkM_ne _ _ q hq)
    have e3 : eOp gIx (eOp gIx (eVar 3) (eC (.int 1))) (eC (.int 0)) [.pu (lineT L), .pu (bd roof ps), .pu (.tup (us.map nv)), .pu (rowD q)] = some (.int (q.2.headD 0)) := hh
    show eOp _ _ _ [.pu (lineT L), .pu (bd roof ps), .pu (.tup (us.map nv)), .pu (rowD q)] = _
    rw [eOp, e3] <;> rfl
  have z : szOk ((walkM (stM roof ps) us.reverse []).map rowD) = true := szOk_of (by rw [List.length_map, walkM_len, List.length_reverse]; omega)
  have key : g_goes_above [.pu (lineT L), .pu (bd roof ps), .pu (.tup (us.map nv)), .no] = some (.rt (.bl (aboveM roof ps us))) := by
    have e2 : fLc (iLstD (eCall F_walked (aCons (eVar 0) (aCons (eVar 1) (aCons (eVar 2) aNil))))) (.one 3) [3] bYes (eOp (gI fun i j => decide (j < i)) (eOp gIx (eOp gIx (eVar 3) (eC (.int 1))) (eC (.int 0))) (eOp gIx (eVar 1) (eC (.int 0)))) [.pu (lineT L), .pu (bd roof ps), .pu (.tup (us.map nv)), .no] = some ((walkM (stM roof ps) us.reverse []).map fun q => .bl (decide (roof < q.2.headD 0))) := by
      have e4 : iLstD (eCall F_walked (aCons (eVar 0) (aCons (eVar 1) (aCons (eVar 2) aNil)))) [.pu (lineT L), .pu (bd roof ps), .pu (.tup (us.map nv)), .no] = some ((walkM (stM roof ps) us.reverse []).map rowD) := by
        have e5 : eCall F_walked (aCons (eVar 0) (aCons (eVar 1) (aCons (eVar 2) aNil))) [.pu (lineT L), .pu (bd roof ps), .pu (.tup (us.map nv)), .no] = _ := wo
        unfold iLstD
        rw [e5]
      unfold fLc
      rw [e4]
      show gd (szOk _) _ = _
      rw [z]
      exact e1
    have e6 : (walkM (stM roof ps) us.reverse []).map (fun q => D.bl (decide (roof < q.2.headD 0))) = ((walkM (stM roof ps) us.reverse []).map fun q => decide (roof < q.2.headD 0)).map D.bl := by
      rw [List.map_map] <;> rfl
    have e7 : gAny [.lst ((walkM (stM roof ps) us.reverse []).map fun q => .bl (decide (roof < q.2.headD 0)))] = some (.bl (aboveM roof ps us)) := by
      rw [e6]
      unfold gAny
      simp only [blsOf_map]
      unfold aboveM
      rw [List.any_map] <;> rfl
    exact ret_of ((call1 (fz_of e2)).trans e7)
  show gd true (match g_goes_above [.pu (lineT L), .pu (bd roof ps), .pu (.tup (us.map nv)), .no] with
      | some (.rt d) => some d
      | some (.nx _) => some .non
      | _ => none) = _
  rw [key] <;> rfl
/-- 1 .. L -/
def verL (L : Nat) : List Nat := (List.range L).map (· + 1)
theorem rgD_nv : ∀ (n k : Nat), rgD (Int.ofNat k) n = ((List.range n).map (fun i => i + k)).map nv
  | 0, _ => rfl
  | n + 1, k => by
    have e : Int.ofNat k + 1 = Int.ofNat (k + 1) := rfl
    rw [rgD, e, rgD_nv n (k + 1), List.range_succ_eq_map, List.map_cons, List.map_cons, List.map_map, List.map_map, List.map_map]
    congr 1
    · show nv k = nv (0 + k)
      rw [Nat.zero_add]
    · refine List.map_congr_left fun i _ => ?_
      show nv (i + (k + 1)) = nv (i + 1 + k)
      rw [show i + (k + 1) = i + 1 + k by omega]
theorem all_ok {L : Nat} (hL : L ≤ 20) : F_all_versions [lineT L] = some (.tup ((verL L).map nv)) := by
  have e : rgD 1 L = (verL L).map nv := rgD_nv L 1
  have s1 : smI (((lineL L).length : Int) + 1) = true := by
    rw [lineL_len]
    unfold smI
    rw [Bool.and_eq_true, decide_eq_true_iff, decide_eq_true_iff]
    constructor <;> omega
  have s2 : ((((lineL L).length : Int) + 1) - 1).toNat = L := by
    rw [lineL_len]
    have : ((L : Int) + 1 - 1) = (L : Int) := by omega
    rw [this, Int.toNat_natCast]
  have e1 : iRg2 (eC (.int 1)) (eOp gAdd (eCall gLen (aCons (eVar 0) aNil)) (eC (.int 1))) [.pu (lineT L)] = some ((verL L).map nv) := by
    show gd (smI 1 && smI (((lineL L).length : Int) + 1)) (some (rgD 1 ((((lineL L).length : Int) + 1) - 1).toNat)) = _
    rw [s1, s2, e] <;> rfl
  have key : g_all_versions [.pu (lineT L)] = some (.rt (.tup ((verL L).map nv))) := by
    show cRet (eTup _) _ = _
    unfold cRet eTup
    rw [e1]
  show gd true (match g_all_versions [.pu (lineT L)] with
      | some (.rt d) => some d
      | some (.nx _) => some .non
      | _ => none) = _
  rw [key] <;> rfl
theorem verL_len (L : Nat) : (verL L).length = L := by
  unfold verL
  rw [List.length_map, List.length_range]
theorem verL_pw (L : Nat) : (verL L).Pairwise (· < ·) := by
  unfold verL
  rw [List.pairwise_map]
  exact List.pairwise_lt_range.imp fun h => by omega
theorem verL_mem {L u : Nat} (h : u ∈ verL L) : 1 ≤ u ∧ u ≤ L := by
  unfold verL at h
  obtain ⟨i, hi, rfl⟩ := List.mem_map.mp h
  have := List.mem_range.mp hi
  omega
theorem ck_ok {L : Nat} {roof : Int} {ps : List (Int × Int)} (hv : Val L roof ps) : F_can_keep [lineT L, bd roof ps] = some (.bl (!aboveM roof ps (verL L))) := by
  have nb := need_ok hv
  have al := all_ok hv.l
  have ga := ga_ok hv (verL_pw L) (fun u h => verL_mem h) (by rw [verL_len]; have := hv.l; omega)
  simp [F_can_keep, runFn, g_can_keep, cSeq, cExpr, eCall, aCons, aNil, eVar, nb, cRet, eNot, al, ga, gd]
end DL

set_option Elab.async false
set_option linter.all false
set_option maxRecDepth 100000
set_option maxHeartbeats 4000000
namespace DL
open PySem
/-! ### the plain law: rows_of, top_of, margin_of -/
theorem get1 {f : Env → Option D} {g : D → Option (List D)} : True := True.intro
def rowsM (L : Nat) (roof : Int) (ps : List (Int × Int)) : List (List Int) := (walkM (stM roof ps) (verL L).reverse []).reverse.map (·.2)
def headsM (L : Nat) (roof : Int) (ps : List (Int × Int)) : List Int := (rowsM L roof ps).map (·.headD 0)
theorem rowsM_ne {L : Nat} {roof : Int} {ps : List (Int × Int)} : ∀ r ∈ rowsM L roof ps, r ≠ [] := fun r h => by
  obtain ⟨q, hq, rfl⟩ := List.mem_map.mp h
  exact walkM_ne _ _ q (List.mem_reverse.mp hq)
theorem rowsM_len {L : Nat} {roof : Int} {ps : List (Int × Int)} : (rowsM L roof ps).length = L := by
  unfold rowsM
  rw [List.length_map, List.length_reverse, walkM_len, List.length_reverse, verL_len]
theorem rows_ok {L : Nat} {roof : Int} {ps : List (Int × Int)} (hv : Val L roof ps) : F_rows_of [lineT L, bd roof ps] = some (.tup ((rowsM L roof ps).map tI_)) := by
  have hL := hv.l
  have nb := need_ok hv
  have al := all_ok hv.l
  have wo := walked_ok hv (verL_pw L) (fun u h => verL_mem h) (by rw [verL_len]; omega)
  refine fn_rt rfl ?_
  show g_rows_of [.pu (lineT L), .pu (bd roof ps), .no, .no, .no] = _
  have e0 : cExpr (eCall F_need_bounds (aCons (eVar 0) (aCons (eVar 1) aNil))) [.pu (lineT L), .pu (bd roof ps), .no, .no, .no] = some (.nx [.pu (lineT L), .pu (bd roof ps), .no, .no, .no]) := by
    have : eCall F_need_bounds (aCons (eVar 0) (aCons (eVar 1) aNil)) [.pu (lineT L), .pu (bd roof ps), .no, .no, .no] = some .non := nb
    unfold cExpr
    rw [this]
  have e1 : eCall F_walked (aCons (eVar 0) (aCons (eVar 1) (aCons (eCall F_all_versions (aCons (eVar 0) aNil)) aNil))) [.pu (lineT L), .pu (bd roof ps), .no, .no, .no] = some (.lst ((walkM (stM roof ps) (verL L).reverse []).map rowD)) :=
    (call3 (a := lineT L) (b := bd roof ps) rfl rfl ((call1 rfl).trans al)).trans wo
  have e2 : fLc (iLstD (eFz (lRev (eVar 2)))) (.two 3 4) [3, 4] bYes (eVar 4) [.pu (lineT L), .pu (bd roof ps), .pu (.lst ((walkM (stM roof ps) (verL L).reverse []).map rowD)), .no, .no] = some ((rowsM L roof ps).map tI_) := by
    have z : szOk ((walkM (stM roof ps) (verL L).reverse []).reverse.map rowD) = true := szOk_of (by rw [List.length_map, List.length_reverse, walkM_len, List.length_reverse, verL_len]; omega)
    show gd (szOk ((walkM (stM roof ps) (verL L).reverse []).map rowD).reverse) (lcL (.two 3 4) bYes (eVar 4) _ ((walkM (stM roof ps) (verL L).reverse []).map rowD).reverse) = _
    rw [← List.map_reverse, z]
    have := lc_all (t := .two 3 4) (el := eVar 4) (ρw := wipeE [.pu (lineT L), .pu (bd roof ps), .pu (.lst ((walkM (stM roof ps) (verL L).reverse []).map rowD)), .no, .no] [3, 4]) rowD (fun q => tI_ q.2) (walkM (stM roof ps) (verL L).reverse []).reverse fun q _ => ⟨_, rfl, rfl⟩
    show lcL _ _ _ _ _ = _
    rw [this]
    unfold rowsM
    rw [List.map_map] <;> rfl
  unfold g_rows_of
  rw [seq_nx e0, seq_nx (set_of e1)]
  exact ret_of ((call1 (fz_of e2)).trans rfl)
theorem heads_rep {l : List (List Int)} (h : ∀ r ∈ l, r ≠ []) {ρw : Env} {i : Nat} (hi : i < ρw.length) : lcL (.one i) bYes (eOp gIx (eVar i) (eC (.int 0))) ρw (l.map tI_) = some ((l.map (·.headD 0)).map D.int) := by
  have := lc_all (t := .one i) (el := eOp gIx (eVar i) (eC (.int 0))) (ρw := ρw) tI_ (fun r => .int (r.headD 0)) l fun r hr => ⟨_, rfl, by
    have e1 : eVar i (ρw.set i (.pu (tI_ r))) = some (tI_ r) := by
      unfold eVar
      rw [List.getElem?_set_self hi]
    exact (op_of (b := .int 0) e1 rfl).trans (head_ix (h r hr))⟩
  rw [this, List.map_map] <;> rfl
def topM (L : Nat) (roof : Int) (ps : List (Int × Int)) : Int := maxD 0 (headsM L roof ps)
theorem top_ok {L : Nat} {roof : Int} {ps : List (Int × Int)} (hv : Val L roof ps) : F_top_of [lineT L, bd roof ps] = some (.int (topM L roof ps)) := by
  have ro := rows_ok hv
  refine fn_rt rfl ?_
  show cRet _ [.pu (lineT L), .pu (bd roof ps), .no] = _
  have e1 : fLc (iTupD (eCall F_rows_of (aCons (eVar 0) (aCons (eVar 1) aNil)))) (.one 2) [2] bYes (eOp gIx (eVar 2) (eC (.int 0))) [.pu (lineT L), .pu (bd roof ps), .no] = some ((headsM L roof ps).map D.int) := by
    have z : szOk ((rowsM L roof ps).map tI_) = true := szOk_of (by rw [List.length_map, rowsM_len]; have := hv.l; omega)
    have e0 : iTupD (eCall F_rows_of (aCons (eVar 0) (aCons (eVar 1) aNil))) [.pu (lineT L), .pu (bd roof ps), .no] = some ((rowsM L roof ps).map tI_) := by
      have : eCall F_rows_of (aCons (eVar 0) (aCons (eVar 1) aNil)) [.pu (lineT L), .pu (bd roof ps), .no] = _ := ro
      unfold iTupD
      rw [this]
    unfold fLc
    rw [e0]
    show gd (szOk _) _ = _
    rw [z]
    exact heads_rep rowsM_ne (by show 2 < 3; decide)
  refine ret_of ?_
  unfold eMaxDef
  have e2 := fz_of e1
  have e3 : eFz (fLc (iTupD (eCall F_rows_of (aCons (eVar 0) (aCons (eVar 1) aNil)))) (.one 2) (List.map (·.2) ([("row", 2)] : List (PySem.Str × Nat))) bYes (eOp gIx (eVar 2) (eC (.int 0)))) [.pu (lineT L), .pu (bd roof ps), .no] = some (.lst ((headsM L roof ps).map D.int)) := e2
  rw [e3]
  show (match intsOf ((headsM L roof ps).map D.int) with
    | some ns => some (D.int (maxD 0 ns))
    | none => none) = _
  rw [intsOf_map] <;> rfl
theorem margin_ok {L : Nat} {roof : Int} {ps : List (Int × Int)} (hv : Val L roof ps) (h1 : 1 ≤ L) : F_margin_of [lineT L, bd roof ps] = some (.int (topM L roof ps - roof)) := by
  have nb := need_ok hv
  have to := top_ok hv
  obtain ⟨n, rfl⟩ : ∃ n, L = n + 1 := ⟨L - 1, by omega⟩
  refine fn_rt rfl ?_
  show g_margin_of [.pu (lineT (n + 1)), .pu (bd roof ps)] = _
  have e0 : cExpr (eCall F_need_bounds (aCons (eVar 0) (aCons (eVar 1) aNil))) [.pu (lineT (n + 1)), .pu (bd roof ps)] = some (.nx [.pu (lineT (n + 1)), .pu (bd roof ps)]) := by
    have : eCall F_need_bounds (aCons (eVar 0) (aCons (eVar 1) aNil)) [.pu (lineT (n + 1)), .pu (bd roof ps)] = some .non := nb
    unfold cExpr
    rw [this]
  have he : (lineL (n + 1)).isEmpty = false := by
    unfold lineL
    rw [List.range_succ_eq_map] <;> rfl
  have e1 : bNot (fun ρ => match (eVar 0) ρ with | some (.tup l) => some (!l.isEmpty) | _ => none) [.pu (lineT (n + 1)), .pu (bd roof ps)] = some false := by
    show some (!!(lineL (n + 1)).isEmpty) = _
    rw [he] <;> rfl
  have e2 : eCall F_top_of (aCons (eVar 0) (aCons (eVar 1) aNil)) [.pu (lineT (n + 1)), .pu (bd roof ps)] = _ := to
  unfold g_margin_of
  rw [seq_nx e0]
  exact (seq_nx (ρ' := [.pu (lineT (n + 1)), .pu (bd roof ps)]) ((if_f e1).trans rfl)).trans (ret_of ((op_of e2 (b := .int roof) rfl).trans rfl))
end DL

set_option Elab.async false
set_option linter.all false
set_option maxRecDepth 100000
set_option maxHeartbeats 4000000
namespace DL
open PySem
/-! ### the plain law: the law's own step, rows, high, tops -/
abbrev lI_ (r : List Int) : D := .lst (r.map D.int)
theorem ix_intsL {r : List Int} {k : Int} (h : 0 ≤ k) (h2 : k < r.length) : gIx (lI_ r) (.int k) = some (.int (r[k.toNat]'(by omega))) := by
  obtain ⟨n, rfl⟩ := Int.eq_ofNat_of_zero_le h
  have hk : n < r.length := by omega
  show (r.map D.int)[n]? = _
  rw [List.getElem?_map, List.getElem?_eq_getElem hk]
  simp
theorem lstep_ok {w fl : Int} {m : List Int} (hw : 1 ≤ w) (hl : m.length ≤ 100) : F__law_step [.int w, .int fl, lI_ m] = some (lI_ (rowM w fl (rsort m))) := by
  refine fn_rt rfl ?_
  show g__law_step [.pu (.int w), .pu (.int fl), .pu (lI_ m), .no, .no, .no] = _
  have hr : (rsort m).length ≤ 100 := by rw [rsort_len]; exact hl
  have e0 : cSet 3 (eFz (lSortR (eVar 2))) [.pu (.int w), .pu (.int fl), .pu (lI_ m), .no, .no, .no] = some (.nx [.pu (.int w), .pu (.int fl), .pu (lI_ m), .pu (lI_ (rsort m)), .no, .no]) := by
    have : lSortR (eVar 2) [.pu (.int w), .pu (.int fl), .pu (lI_ m), .no, .no, .no] = some ((rsort m).map D.int) := by
      show (match intsOf (m.map D.int) with
        | some ns => some ((rsort ns).map D.int)
        | none => none) = _
      rw [intsOf_map]
    exact set_of (fz_of this)
  generalize rsort m = r at e0 hr ⊢
  have hlen : ((r.map D.int).length : Int) = (r.length : Int) := by rw [List.length_map]
  have e00 : cSet 4 (eVar 1) [.pu (.int w), .pu (.int fl), .pu (lI_ m), .pu (lI_ r), .no, .no] = some (.nx [.pu (.int w), .pu (.int fl), .pu (lI_ m), .pu (lI_ r), .pu (.int fl), .no]) := rfl
  have e1 : cIf (bAnd (bOf (eOp (gI fun i j => decide (j ≤ i)) (eCall gLen (aCons (eVar 3) aNil)) (eVar 0))) (bOf (eOp (gI fun i j => decide (j ≤ i)) (eOp gIx (eVar 3) (eOp gSub (eVar 0) (eC (.int 1)))) (eVar 1)))) (cSet 4 (eOp gAdd (eOp gIx (eVar 3) (eOp gSub (eVar 0) (eC (.int 1)))) (eC (.int 1)))) cNext [.pu (.int w), .pu (.int fl), .pu (lI_ m), .pu (lI_ r), .pu (.int fl), .no] =
      some (.nx [.pu (.int w), .pu (.int fl), .pu (lI_ m), .pu (lI_ r), .pu (.int (tallM w fl r)), .no]) := by
    have c1 : bOf (eOp (gI fun i j => decide (j ≤ i)) (eCall gLen (aCons (eVar 3) aNil)) (eVar 0)) [.pu (.int w), .pu (.int fl), .pu (lI_ m), .pu (lI_ r), .pu (.int fl), .no] = some (decide (w ≤ (r.length : Int))) := by
      show some (decide (w ≤ ((r.map D.int).length : Int))) = _
      rw [hlen]
    by_cases hc : w ≤ (r.length : Int)
    · have hk : (w - 1).toNat < r.length := by omega
      have ix := ix_intsL (r := r) (k := w - 1) (by omega) (by omega)
      have e3 : eOp gIx (eVar 3) (eOp gSub (eVar 0) (eC (.int 1))) [.pu (.int w), .pu (.int fl), .pu (lI_ m), .pu (lI_ r), .pu (.int fl), .no] = some (.int r[(w - 1).toNat]) := ix
      have c2 : bOf (eOp (gI fun i j => decide (j ≤ i)) (eOp gIx (eVar 3) (eOp gSub (eVar 0) (eC (.int 1)))) (eVar 1)) [.pu (.int w), .pu (.int fl), .pu (lI_ m), .pu (lI_ r), .pu (.int fl), .no] = some (decide (fl ≤ r[(w - 1).toNat])) := by
        unfold bOf
        rw [eOp, e3] <;> rfl
      have tm : tallM w fl r = match decide (fl ≤ r[(w - 1).toNat]) with
          | true => r[(w - 1).toNat] + 1
          | false => fl := by
        unfold tallM
        rw [decide_eq_true hc, List.getElem?_eq_getElem hk] <;> rfl
      unfold cIf bAnd
      rw [c1, decide_eq_true hc]
      simp only [c2]
      rw [tm]
      cases hd : decide (fl ≤ r[(w - 1).toNat]) with
      | true =>
        show cSet 4 (eOp gAdd (eOp gIx (eVar 3) (eOp gSub (eVar 0) (eC (.int 1)))) (eC (.int 1))) _ = _
        unfold cSet
        rw [eOp, e3] <;> rfl
      | false => rfl
    · have tm : tallM w fl r = fl := by
        unfold tallM
        rw [decide_eq_false hc] <;> rfl
      unfold cIf bAnd
      rw [c1, decide_eq_false hc, tm] <;> rfl
  unfold g__law_step
  rw [seq_nx e0, seq_nx e00, seq_nx e1]
  have z1 : szOk (r.map D.int) = true := szOk_of (by rw [List.length_map]; omega)
  have z3 : szOk ((r.filter (fun x => decide (tallM w fl r ≤ x))).map D.int ++ [D.int (tallM w fl r)]) = true := szOk_of (by
    have := List.length_filter_le (fun x => decide (tallM w fl r ≤ x)) r
    rw [List.length_append, List.length_map, List.length_singleton]
    omega)
  have e4 : lcL (.one 5) (bOf (eOp (gI fun i j => decide (j ≤ i)) (eVar 5) (eVar 4))) (eVar 5) (wipeE [.pu (.int w), .pu (.int fl), .pu (lI_ m), .pu (lI_ r), .pu (.int (tallM w fl r)), .no] [5]) (r.map D.int) = some ((r.filter (fun x => decide (tallM w fl r ≤ x))).map D.int) :=
    lc_map D.int (fun x => decide (tallM w fl r ≤ x)) D.int r fun a _ => ⟨_, rfl, rfl, fun _ => rfl⟩
  have e5 : fLc (iLstD (eVar 3)) (.one 5) (List.map (·.2) ([("_law_member", 5)] : List (PySem.Str × Nat))) (bOf (eOp (gI fun i j => decide (j ≤ i)) (eVar 5) (eVar 4))) (eVar 5) [.pu (.int w), .pu (.int fl), .pu (lI_ m), .pu (lI_ r), .pu (.int (tallM w fl r)), .no] = some ((r.filter (fun x => decide (tallM w fl r ≤ x))).map D.int) := by
    show gd (szOk (r.map D.int)) (lcL (.one 5) _ _ (wipeE _ [5]) (r.map D.int)) = _
    rw [z1, e4] <;> rfl
  refine ret_of (fz_of ((opL_of (fz_of e5) (b := .lst [.int (tallM w fl r)]) rfl).trans ?_))
  show gd (szOk _) _ = _
  rw [z3]
  unfold rowM
  rw [List.map_append] <;> rfl
end DL

set_option Elab.async false
set_option linter.all false
set_option maxRecDepth 100000
set_option maxHeartbeats 4000000
namespace DL
open PySem
/-! ### the plain law: _law_rows, _law_high, _law_tops -/
def descL : Nat → List Nat
  | 0 => []
  | n + 1 => (n + 1) :: descL n
theorem descL_eq : ∀ L, (verL L).reverse = descL L
  | 0 => rfl
  | n + 1 => by
    have : verL (n + 1) = verL n ++ [n + 1] := by
      unfold verL
      rw [List.range_succ, List.map_append] <;> rfl
    rw [this, List.reverse_append, descL, ← descL_eq n] <;> rfl
theorem descL_len : ∀ n, (descL n).length = n
  | 0 => rfl
  | n + 1 => by rw [descL, List.length_cons, descL_len n]
theorem rdD_nv : ∀ n : Nat, rdD (Int.ofNat n) n = (descL n).map nv
  | 0 => rfl
  | n + 1 => by
    have e : Int.ofNat (n + 1) - 1 = Int.ofNat n := by
      show ((n + 1 : Nat) : Int) - 1 = (n : Int)
      omega
    rw [rdD, e, rdD_nv n] <;> rfl
def limsD (ps : List (Int × Int)) : D := lI_ (ps.map (·.1))
def flrsD (roof : Int) (ps : List (Int × Int)) : D := lI_ (ps.map fun q => roof + 1 - q.2)
theorem sub1 {n : Nat} : Int.ofNat (n + 1) - 1 = Int.ofNat n := by
  show ((n + 1 : Nat) : Int) - 1 = (n : Int)
  omega
theorem lim_at {ps : List (Int × Int)} {n : Nat} (h : n < ps.length) : gIx (limsD ps) (.int (Int.ofNat (n + 1) - 1)) = some (.int (pairAt ps (n + 1)).1) := by
  rw [sub1]
  show ((ps.map (·.1)).map D.int)[n]? = _
  rw [List.getElem?_map, List.getElem?_map, List.getElem?_eq_getElem h]
  unfold pairAt
  simp [h]
theorem flr_at {roof : Int} {ps : List (Int × Int)} {n : Nat} (h : n < ps.length) : gIx (flrsD roof ps) (.int (Int.ofNat (n + 1) - 1)) = some (.int (roof + 1 - (pairAt ps (n + 1)).2)) := by
  rw [sub1]
  show ((ps.map fun q => roof + 1 - q.2).map D.int)[n]? = _
  rw [List.getElem?_map, List.getElem?_map, List.getElem?_eq_getElem h]
  unfold pairAt
  simp [h]
theorem gd_t {α : Type} {b : Bool} {x : Option α} (h : b = true) : gd b x = x := by
  rw [h] <;> rfl
theorem sz1 {fa : Env → Option D} {ρ : Env} {a : D} (h : fa ρ = some a) : aSz (aCons fa aNil) ρ = some [a] := by
  simp only [aSz, aCons, aNil, h]
  rfl
abbrev lrB : Env → Option Out := (cSeq (cSet 6 (eCall F__law_step (aCons (eOp gIx (eVar 1) (eOp gSub (eVar 5) (eC (.int 1)))) (aCons (eOp gIx (eVar 2) (eOp gSub (eVar 5) (eC (.int 1)))) (aCons (eIxOw 3 (eVar 5)) aNil))))) (cSeq (cApp 4 (eCall gTupl (aCons (eVar 6) aNil))) (cSetIx 3 (eOp gIx (eVar 0) (eOp gSub (eVar 5) (eC (.int 1)))) (eFz (eOpL gCat (eIxOw 3 (eOp gIx (eVar 0) (eOp gSub (eVar 5) (eC (.int 1))))) (eVar 6))))))
theorem lr_loop {L : Nat} {roof : Int} {ps : List (Int × Int)} (hv : Val L roof ps) : ∀ (n : Nat) (prev : List Int) (ls acc : List D) (s5 s6 : Sl), n ≤ L → ls.length = L + 1 → ls[n]? = some (lI_ prev) → (∀ j, j < n → ls[j]? = some (.lst [])) → prev.length + n ≤ 60 → acc.length + n ≤ 1000 →
    ∃ ls' s5' s6' last, ls'[(0 : Nat)]? = some (lI_ last) ∧ last.length ≤ 60 ∧ forL (.one 5) lrB ((descL n).map nv) [.pu (lineT L), .pu (limsD ps), .pu (flrsD roof ps), .ow ls, .ow acc, s5, s6, .no] =
      some (.nx [.pu (lineT L), .pu (limsD ps), .pu (flrsD roof ps), .ow ls', .ow (acc ++ (walkM (stM roof ps) (descL n) prev).map fun q => tI_ q.2), s5', s6', .no])
  | 0, prev, ls, acc, s5, s6, _, _, h0, _, hp, _ => ⟨ls, s5, s6, prev, h0, by omega, by rw [show (walkM (stM roof ps) (descL 0) prev).map (fun q => tI_ q.2) = [] from rfl, List.append_nil] <;> rfl⟩
  | n + 1, prev, ls, acc, s5, s6, hn, hl, h0, hj, hp, ha => by
    have pa := pairAt_ok hv (v := n + 1) (by omega) hn
    have hps : n < ps.length := by rw [hv.len]; omega
    have st : F__law_step [.int (pairAt ps (n + 1)).1, .int (roof + 1 - (pairAt ps (n + 1)).2), lI_ prev] = some (lI_ (stM roof ps (n + 1) prev)) := lstep_ok pa.1 (by omega)
    have sl := stM_len roof ps (n + 1) prev
    have hjn := hj n (by omega)
    obtain ⟨ls', s5', s6', last, r1, r2, r3⟩ := lr_loop hv n (stM roof ps (n + 1) prev) (ls.set n (lI_ (stM roof ps (n + 1) prev))) (acc ++ [tI_ (stM roof ps (n + 1) prev)]) (.pu (nv (n + 1))) (.pu (lI_ (stM roof ps (n + 1) prev))) (by omega) (by rw [List.length_set]; exact hl) (List.getElem?_set_self (by omega)) (fun j h => by
      rw [List.getElem?_set_ne (by omega)]
      exact hj j (by omega)) (by omega) (by rw [List.length_append, List.length_singleton]; omega)
    refine ⟨ls', s5', s6', last, r1, r2, ?_⟩
    have e1 : cSet 6 (eCall F__law_step (aCons (eOp gIx (eVar 1) (eOp gSub (eVar 5) (eC (.int 1)))) (aCons (eOp gIx (eVar 2) (eOp gSub (eVar 5) (eC (.int 1)))) (aCons (eIxOw 3 (eVar 5)) aNil)))) [.pu (lineT L), .pu (limsD ps), .pu (flrsD roof ps), .ow ls, .ow acc, .pu (nv (n + 1)), s6, .no] =
        some (.nx [.pu (lineT L), .pu (limsD ps), .pu (flrsD roof ps), .ow ls, .ow acc, .pu (nv (n + 1)), .pu (lI_ (stM roof ps (n + 1) prev)), .no]) :=
      set_of (i := 6) ((call3 (lim_at hps) (flr_at hps) (c := lI_ prev) h0).trans st)
    have e2 : cApp 4 (eCall gTupl (aCons (eVar 6) aNil)) [.pu (lineT L), .pu (limsD ps), .pu (flrsD roof ps), .ow ls, .ow acc, .pu (nv (n + 1)), .pu (lI_ (stM roof ps (n + 1) prev)), .no] =
        some (.nx [.pu (lineT L), .pu (limsD ps), .pu (flrsD roof ps), .ow ls, .ow (acc ++ [tI_ (stM roof ps (n + 1) prev)]), .pu (nv (n + 1)), .pu (lI_ (stM roof ps (n + 1) prev)), .no]) := by
      show gd (szOk acc) _ = _
      rw [gd_t (szOk_of (by omega))] <;> rfl
    have ln : eOp gIx (eVar 0) (eOp gSub (eVar 5) (eC (.int 1))) [.pu (lineT L), .pu (limsD ps), .pu (flrsD roof ps), .ow ls, .ow (acc ++ [tI_ (stM roof ps (n + 1) prev)]), .pu (nv (n + 1)), .pu (lI_ (stM roof ps (n + 1) prev)), .no] = some (nv n) := line_at (by omega)
    have e3 : cSetIx 3 (eOp gIx (eVar 0) (eOp gSub (eVar 5) (eC (.int 1)))) (eFz (eOpL gCat (eIxOw 3 (eOp gIx (eVar 0) (eOp gSub (eVar 5) (eC (.int 1))))) (eVar 6))) [.pu (lineT L), .pu (limsD ps), .pu (flrsD roof ps), .ow ls, .ow (acc ++ [tI_ (stM roof ps (n + 1) prev)]), .pu (nv (n + 1)), .pu (lI_ (stM roof ps (n + 1) prev)), .no] =
        some (.nx [.pu (lineT L), .pu (limsD ps), .pu (flrsD roof ps), .ow (ls.set n (lI_ (stM roof ps (n + 1) prev))), .ow (acc ++ [tI_ (stM roof ps (n + 1) prev)]), .pu (nv (n + 1)), .pu (lI_ (stM roof ps (n + 1) prev)), .no]) := by
      have i1 : eIxOw 3 (eOp gIx (eVar 0) (eOp gSub (eVar 5) (eC (.int 1)))) [.pu (lineT L), .pu (limsD ps), .pu (flrsD roof ps), .ow ls, .ow (acc ++ [tI_ (stM roof ps (n + 1) prev)]), .pu (nv (n + 1)), .pu (lI_ (stM roof ps (n + 1) prev)), .no] = some (.lst []) := by
        unfold eIxOw
        rw [ln]
        exact hjn
      have i2 : eFz (eOpL gCat (eIxOw 3 (eOp gIx (eVar 0) (eOp gSub (eVar 5) (eC (.int 1))))) (eVar 6)) [.pu (lineT L), .pu (limsD ps), .pu (flrsD roof ps), .ow ls, .ow (acc ++ [tI_ (stM roof ps (n + 1) prev)]), .pu (nv (n + 1)), .pu (lI_ (stM roof ps (n + 1) prev)), .no] = some (lI_ (stM roof ps (n + 1) prev)) := by
        refine fz_of ((opL_of i1 (b := lI_ (stM roof ps (n + 1) prev)) rfl).trans ?_)
        show gd (szOk ([] ++ (stM roof ps (n + 1) prev).map D.int)) _ = _
        rw [gd_t (szOk_of (by rw [List.nil_append, List.length_map]; omega))] <;> rfl
      unfold cSetIx
      rw [i2, ln]
      show gd (Nat.blt n ls.length) _ = _
      rw [gd_t (by rw [hl]; exact Nat.ble_eq.mpr (by omega))] <;> rfl
    have hb : lrB [.pu (lineT L), .pu (limsD ps), .pu (flrsD roof ps), .ow ls, .ow acc, .pu (nv (n + 1)), s6, .no] = some (.nx [.pu (lineT L), .pu (limsD ps), .pu (flrsD roof ps), .ow (ls.set n (lI_ (stM roof ps (n + 1) prev))), .ow (acc ++ [tI_ (stM roof ps (n + 1) prev)]), .pu (nv (n + 1)), .pu (lI_ (stM roof ps (n + 1) prev)), .no]) := by
      unfold lrB
      rw [seq_nx e1, seq_nx e2, e3]
    rw [descL, List.map_cons, forL_nx rfl hb, r3, walkM, List.map_cons, List.append_assoc] <;> rfl
theorem cut_tail {a : D} {l : List D} : cutD (a :: l) (some 1) none = l := by
  unfold cutD
  have e1 : HT.sIx (a :: l).length 0 (some ((1 : Nat) : Int)) = 1 := by
    rw [HT.sIx_nat, List.length_cons]
    omega
  have e2 : HT.sIx (a :: l).length 0 (some 1) = 1 := e1
  rw [e2, HT.sIx_none, List.length_cons, List.drop_succ_cons, List.drop_zero]
  exact List.take_of_length_le (by omega)
theorem lrows_ok {L : Nat} {roof : Int} {ps : List (Int × Int)} (hv : Val L roof ps) : ∃ x, F__law_rows [lineT L, limsD ps, flrsD roof ps] = some (.lst (x :: (rowsM L roof ps).map tI_)) := by
  have hL := hv.l
  obtain ⟨ls', s5', s6', last, r1, r2, r3⟩ := lr_loop hv L [] (List.replicate (L + 1) (.lst [])) [] .no .no (Nat.le_refl L) (by rw [List.length_replicate]) (by rw [List.getElem?_replicate_of_lt (by omega)] <;> rfl) (fun j h => by rw [List.getElem?_replicate_of_lt (by omega)]) (by simp; omega) (by simp; omega)
  refine ⟨tI_ (rsort last), fn_rt rfl ?_⟩
  show g__law_rows [.pu (lineT L), .pu (limsD ps), .pu (flrsD roof ps), .no, .no, .no, .no, .no] = _
  have sm : smI ((L : Int) + 1) = true := by
    unfold smI
    rw [Bool.and_eq_true, decide_eq_true_iff, decide_eq_true_iff]
    constructor <;> omega
  have e0 : cNew 3 (fLc (iRg1 (eOp gAdd (eCall gLen (aCons (eVar 0) aNil)) (eC (.int 1)))) (.one 7) (List.map (·.2) ([("_law_k", 7)] : List (PySem.Str × Nat))) bYes (eFz (aSz aNil))) [.pu (lineT L), .pu (limsD ps), .pu (flrsD roof ps), .no, .no, .no, .no, .no] =
      some (.nx [.pu (lineT L), .pu (limsD ps), .pu (flrsD roof ps), .ow (List.replicate (L + 1) (.lst [])), .no, .no, .no, .no]) := by
    have i1 : iRg1 (eOp gAdd (eCall gLen (aCons (eVar 0) aNil)) (eC (.int 1))) [.pu (lineT L), .pu (limsD ps), .pu (flrsD roof ps), .no, .no, .no, .no, .no] = some (((List.range (L + 1)).map (fun i => i + 0)).map nv) := by
      show gd (smI (((lineL L).length : Int) + 1)) (some (rgD 0 (((lineL L).length : Int) + 1).toNat)) = _
      rw [lineL_len, gd_t sm]
      have : ((L : Int) + 1).toNat = L + 1 := by omega
      rw [this]
      exact congrArg some (rgD_nv (L + 1) 0)
    have i2 : fLc (iRg1 (eOp gAdd (eCall gLen (aCons (eVar 0) aNil)) (eC (.int 1)))) (.one 7) (List.map (·.2) ([("_law_k", 7)] : List (PySem.Str × Nat))) bYes (eFz (aSz aNil)) [.pu (lineT L), .pu (limsD ps), .pu (flrsD roof ps), .no, .no, .no, .no, .no] = some (List.replicate (L + 1) (.lst [])) := by
      unfold fLc
      rw [i1]
      show gd (szOk _) (lcL _ _ _ _ _) = _
      rw [gd_t (szOk_of (by rw [List.length_map, List.length_map, List.length_range]; omega)), lc_all nv (fun _ => .lst []) _ fun a _ => ⟨_, rfl, rfl⟩]
      congr 1
      rw [List.map_map, List.eq_replicate_iff]
      refine ⟨by rw [List.length_map, List.length_range], fun b hb => ?_⟩
      obtain ⟨_, _, rfl⟩ := List.mem_map.mp hb
      rfl
    unfold cNew
    rw [i2] <;> rfl
  have e1 : cNew 4 (aSz aNil) [.pu (lineT L), .pu (limsD ps), .pu (flrsD roof ps), .ow (List.replicate (L + 1) (.lst [])), .no, .no, .no, .no] = some (.nx [.pu (lineT L), .pu (limsD ps), .pu (flrsD roof ps), .ow (List.replicate (L + 1) (.lst [])), .ow [], .no, .no, .no]) := rfl
  have e2 : cFor (iRg3 (eCall gLen (aCons (eVar 0) aNil)) (eC (.int 0))) (.one 5) lrB [.pu (lineT L), .pu (limsD ps), .pu (flrsD roof ps), .ow (List.replicate (L + 1) (.lst [])), .ow [], .no, .no, .no] = some (.nx [.pu (lineT L), .pu (limsD ps), .pu (flrsD roof ps), .ow ls', .ow ([] ++ (walkM (stM roof ps) (descL L) []).map fun q => tI_ q.2), s5', s6', .no]) := by
    have i1 : iRg3 (eCall gLen (aCons (eVar 0) aNil)) (eC (.int 0)) [.pu (lineT L), .pu (limsD ps), .pu (flrsD roof ps), .ow (List.replicate (L + 1) (.lst [])), .ow [], .no, .no, .no] = some ((descL L).map nv) := by
      show gd (smI ((lineL L).length : Int) && smI 0) (some (rdD ((lineL L).length : Int) (((lineL L).length : Int) - 0).toNat)) = _
      rw [lineL_len]
      have s1 : smI (L : Int) = true := by
        unfold smI
        rw [Bool.and_eq_true, decide_eq_true_iff, decide_eq_true_iff]
        constructor <;> omega
      have s2 : ((L : Int) - 0).toNat = L := by omega
      rw [gd_t (by rw [s1] <;> rfl), s2]
      exact congrArg some (rdD_nv L)
    unfold cFor
    rw [i1]
    exact r3
  unfold g__law_rows
  rw [seq_nx e0, seq_nx e1, seq_nx e2]
  have e3 : eIxOw 3 (eC (.int 0)) [.pu (lineT L), .pu (limsD ps), .pu (flrsD roof ps), .ow ls', .pu (.lst ([] ++ (walkM (stM roof ps) (descL L) []).map fun q => tI_ q.2)), s5', s6', .no] = some (lI_ last) := r1
  show cRet _ [.pu (lineT L), .pu (limsD ps), .pu (flrsD roof ps), .ow ls', .pu (.lst ([] ++ (walkM (stM roof ps) (descL L) []).map fun q => tI_ q.2)), s5', s6', .no] = _
  have e4 : eFz (aSz (aCons (eCall gTupl (aCons (eFz (lSortR (eIxOw 3 (eC (.int 0))))) aNil)) aNil)) [.pu (lineT L), .pu (limsD ps), .pu (flrsD roof ps), .ow ls', .pu (.lst ([] ++ (walkM (stM roof ps) (descL L) []).map fun q => tI_ q.2)), s5', s6', .no] = some (.lst [tI_ (rsort last)]) := by
    have i1 : lSortR (eIxOw 3 (eC (.int 0))) [.pu (lineT L), .pu (limsD ps), .pu (flrsD roof ps), .ow ls', .pu (.lst ([] ++ (walkM (stM roof ps) (descL L) []).map fun q => tI_ q.2)), s5', s6', .no] = some ((rsort last).map D.int) := by
      unfold lSortR
      rw [e3]
      show (match intsOf (last.map D.int) with
        | some ns => some ((rsort ns).map D.int)
        | none => none) = _
      rw [intsOf_map]
    have i2 := (call1 (F := gTupl) (fz_of i1)).trans (show gTupl [.lst ((rsort last).map D.int)] = some (tI_ (rsort last)) from rfl)
    exact fz_of (sz1 i2)
  refine ret_of (fz_of ((opL_of e4 (b := .lst ((rowsM L roof ps).map tI_)) (fz_of ?_)).trans ?_))
  · show some ([] ++ (walkM (stM roof ps) (descL L) []).map fun q : Nat × List Int => tI_ q.2).reverse = _
    rw [List.nil_append, ← List.map_reverse]
    unfold rowsM
    rw [descL_eq, List.map_map] <;> rfl
  · show gd (szOk _) _ = _
    rw [gd_t (szOk_of (by rw [List.length_append, List.length_map, rowsM_len, List.length_singleton]; omega))] <;> rfl
theorem lhigh_ok {x : D} {rs : List (List Int)} (h : ∀ r ∈ rs, r ≠ []) (hl : rs.length ≤ 100) : F__law_high [.lst (x :: rs.map tI_)] = some (.int (maxL 0 (rs.map (·.headD 0)))) := by
  refine fn_rt rfl ?_
  show cRet _ [.pu (.lst (x :: rs.map tI_)), .no] = _
  have e1 : fLc (iLstD (eFz (lSl (eVar 0) (oYes (eC (.int 1))) oNo))) (.one 1) (List.map (·.2) ([("_law_row", 1)] : List (PySem.Str × Nat))) bYes (eOp gIx (eVar 1) (eC (.int 0))) [.pu (.lst (x :: rs.map tI_)), .no] = some ((rs.map (·.headD 0)).map D.int) := by
    show gd (szOk (cutD (x :: rs.map tI_) (some 1) none)) (lcL _ _ _ _ (cutD (x :: rs.map tI_) (some 1) none)) = _
    rw [cut_tail, gd_t (szOk_of (by rw [List.length_map]; omega))]
    exact heads_rep h (by show 1 < 2; decide)
  have e2 : eFz (eOpL gCat (eFz (aSz (aCons (eC (.int 0)) aNil))) (eFz (fLc (iLstD (eFz (lSl (eVar 0) (oYes (eC (.int 1))) oNo))) (.one 1) (List.map (·.2) ([("_law_row", 1)] : List (PySem.Str × Nat))) bYes (eOp gIx (eVar 1) (eC (.int 0)))))) [.pu (.lst (x :: rs.map tI_)), .no] = some (.lst (.int 0 :: (rs.map (·.headD 0)).map D.int)) := by
    refine fz_of ((opL_of (a := .lst [.int 0]) rfl (fz_of e1)).trans ?_)
    show gd (szOk _) _ = _
    rw [gd_t (szOk_of (by rw [List.length_append, List.length_map, List.length_map, List.length_singleton]; omega))] <;> rfl
  refine ret_of ((call1 e2).trans ?_)
  show (match intsOf ((rs.map (·.headD 0)).map D.int) with
    | some ns => some (D.int (maxL 0 ns))
    | none => none) = _
  rw [intsOf_map]
end DL

set_option Elab.async false
set_option linter.all false
set_option maxRecDepth 100000
set_option maxHeartbeats 4000000
namespace DL
open PySem
/-! ### the plain law: _law_tops; the tops agree -/
theorem lims_lc {ρw : Env} {ps : List (Int × Int)} (hi : 4 < ρw.length) : lcL (.one 4) bYes (eOp gIx (eVar 4) (eC (.int 0))) ρw (prs ps) = some ((ps.map (·.1)).map D.int) := by
  have := lc_all (t := .one 4) (el := eOp gIx (eVar 4) (eC (.int 0))) (ρw := ρw) (fun q : Int × Int => D.tup [.int q.1, .int q.2]) (fun q => .int q.1) ps fun q _ => ⟨_, rfl, by
    have e1 : eVar 4 (ρw.set 4 (.pu (D.tup [.int q.1, .int q.2]))) = some (D.tup [.int q.1, .int q.2]) := by
      unfold eVar
      rw [List.getElem?_set_self hi]
    exact (op_of (b := .int 0) e1 rfl).trans rfl⟩
  unfold prs
  rw [this, List.map_map] <;> rfl
theorem lims_of {ρ : Env} {tree : D} {roof : Int} {ps : List (Int × Int)} (h : ρ[(1 : Nat)]? = some (.pu (bd roof ps))) (hl : 4 < ρ.length) (hp : ps.length ≤ 100) : eFz (fLc (iTupD (eOp gIx (eVar 1) (eC (.int 1)))) (.one 4) (List.map (·.2) ([("_law_pair", 4)] : List (PySem.Str × Nat))) bYes (eOp gIx (eVar 4) (eC (.int 0)))) ρ = some (limsD ps) := by
  have i1 : iTupD (eOp gIx (eVar 1) (eC (.int 1))) ρ = some (prs ps) := by
    have e1 : eVar 1 ρ = some (bd roof ps) := by
      unfold eVar
      rw [h]
    have e2 : eOp gIx (eVar 1) (eC (.int 1)) ρ = some (.tup (prs ps)) := (op_of (b := .int 1) e1 rfl).trans rfl
    unfold iTupD
    rw [e2]
  refine fz_of ?_
  unfold fLc
  rw [i1]
  show gd (szOk (prs ps)) (lcL _ _ _ (wipeE ρ [4]) _) = _
  rw [gd_t (szOk_of (by rw [prs_len]; omega))]
  exact lims_lc (by show 4 < (ρ.set 4 .no).length; rw [List.length_set]; exact hl)
theorem flrs_lc {ρw : Env} {roof : Int} {ps : List (Int × Int)} (hi : 4 < ρw.length) (h1 : ρw[(1 : Nat)]? = some (.pu (bd roof ps))) : lcL (.one 4) bYes (eOp gSub (eOp gAdd (eOp gIx (eVar 1) (eC (.int 0))) (eC (.int 1))) (eOp gIx (eVar 4) (eC (.int 1)))) ρw (prs ps) = some ((ps.map fun q => roof + 1 - q.2).map D.int) := by
  have := lc_all (t := .one 4) (el := eOp gSub (eOp gAdd (eOp gIx (eVar 1) (eC (.int 0))) (eC (.int 1))) (eOp gIx (eVar 4) (eC (.int 1)))) (ρw := ρw) (fun q : Int × Int => D.tup [.int q.1, .int q.2]) (fun q => .int (roof + 1 - q.2)) ps fun q _ => ⟨_, rfl, by
    have e1 : eVar 4 (ρw.set 4 (.pu (D.tup [.int q.1, .int q.2]))) = some (D.tup [.int q.1, .int q.2]) := by
      unfold eVar
      rw [List.getElem?_set_self hi]
    have e2 : eVar 1 (ρw.set 4 (.pu (D.tup [.int q.1, .int q.2]))) = some (bd roof ps) := by
      unfold eVar
      rw [List.getElem?_set_ne (by decide), h1]
    have e3 : eOp gIx (eVar 1) (eC (.int 0)) (ρw.set 4 (.pu (D.tup [.int q.1, .int q.2]))) = some (.int roof) := (op_of (b := .int 0) e2 rfl).trans rfl
    have e4 : eOp gAdd (eOp gIx (eVar 1) (eC (.int 0))) (eC (.int 1)) (ρw.set 4 (.pu (D.tup [.int q.1, .int q.2]))) = some (.int (roof + 1)) := (op_of (b := .int 1) e3 rfl).trans rfl
    have e5 : eOp gIx (eVar 4) (eC (.int 1)) (ρw.set 4 (.pu (D.tup [.int q.1, .int q.2]))) = some (.int q.2) := (op_of (b := .int 1) e1 rfl).trans rfl
    exact (op_of e4 e5).trans rfl⟩
  unfold prs
  rw [this, List.map_map] <;> rfl
theorem flrs_of {ρ : Env} {roof : Int} {ps : List (Int × Int)} (h : ρ[(1 : Nat)]? = some (.pu (bd roof ps))) (hl : 4 < ρ.length) (hp : ps.length ≤ 100) : eFz (fLc (iTupD (eOp gIx (eVar 1) (eC (.int 1)))) (.one 4) (List.map (·.2) ([("_law_pair", 4)] : List (PySem.Str × Nat))) bYes (eOp gSub (eOp gAdd (eOp gIx (eVar 1) (eC (.int 0))) (eC (.int 1))) (eOp gIx (eVar 4) (eC (.int 1))))) ρ = some (flrsD roof ps) := by
  have i1 : iTupD (eOp gIx (eVar 1) (eC (.int 1))) ρ = some (prs ps) := by
    have e1 : eVar 1 ρ = some (bd roof ps) := by
      unfold eVar
      rw [h]
    have e2 : eOp gIx (eVar 1) (eC (.int 1)) ρ = some (.tup (prs ps)) := (op_of (b := .int 1) e1 rfl).trans rfl
    unfold iTupD
    rw [e2]
  refine fz_of ?_
  unfold fLc
  rw [i1]
  show gd (szOk (prs ps)) (lcL _ _ _ (wipeE ρ [4]) _) = _
  rw [gd_t (szOk_of (by rw [prs_len]; omega))]
  exact flrs_lc (by show 4 < (ρ.set 4 .no).length; rw [List.length_set]; exact hl) (by show (ρ.set 4 .no)[(1 : Nat)]? = _; rw [List.getElem?_set_ne (by decide)]; exact h)
theorem ltops_ok {L : Nat} {roof : Int} {ps : List (Int × Int)} (hv : Val L roof ps) : F__law_tops [lineT L, bd roof ps] = some (.int (maxL 0 (headsM L roof ps))) := by
  have hL := hv.l
  obtain ⟨x, lr⟩ := lrows_ok hv
  have lh := lhigh_ok (x := x) (rs := rowsM L roof ps) rowsM_ne (by rw [rowsM_len]; omega)
  refine fn_rt rfl ?_
  show g__law_tops [.pu (lineT L), .pu (bd roof ps), .no, .no, .no] = _
  unfold g__law_tops
  rw [seq_nx (set_of (lims_of (tree := .non) (roof := roof) (ps := ps) rfl (by show 4 < 5; decide) (by rw [hv.len]; omega)))]
  refine (seq_nx (set_of (flrs_of (roof := roof) (ps := ps) rfl (by show 4 < 5; decide) (by rw [hv.len]; omega)))).trans ?_
  exact ret_of ((call1 ((call3 (a := lineT L) (b := limsD ps) (c := flrsD roof ps) rfl rfl rfl).trans lr)).trans lh)
theorem tall_ge (w fl : Int) (r : List Int) : fl ≤ tallM w fl r := by
  unfold tallM
  split
  · split
    · split
      · rename_i h
        have := of_decide_eq_true h
        omega
      · exact Int.le_refl _
    · exact Int.le_refl _
  · exact Int.le_refl _
theorem rowM_head (w fl : Int) (r : List Int) : fl ≤ (rowM w fl r).headD 0 := by
  have h := tall_ge w fl r
  unfold rowM
  cases hf : r.filter (fun m => decide (tallM w fl r ≤ m)) with
  | nil => exact h
  | cons a l =>
    have : a ∈ r.filter (fun m => decide (tallM w fl r ≤ m)) := by rw [hf]; exact List.mem_cons_self
    have := of_decide_eq_true (List.mem_filter.mp this).2
    show fl ≤ a
    omega
theorem heads_pos {L : Nat} {roof : Int} {ps : List (Int × Int)} (hv : Val L roof ps) : ∀ x ∈ headsM L roof ps, 1 ≤ x := by
  have key : ∀ (vs : List Nat) (prev : List Int), (∀ v ∈ vs, 1 ≤ v ∧ v ≤ L) → ∀ q ∈ walkM (stM roof ps) vs prev, 1 ≤ q.2.headD 0 := by
    intro vs
    induction vs with
    | nil => intro prev _ q h; cases h
    | cons v r ih =>
      intro prev hr q h
      rcases List.mem_cons.mp h with e | e
      · rw [e]
        have p := pairAt_ok hv (hr v List.mem_cons_self).1 (hr v List.mem_cons_self).2
        have := rowM_head (pairAt ps v).1 (roof + 1 - (pairAt ps v).2) (rsort prev)
        show 1 ≤ (rowM (pairAt ps v).1 (roof + 1 - (pairAt ps v).2) (rsort prev)).headD 0
        omega
      · exact ih _ (fun x hx => hr x (List.mem_cons_of_mem _ hx)) q e
  intro x hx
  obtain ⟨r, hr, rfl⟩ := List.mem_map.mp hx
  obtain ⟨q, hq, rfl⟩ := List.mem_map.mp hr
  exact key _ _ (fun v h => verL_mem (List.mem_reverse.mp h)) q (List.mem_reverse.mp hq)
theorem top_eq {L : Nat} {roof : Int} {ps : List (Int × Int)} (hv : Val L roof ps) : topM L roof ps = maxL 0 (headsM L roof ps) := by
  have hp := heads_pos hv
  unfold topM
  cases h : headsM L roof ps with
  | nil => rfl
  | cons x r =>
    have : 1 ≤ x := hp x (by rw [h]; exact List.mem_cons_self)
    show maxL x r = maxL (if 0 < x then x else 0) r
    rw [if_pos (by omega)]
/-- nothing above the roof, by the tops -/
theorem above_iff {L : Nat} {roof : Int} {ps : List (Int × Int)} (hv : Val L roof ps) : (!aboveM roof ps (verL L)) = decide (maxL 0 (headsM L roof ps) ≤ roof) := by
  obtain ⟨h1, h2⟩ := maxL_spec (headsM L roof ps) 0
  have hr := hv.r1
  have e : aboveM roof ps (verL L) = (headsM L roof ps).any fun x => decide (roof < x) := by
    unfold aboveM headsM rowsM
    rw [List.map_map, List.any_map, List.any_reverse] <;> rfl
  rw [e, Bool.eq_iff_iff, decide_eq_true_iff, Bool.not_eq_true', ← Bool.not_eq_true, List.any_eq_true]
  constructor
  · intro h
    rcases List.mem_cons.mp h1 with z | z
    · rw [z]; omega
    · by_cases hle : maxL 0 (headsM L roof ps) ≤ roof
      · exact hle
      · exact absurd ⟨_, z, decide_eq_true (by omega)⟩ h
  · rintro h ⟨x, hx, hd⟩
    have := h2 x (List.mem_cons_of_mem _ hx)
    have := of_decide_eq_true hd
    omega
end DL

set_option Elab.async false
set_option linter.all false
set_option maxRecDepth 100000
set_option maxHeartbeats 4000000
namespace DL
open PySem
/-! ### the plain law: _law_above -/
theorem memI_nv (e : Nat) : ∀ us : List Nat, memI (Int.ofNat e) (us.map nv) = some (decide (e ∈ us))
  | [] => rfl
  | u :: us => by
    have h1 : decide (Int.ofNat u = Int.ofNat e) = decide (u = e) := by
      by_cases z : u = e
      · rw [z, decide_eq_true rfl, decide_eq_true rfl]
      · rw [decide_eq_false z, decide_eq_false (fun h => z (Int.ofNat.inj h))]
    have h2 : decide (e ∈ u :: us) = (decide (u = e) || decide (e ∈ us)) := by
      by_cases z : u = e
      · simp [z]
      · simp [z, Ne.symm z]
    rw [List.map_cons, memI, memI_nv e us, h2]
    show some _ = some _
    rw [h1] <;> rfl
theorem forL_bk {t : Tg} {body : Env → Option Out} {d : D} {r : List D} {ρ ρ1 ρ' : Env} (h1 : t.put d ρ = some ρ1) (h2 : body ρ1 = some (.bk ρ')) : forL t body (d :: r) ρ = some (.nx ρ') := by
  rw [forL, h1]
  simp only [h2]
theorem forL_rt {t : Tg} {body : Env → Option Out} {d x : D} {r : List D} {ρ ρ1 : Env} (h1 : t.put d ρ = some ρ1) (h2 : body ρ1 = some (.rt x)) : forL t body (d :: r) ρ = some (.rt x) := by
  rw [forL, h1]
  simp only [h2]
theorem seq_bk {g1 g2 : Env → Option Out} {ρ ρ' : Env} (h : g1 ρ = some (.bk ρ')) : cSeq g1 g2 ρ = some (.bk ρ') := by
  simp only [cSeq, h]
theorem seq_rt {g1 g2 : Env → Option Out} {ρ : Env} {d : D} (h : g1 ρ = some (.rt d)) : cSeq g1 g2 ρ = some (.rt d) := by
  simp only [cSeq, h]
abbrev laI : Env → Option Out := (cSeq (cIf (bOr (bOf (eOp gEq (eVar 9) (eC (.int 0)))) (bOf (eOp gIn (eVar 9) (eVar 4)))) cBrk cNext) (cSet 9 (eOp gIx (eVar 0) (eOp gSub (eVar 9) (eC (.int 1))))))
theorem la_inner {L : Nat} {us : List Nat} {s1 s2 s3 s6 s7 s8 : Sl} : ∀ (ds : List D) (e : Nat) (s5 : Sl), e ≤ ds.length → e ≤ L → ∃ s5', forL (.one 5) laI ds [.pu (lineT L), s1, s2, s3, .pu (.lst (us.map nv)), s5, s6, s7, s8, .pu (nv e)] =
    some (.nx [.pu (lineT L), s1, s2, s3, .pu (.lst (us.map nv)), s5', s6, s7, s8, .pu (nv (nearM (fun j => decide (j ∈ us)) e))])
  | [], 0, s5, _, _ => ⟨s5, rfl⟩
  | [], e + 1, _, h, _ => absurd h (by simp)
  | d :: r, 0, s5, _, _ => ⟨.pu d, forL_bk rfl (seq_bk rfl)⟩
  | d :: r, e + 1, s5, h, hL => by
    have c1 : bOf (eOp gEq (eVar 9) (eC (.int 0))) [.pu (lineT L), s1, s2, s3, .pu (.lst (us.map nv)), .pu d, s6, s7, s8, .pu (nv (e + 1))] = some false := by
      show some (decide (Int.ofNat (e + 1) = 0)) = _
      rw [decide_eq_false (by
        intro h
        have h : ((e + 1 : Nat) : Int) = 0 := h
        omega)]
    have c2 : bOf (eOp gIn (eVar 9) (eVar 4)) [.pu (lineT L), s1, s2, s3, .pu (.lst (us.map nv)), .pu d, s6, s7, s8, .pu (nv (e + 1))] = some (decide (e + 1 ∈ us)) := by
      have : eOp gIn (eVar 9) (eVar 4) [.pu (lineT L), s1, s2, s3, .pu (.lst (us.map nv)), .pu d, s6, s7, s8, .pu (nv (e + 1))] = some (.bl (decide (e + 1 ∈ us))) := by
        refine (op_of (a := nv (e + 1)) (b := .lst (us.map nv)) rfl rfl).trans ?_
        show (match memI (Int.ofNat (e + 1)) (us.map nv) with
          | some b => some (D.bl b)
          | none => none) = _
        rw [memI_nv]
      exact bof_of this
    have c3 : bOr (bOf (eOp gEq (eVar 9) (eC (.int 0)))) (bOf (eOp gIn (eVar 9) (eVar 4))) [.pu (lineT L), s1, s2, s3, .pu (.lst (us.map nv)), .pu d, s6, s7, s8, .pu (nv (e + 1))] = some (decide (e + 1 ∈ us)) := by
      unfold bOr
      rw [c1]
      exact c2
    cases hk : decide (e + 1 ∈ us) with
    | true =>
      rw [hk] at c3
      have hn : nearM (fun j => decide (j ∈ us)) (e + 1) = e + 1 := by
        rw [nearM]
        simp only [hk]
      rw [hn]
      exact ⟨.pu d, forL_bk rfl (seq_bk ((if_t c3).trans rfl))⟩
    | false =>
      rw [hk] at c3
      have hn : nearM (fun j => decide (j ∈ us)) (e + 1) = nearM (fun j => decide (j ∈ us)) e := by
        rw [nearM]
        simp only [hk]
      obtain ⟨s5', ih⟩ := la_inner (L := L) (us := us) (s1 := s1) (s2 := s2) (s3 := s3) (s6 := s6) (s7 := s7) (s8 := s8) r e (.pu d) (by rw [List.length_cons] at h; omega) (by omega)
      have e7 : eOp gIx (eVar 0) (eOp gSub (eVar 9) (eC (.int 1))) [.pu (lineT L), s1, s2, s3, .pu (.lst (us.map nv)), .pu d, s6, s7, s8, .pu (nv (e + 1))] = some (nv e) := line_at (by omega)
      have hb : laI [.pu (lineT L), s1, s2, s3, .pu (.lst (us.map nv)), .pu d, s6, s7, s8, .pu (nv (e + 1))] = some (.nx [.pu (lineT L), s1, s2, s3, .pu (.lst (us.map nv)), .pu d, s6, s7, s8, .pu (nv e)]) :=
        (seq_nx ((if_f c3).trans rfl)).trans (set_of e7)
      rw [hn]
      exact ⟨s5', (forL_nx rfl hb).trans ih⟩
end DL

set_option Elab.async false
set_option linter.all false
set_option maxRecDepth 100000
set_option maxHeartbeats 4000000
namespace DL
open PySem
abbrev laB : Env → Option Out := (cSeq (cSet 8 (eCall F__law_step (aCons (eOp gIx (eVar 1) (eOp gSub (eVar 7) (eC (.int 1)))) (aCons (eOp gIx (eVar 2) (eOp gSub (eVar 7) (eC (.int 1)))) (aCons (eIxOw 6 (eVar 7)) aNil))))) (cSeq (cIf (bOf (eOp (gI fun i j => decide (j < i)) (eOp gIx (eVar 8) (eC (.int 0))) (eVar 3))) (cRet (eC (.bl true))) cNext) (cSeq (cSet 9 (eOp gIx (eVar 0) (eOp gSub (eVar 7) (eC (.int 1))))) (cSeq (cFor (iRg1 (eCall gLen (aCons (eVar 0) aNil))) (.one 5) laI) (cSetIx 6 (eVar 9) (eFz (eOpL gCat (eIxOw 6 (eVar 9)) (eVar 8))))))))
theorem rg_len (L : Nat) (hL : L ≤ 20) : ∀ ρ : Env, ρ[(0 : Nat)]? = some (.pu (lineT L)) → iRg1 (eCall gLen (aCons (eVar 0) aNil)) ρ = some (((List.range L).map (fun i => i + 0)).map nv) := fun ρ h => by
  have e1 : eVar 0 ρ = some (lineT L) := by
    unfold eVar
    rw [h]
  have e2 : eCall gLen (aCons (eVar 0) aNil) ρ = some (.int L) := by
    rw [call1 e1]
    show some (D.int ((lineL L).length : Int)) = _
    rw [lineL_len]
  have s1 : smI (L : Int) = true := by
    unfold smI
    rw [Bool.and_eq_true, decide_eq_true_iff, decide_eq_true_iff]
    constructor <;> omega
  unfold iRg1
  rw [e2]
  show gd (smI (L : Int)) (some (rgD 0 ((L : Int)).toNat)) = _
  rw [gd_t s1, Int.toNat_natCast]
  exact congrArg some (rgD_nv L 0)
theorem la_loop {L : Nat} {roof : Int} {ps : List (Int × Int)} {us : List Nat} (hv : Val L roof ps) : ∀ (vs : List Nat) (prev : List Int) (ls : List D) (s5 s7 s8 s9 : Sl), Ch (fun j => decide (j ∈ us)) L vs → ls.length = L + 1 → (∀ v r, vs = v :: r → ls[v]? = some (lI_ prev) ∧ ∀ j, j < v → ls[j]? = some (.lst [])) → prev.length + vs.length ≤ 60 →
    (((walkM (stM roof ps) vs prev).any (fun q => decide (roof < q.2.headD 0)) = true → forL (.one 7) laB (vs.map nv) [.pu (lineT L), .pu (limsD ps), .pu (flrsD roof ps), .pu (.int roof), .pu (.lst (us.map nv)), s5, .ow ls, s7, s8, s9] = some (.rt (.bl true))) ∧
    ((walkM (stM roof ps) vs prev).any (fun q => decide (roof < q.2.headD 0)) = false → ∃ ρ', forL (.one 7) laB (vs.map nv) [.pu (lineT L), .pu (limsD ps), .pu (flrsD roof ps), .pu (.int roof), .pu (.lst (us.map nv)), s5, .ow ls, s7, s8, s9] = some (.nx ρ')))
  | [], prev, ls, s5, s7, s8, s9, _, _, _, _ => ⟨(fun h => by cases h), fun _ => ⟨_, rfl⟩⟩
  | v :: r, prev, ls, s5, s7, s8, s9, hc, hl, hs, hn => by
    obtain ⟨h1, h2, h3, h4⟩ := hc
    obtain ⟨q1, q2⟩ := hs v r rfl
    obtain ⟨n, rfl⟩ : ∃ n, v = n + 1 := ⟨v - 1, by omega⟩
    rw [List.length_cons] at hn
    have hL := hv.l
    have pa := pairAt_ok hv (v := n + 1) (by omega) h2
    have hps : n < ps.length := by rw [hv.len]; omega
    have st : F__law_step [.int (pairAt ps (n + 1)).1, .int (roof + 1 - (pairAt ps (n + 1)).2), lI_ prev] = some (lI_ (stM roof ps (n + 1) prev)) := lstep_ok pa.1 (by omega)
    have sl := stM_len roof ps (n + 1) prev
    have sne : stM roof ps (n + 1) prev ≠ [] := rowM_ne _ _ _
    have e1 : cSet 8 (eCall F__law_step (aCons (eOp gIx (eVar 1) (eOp gSub (eVar 7) (eC (.int 1)))) (aCons (eOp gIx (eVar 2) (eOp gSub (eVar 7) (eC (.int 1)))) (aCons (eIxOw 6 (eVar 7)) aNil)))) [.pu (lineT L), .pu (limsD ps), .pu (flrsD roof ps), .pu (.int roof), .pu (.lst (us.map nv)), s5, .ow ls, .pu (nv (n + 1)), s8, s9] =
        some (.nx [.pu (lineT L), .pu (limsD ps), .pu (flrsD roof ps), .pu (.int roof), .pu (.lst (us.map nv)), s5, .ow ls, .pu (nv (n + 1)), .pu (lI_ (stM roof ps (n + 1) prev)), s9]) :=
      set_of (i := 8) ((call3 (lim_at hps) (flr_at hps) (c := lI_ prev) q1).trans st)
    have hd : gIx (lI_ (stM roof ps (n + 1) prev)) (.int 0) = some (.int ((stM roof ps (n + 1) prev).headD 0)) := by
      cases hst : stM roof ps (n + 1) prev with
      | nil => exact absurd hst sne
      | cons a l => rfl
    have c1 : bOf (eOp (gI fun i j => decide (j < i)) (eOp gIx (eVar 8) (eC (.int 0))) (eVar 3)) [.pu (lineT L), .pu (limsD ps), .pu (flrsD roof ps), .pu (.int roof), .pu (.lst (us.map nv)), s5, .ow ls, .pu (nv (n + 1)), .pu (lI_ (stM roof ps (n + 1) prev)), s9] = some (decide (roof < (stM roof ps (n + 1) prev).headD 0)) :=
      bof_of ((op_of (b := .int roof) ((op_of (a := lI_ (stM roof ps (n + 1) prev)) (b := .int 0) rfl rfl).trans hd) rfl).trans rfl)
    rw [walkM, List.any_cons]
    cases hb : decide (roof < (stM roof ps (n + 1) prev).headD 0) with
    | true =>
      rw [hb] at c1
      refine ⟨fun _ => ?_, (fun h => by cases h)⟩
      refine forL_rt rfl ?_
      exact (seq_nx e1).trans (seq_rt ((if_t c1).trans rfl))
    | false =>
      rw [hb] at c1
      have e3 : cSet 9 (eOp gIx (eVar 0) (eOp gSub (eVar 7) (eC (.int 1)))) [.pu (lineT L), .pu (limsD ps), .pu (flrsD roof ps), .pu (.int roof), .pu (.lst (us.map nv)), s5, .ow ls, .pu (nv (n + 1)), .pu (lI_ (stM roof ps (n + 1) prev)), s9] =
          some (.nx [.pu (lineT L), .pu (limsD ps), .pu (flrsD roof ps), .pu (.int roof), .pu (.lst (us.map nv)), s5, .ow ls, .pu (nv (n + 1)), .pu (lI_ (stM roof ps (n + 1) prev)), .pu (nv n)]) :=
        set_of (i := 9) (line_at (by omega))
      have hj : nearM (fun j => decide (j ∈ us)) n < n + 1 := by have := near_le (fun j => decide (j ∈ us)) n; omega
      have sj := q2 _ hj
      obtain ⟨s5', in1⟩ := la_inner (L := L) (us := us) (s1 := .pu (limsD ps)) (s2 := .pu (flrsD roof ps)) (s3 := .pu (.int roof)) (s6 := .ow ls) (s7 := .pu (nv (n + 1))) (s8 := .pu (lI_ (stM roof ps (n + 1) prev))) (((List.range L).map (fun i => i + 0)).map nv) n s5 (by rw [List.length_map, List.length_map, List.length_range]; omega) (by omega)
      have e4 : cFor (iRg1 (eCall gLen (aCons (eVar 0) aNil))) (.one 5) laI [.pu (lineT L), .pu (limsD ps), .pu (flrsD roof ps), .pu (.int roof), .pu (.lst (us.map nv)), s5, .ow ls, .pu (nv (n + 1)), .pu (lI_ (stM roof ps (n + 1) prev)), .pu (nv n)] =
          some (.nx [.pu (lineT L), .pu (limsD ps), .pu (flrsD roof ps), .pu (.int roof), .pu (.lst (us.map nv)), s5', .ow ls, .pu (nv (n + 1)), .pu (lI_ (stM roof ps (n + 1) prev)), .pu (nv (nearM (fun j => decide (j ∈ us)) n))]) := by
        unfold cFor
        rw [rg_len L hL _ rfl]
        exact in1
      have e5 : cSetIx 6 (eVar 9) (eFz (eOpL gCat (eIxOw 6 (eVar 9)) (eVar 8))) [.pu (lineT L), .pu (limsD ps), .pu (flrsD roof ps), .pu (.int roof), .pu (.lst (us.map nv)), s5', .ow ls, .pu (nv (n + 1)), .pu (lI_ (stM roof ps (n + 1) prev)), .pu (nv (nearM (fun j => decide (j ∈ us)) n))] =
          some (.nx [.pu (lineT L), .pu (limsD ps), .pu (flrsD roof ps), .pu (.int roof), .pu (.lst (us.map nv)), s5', .ow (ls.set (nearM (fun j => decide (j ∈ us)) n) (lI_ (stM roof ps (n + 1) prev))), .pu (nv (n + 1)), .pu (lI_ (stM roof ps (n + 1) prev)), .pu (nv (nearM (fun j => decide (j ∈ us)) n))]) := by
        have i1 : eIxOw 6 (eVar 9) [.pu (lineT L), .pu (limsD ps), .pu (flrsD roof ps), .pu (.int roof), .pu (.lst (us.map nv)), s5', .ow ls, .pu (nv (n + 1)), .pu (lI_ (stM roof ps (n + 1) prev)), .pu (nv (nearM (fun j => decide (j ∈ us)) n))] = some (.lst []) := sj
        have i2 : eFz (eOpL gCat (eIxOw 6 (eVar 9)) (eVar 8)) [.pu (lineT L), .pu (limsD ps), .pu (flrsD roof ps), .pu (.int roof), .pu (.lst (us.map nv)), s5', .ow ls, .pu (nv (n + 1)), .pu (lI_ (stM roof ps (n + 1) prev)), .pu (nv (nearM (fun j => decide (j ∈ us)) n))] = some (lI_ (stM roof ps (n + 1) prev)) := by
          refine fz_of ((opL_of i1 (b := lI_ (stM roof ps (n + 1) prev)) rfl).trans ?_)
          show gd (szOk ([] ++ (stM roof ps (n + 1) prev).map D.int)) _ = _
          rw [gd_t (szOk_of (by rw [List.nil_append, List.length_map]; omega))] <;> rfl
        unfold cSetIx
        rw [i2]
        show gd (Nat.blt (nearM (fun j => decide (j ∈ us)) n) ls.length) _ = _
        rw [gd_t (by rw [hl]; exact Nat.ble_eq.mpr (by omega))] <;> rfl
      have hbd : laB [.pu (lineT L), .pu (limsD ps), .pu (flrsD roof ps), .pu (.int roof), .pu (.lst (us.map nv)), s5, .ow ls, .pu (nv (n + 1)), s8, s9] = _ :=
        (seq_nx e1).trans ((seq_nx ((if_f c1).trans rfl)).trans ((seq_nx e3).trans ((seq_nx e4).trans e5)))
      obtain ⟨ih1, ih2⟩ := la_loop hv r (stM roof ps (n + 1) prev) (ls.set (nearM (fun j => decide (j ∈ us)) n) (lI_ (stM roof ps (n + 1) prev))) s5' (.pu (nv (n + 1))) (.pu (lI_ (stM roof ps (n + 1) prev))) (.pu (nv (nearM (fun j => decide (j ∈ us)) n))) h4 (by rw [List.length_set]; exact hl) (fun u q e => by
        subst e
        have e : nearM (fun j => decide (j ∈ us)) n = u := h3
        rw [e] at hj ⊢
        refine ⟨List.getElem?_set_self (by omega), fun j hj2 => ?_⟩
        rw [List.getElem?_set_ne (by omega)]
        exact q2 j (by omega)) (by omega)
      rw [List.map_cons, forL_nx rfl hbd, Bool.false_or]
      exact ⟨ih1, ih2⟩
theorem ch_asc {L : Nat} {us : List Nat} (hp : us.Pairwise (· < ·)) (hu : ∀ u ∈ us, 1 ≤ u ∧ u ≤ L) : Ch (fun j => decide (j ∈ us)) L us.reverse := by
  refine ch_of us.reverse (by rw [List.pairwise_reverse]; exact hp) (fun v h => hu v (List.mem_reverse.mp h)) (fun v h => decide_eq_true (List.mem_reverse.mp h)) fun v r hr i hi hm => ?_
  have hm : i ∈ us.reverse := List.mem_reverse.mpr (of_decide_eq_true hm)
  obtain ⟨t, ht⟩ := hr
  rw [← ht] at hm
  have hp2 : us.reverse.Pairwise (· > ·) := by rw [List.pairwise_reverse]; exact hp
  rw [← ht] at hp2
  rcases List.mem_append.mp hm with z | z
  · have := (List.pairwise_append.mp hp2).2.2 i z v List.mem_cons_self
    omega
  · rcases List.mem_cons.mp z with z | z
    · omega
    · exact z
end DL

set_option Elab.async false
set_option linter.all false
set_option maxRecDepth 100000
set_option maxHeartbeats 4000000
namespace DL
open PySem
theorem rg1_len (L : Nat) (hL : L ≤ 20) : ∀ ρ : Env, ρ[(0 : Nat)]? = some (.pu (lineT L)) → iRg1 (eOp gAdd (eCall gLen (aCons (eVar 0) aNil)) (eC (.int 1))) ρ = some (((List.range (L + 1)).map (fun i => i + 0)).map nv) := fun ρ h => by
  have e1 : eVar 0 ρ = some (lineT L) := by
    unfold eVar
    rw [h]
  have e2 : eCall gLen (aCons (eVar 0) aNil) ρ = some (.int L) := by
    rw [call1 e1]
    show some (D.int ((lineL L).length : Int)) = _
    rw [lineL_len]
  have e3 : eOp gAdd (eCall gLen (aCons (eVar 0) aNil)) (eC (.int 1)) ρ = some (.int ((L : Int) + 1)) := (op_of (b := .int 1) e2 rfl).trans rfl
  have s1 : smI ((L : Int) + 1) = true := by
    unfold smI
    rw [Bool.and_eq_true, decide_eq_true_iff, decide_eq_true_iff]
    constructor <;> omega
  unfold iRg1
  rw [e3]
  show gd (smI ((L : Int) + 1)) (some (rgD 0 ((L : Int) + 1).toNat)) = _
  have : ((L : Int) + 1).toNat = L + 1 := by omega
  rw [gd_t s1, this]
  exact congrArg some (rgD_nv (L + 1) 0)
theorem heap_new (L : Nat) (hL : L ≤ 20) {ρ : Env} {i : Nat} {t : Tg} {vs : List Nat} (h : ρ[(0 : Nat)]? = some (.pu (lineT L))) (hp : ∀ d ρ', ∃ ρ2, t.put d ρ' = some ρ2) : cNew i (fLc (iRg1 (eOp gAdd (eCall gLen (aCons (eVar 0) aNil)) (eC (.int 1)))) t vs bYes (eFz (aSz aNil))) ρ = some (.nx (ρ.set i (.ow (List.replicate (L + 1) (.lst []))))) := by
  have i2 : fLc (iRg1 (eOp gAdd (eCall gLen (aCons (eVar 0) aNil)) (eC (.int 1)))) t vs bYes (eFz (aSz aNil)) ρ = some (List.replicate (L + 1) (.lst [])) := by
    unfold fLc
    rw [rg1_len L hL ρ h]
    show gd (szOk _) (lcL _ _ _ _ _) = _
    rw [gd_t (szOk_of (by rw [List.length_map, List.length_map, List.length_range]; omega)), lc_all nv (fun _ => .lst []) _ fun a _ => by
      obtain ⟨ρ2, h2⟩ := hp (nv a) (wipeE ρ vs)
      exact ⟨ρ2, h2, rfl⟩]
    congr 1
    rw [List.map_map, List.eq_replicate_iff]
    refine ⟨by rw [List.length_map, List.length_range], fun b hb => ?_⟩
    obtain ⟨_, _, rfl⟩ := List.mem_map.mp hb
    rfl
  unfold cNew
  rw [i2]
theorem labove_ok {L : Nat} {roof : Int} {ps : List (Int × Int)} (hv : Val L roof ps) {us : List Nat} (hp : us.Pairwise (· < ·)) (hu : ∀ u ∈ us, 1 ≤ u ∧ u ≤ L) (hl : us.length ≤ 40) : F__law_above [lineT L, limsD ps, flrsD roof ps, .int roof, .lst (us.map nv)] = some (.bl (aboveM roof ps us)) := by
  have hL := hv.l
  have ch := ch_asc hp hu
  obtain ⟨l1, l2⟩ := la_loop (us := us) hv us.reverse [] (List.replicate (L + 1) (.lst [])) .no .no .no .no ch (by rw [List.length_replicate]) (fun v r e => by
    have : v ≤ L := (hu v (List.mem_reverse.mp (by rw [e]; exact List.mem_cons_self))).2
    exact ⟨by rw [List.getElem?_replicate_of_lt (by omega)] <;> rfl, fun j hj => by rw [List.getElem?_replicate_of_lt (by omega)]⟩) (by rw [List.length_reverse]; simp; omega)
  refine fn_rt rfl ?_
  show g__law_above [.pu (lineT L), .pu (limsD ps), .pu (flrsD roof ps), .pu (.int roof), .pu (.lst (us.map nv)), .no, .no, .no, .no, .no] = _
  have e0 := heap_new L hL (ρ := [.pu (lineT L), .pu (limsD ps), .pu (flrsD roof ps), .pu (.int roof), .pu (.lst (us.map nv)), .no, .no, .no, .no, .no]) (i := 6) (t := .one 5) (vs := List.map (·.2) ([("_law_k", 5)] : List (PySem.Str × Nat))) rfl (fun d ρ' => ⟨_, rfl⟩)
  have src : iRevD (eVar 4) [.pu (lineT L), .pu (limsD ps), .pu (flrsD roof ps), .pu (.int roof), .pu (.lst (us.map nv)), .no, .ow (List.replicate (L + 1) (.lst [])), .no, .no, .no] = some (us.reverse.map nv) := by
    show some (us.map nv).reverse = _
    rw [List.map_reverse]
  unfold g__law_above
  refine (seq_nx e0).trans ?_
  cases hb : aboveM roof ps us with
  | true =>
    have lp := l1 hb
    refine seq_rt ?_
    unfold cFor
    refine Eq.trans ?_ lp
    show (match iRevD (eVar 4) [.pu (lineT L), .pu (limsD ps), .pu (flrsD roof ps), .pu (.int roof), .pu (.lst (us.map nv)), .no, .ow (List.replicate (L + 1) (.lst [])), .no, .no, .no] with
      | some ds => forL (.one 7) laB ds [.pu (lineT L), .pu (limsD ps), .pu (flrsD roof ps), .pu (.int roof), .pu (.lst (us.map nv)), .no, .ow (List.replicate (L + 1) (.lst [])), .no, .no, .no]
      | none => none) = _
    rw [src]
  | false =>
    obtain ⟨ρ', lp⟩ := l2 hb
    refine (seq_nx (ρ' := ρ') ?_).trans rfl
    unfold cFor
    refine Eq.trans ?_ lp
    show (match iRevD (eVar 4) [.pu (lineT L), .pu (limsD ps), .pu (flrsD roof ps), .pu (.int roof), .pu (.lst (us.map nv)), .no, .ow (List.replicate (L + 1) (.lst [])), .no, .no, .no] with
      | some ds => forL (.one 7) laB ds [.pu (lineT L), .pu (limsD ps), .pu (flrsD roof ps), .pu (.int roof), .pu (.lst (us.map nv)), .no, .ow (List.replicate (L + 1) (.lst [])), .no, .no, .no]
      | none => none) = _
    rw [src]
end DL

set_option Elab.async false
set_option linter.all false
set_option maxRecDepth 100000
set_option maxHeartbeats 4000000
namespace DL
open PySem
/-! ### the plain law: the struck ones -/
def strikeM (ab : List Nat → Bool) : List Nat → List Nat → List Nat
  | [], kept => kept
  | v :: r, kept => match ab (kept.filter fun u => !decide (u = v)) with
    | true => strikeM ab r (kept.filter fun u => !decide (u = v))
    | false => strikeM ab r kept
theorem ne_nv (u v : Nat) : gNe (nv u) (nv v) = some (.bl (!decide (u = v))) := by
  show some (D.bl (!decide (Int.ofNat u = Int.ofNat v))) = _
  by_cases z : u = v
  · rw [z, decide_eq_true rfl, decide_eq_true rfl]
  · rw [decide_eq_false z, decide_eq_false (fun h => z (Int.ofNat.inj h))]
abbrev wiB : Env → Option Out := (cSeq (cSet 4 (eCall gTupl (aCons (eFz (fLc (iTupD (eVar 2)) (.one 5) (List.map (·.2) ([("other", 5)] : List (PySem.Str × Nat))) (bOf (eOp gNe (eVar 5) (eVar 3))) (eVar 5))) aNil))) (cIf (bOf (eCall F_goes_above (aCons (eVar 0) (aCons (eVar 1) (aCons (eVar 4) aNil))))) (cSet 2 (eVar 4)) cNext))
theorem wi_loop {L : Nat} {roof : Int} {ps : List (Int × Int)} (hv : Val L roof ps) : ∀ (vs kept : List Nat) (s3 s4 : Sl), kept.Pairwise (· < ·) → (∀ u ∈ kept, 1 ≤ u ∧ u ≤ L) → kept.length ≤ 40 → ∃ s3' s4', forL (.one 3) wiB (vs.map nv) [.pu (lineT L), .pu (bd roof ps), .pu (.tup (kept.map nv)), s3, s4, .no] =
    some (.nx [.pu (lineT L), .pu (bd roof ps), .pu (.tup ((strikeM (aboveM roof ps) vs kept).map nv)), s3', s4', .no])
  | [], kept, s3, s4, _, _, _ => ⟨s3, s4, rfl⟩
  | v :: r, kept, s3, s4, hp, hu, hl => by
    have p2 : (kept.filter fun u => !decide (u = v)).Pairwise (· < ·) := hp.sublist List.filter_sublist
    have u2 : ∀ u ∈ kept.filter fun u => !decide (u = v), 1 ≤ u ∧ u ≤ L := fun u h => hu u (List.mem_filter.mp h).1
    have l2 : (kept.filter fun u => !decide (u = v)).length ≤ 40 := Nat.le_trans (List.length_filter_le _ _) hl
    have ga := ga_ok hv p2 u2 l2
    have e1 : fLc (iTupD (eVar 2)) (.one 5) (List.map (·.2) ([("other", 5)] : List (PySem.Str × Nat))) (bOf (eOp gNe (eVar 5) (eVar 3))) (eVar 5) [.pu (lineT L), .pu (bd roof ps), .pu (.tup (kept.map nv)), .pu (nv v), s4, .no] = some ((kept.filter fun u => !decide (u = v)).map nv) := by
      show gd (szOk (kept.map nv)) (lcL (.one 5) _ _ (wipeE _ [5]) (kept.map nv)) = _
      rw [gd_t (szOk_of (by rw [List.length_map]; omega))]
      exact lc_map nv (fun u => !decide (u = v)) nv kept fun a _ => ⟨_, rfl, bof_of ((op_of (a := nv a) (b := nv v) rfl rfl).trans (ne_nv a v)), fun _ => rfl⟩
    have e2 : cSet 4 (eCall gTupl (aCons (eFz (fLc (iTupD (eVar 2)) (.one 5) (List.map (·.2) ([("other", 5)] : List (PySem.Str × Nat))) (bOf (eOp gNe (eVar 5) (eVar 3))) (eVar 5))) aNil)) [.pu (lineT L), .pu (bd roof ps), .pu (.tup (kept.map nv)), .pu (nv v), s4, .no] = some (.nx [.pu (lineT L), .pu (bd roof ps), .pu (.tup (kept.map nv)), .pu (nv v), .pu (.tup ((kept.filter fun u => !decide (u = v)).map nv)), .no]) :=
      set_of (i := 4) ((call1 (fz_of e1)).trans rfl)
    have c1 : bOf (eCall F_goes_above (aCons (eVar 0) (aCons (eVar 1) (aCons (eVar 4) aNil)))) [.pu (lineT L), .pu (bd roof ps), .pu (.tup (kept.map nv)), .pu (nv v), .pu (.tup ((kept.filter fun u => !decide (u = v)).map nv)), .no] = some (aboveM roof ps (kept.filter fun u => !decide (u = v))) :=
      bof_of ((call3 (a := lineT L) (b := bd roof ps) (c := .tup ((kept.filter fun u => !decide (u = v)).map nv)) rfl rfl rfl).trans ga)
    cases hb : aboveM roof ps (kept.filter fun u => !decide (u = v)) with
    | true =>
      rw [hb] at c1
      obtain ⟨s3', s4', ih⟩ := wi_loop hv r (kept.filter fun u => !decide (u = v)) (.pu (nv v)) (.pu (.tup ((kept.filter fun u => !decide (u = v)).map nv))) p2 u2 l2
      have hs : strikeM (aboveM roof ps) (v :: r) kept = strikeM (aboveM roof ps) r (kept.filter fun u => !decide (u = v)) := by
        rw [strikeM, hb]
      rw [hs]
      exact ⟨s3', s4', (forL_nx rfl ((seq_nx e2).trans ((if_t c1).trans rfl))).trans ih⟩
    | false =>
      rw [hb] at c1
      obtain ⟨s3', s4', ih⟩ := wi_loop hv r kept (.pu (nv v)) (.pu (.tup ((kept.filter fun u => !decide (u = v)).map nv))) hp hu hl
      have hs : strikeM (aboveM roof ps) (v :: r) kept = strikeM (aboveM roof ps) r kept := by
        rw [strikeM, hb]
      rw [hs]
      exact ⟨s3', s4', (forL_nx rfl ((seq_nx e2).trans ((if_f c1).trans rfl))).trans ih⟩
theorem wall_ok {L : Nat} {roof : Int} {ps : List (Int × Int)} (hv : Val L roof ps) (ha : aboveM roof ps (verL L) = true) : F_wall_in [lineT L, bd roof ps] = some (.tup ((strikeM (aboveM roof ps) (descL L) (verL L)).map nv)) := by
  have hL := hv.l
  have nb := need_ok hv
  have al := all_ok hv.l
  have ga := ga_ok hv (verL_pw L) (fun u h => verL_mem h) (by rw [verL_len]; omega)
  obtain ⟨s3', s4', lp⟩ := wi_loop hv (descL L) (verL L) .no .no (verL_pw L) (fun u h => verL_mem h) (by rw [verL_len]; omega)
  refine fn_rt rfl ?_
  show g_wall_in [.pu (lineT L), .pu (bd roof ps), .no, .no, .no, .no] = _
  have e0 : cExpr (eCall F_need_bounds (aCons (eVar 0) (aCons (eVar 1) aNil))) [.pu (lineT L), .pu (bd roof ps), .no, .no, .no, .no] = some (.nx [.pu (lineT L), .pu (bd roof ps), .no, .no, .no, .no]) := by
    have : eCall F_need_bounds (aCons (eVar 0) (aCons (eVar 1) aNil)) [.pu (lineT L), .pu (bd roof ps), .no, .no, .no, .no] = some .non := nb
    unfold cExpr
    rw [this]
  have e1 : cSet 2 (eCall F_all_versions (aCons (eVar 0) aNil)) [.pu (lineT L), .pu (bd roof ps), .no, .no, .no, .no] = some (.nx [.pu (lineT L), .pu (bd roof ps), .pu (.tup ((verL L).map nv)), .no, .no, .no]) := set_of (i := 2) ((call1 rfl).trans al)
  have c1 : bNot (bOf (eCall F_goes_above (aCons (eVar 0) (aCons (eVar 1) (aCons (eVar 2) aNil))))) [.pu (lineT L), .pu (bd roof ps), .pu (.tup ((verL L).map nv)), .no, .no, .no] = some false := by
    rw [ha] at ga
    exact bnot_of (bof_of ((call3 (a := lineT L) (b := bd roof ps) (c := .tup ((verL L).map nv)) rfl rfl rfl).trans ga))
  have e2 : cFor (iTupD (eUn gRevT (eVar 2))) (.one 3) wiB [.pu (lineT L), .pu (bd roof ps), .pu (.tup ((verL L).map nv)), .no, .no, .no] = some (.nx [.pu (lineT L), .pu (bd roof ps), .pu (.tup ((strikeM (aboveM roof ps) (descL L) (verL L)).map nv)), s3', s4', .no]) := by
    have src : iTupD (eUn gRevT (eVar 2)) [.pu (lineT L), .pu (bd roof ps), .pu (.tup ((verL L).map nv)), .no, .no, .no] = some ((descL L).map nv) := by
      show some ((verL L).map nv).reverse = _
      rw [← List.map_reverse, descL_eq]
    unfold cFor
    rw [src]
    exact lp
  exact (seq_nx e0).trans ((seq_nx e1).trans ((seq_nx ((if_f c1).trans rfl)).trans ((seq_nx e2).trans rfl)))
end DL

set_option Elab.async false
set_option linter.all false
set_option maxRecDepth 100000
set_option maxHeartbeats 4000000
namespace DL
open PySem
abbrev skB : Env → Option Out := (cSeq (cSet 6 (eFz (fLc (iLstD (eVar 5)) (.one 7) (List.map (·.2) ([("_law_x", 7)] : List (PySem.Str × Nat))) (bOf (eOp gNe (eVar 7) (eVar 4))) (eVar 7)))) (cIf (bOf (eCall F__law_above (aCons (eVar 0) (aCons (eVar 1) (aCons (eVar 2) (aCons (eVar 3) (aCons (eVar 6) aNil))))))) (cSet 5 (eVar 6)) cNext))
theorem call5 {F : List D → Option D} {fa fb fc fd fe : Env → Option D} {ρ : Env} {a b c d e : D} (h : fa ρ = some a) (h2 : fb ρ = some b) (h3 : fc ρ = some c) (h4 : fd ρ = some d) (h5 : fe ρ = some e) : eCall F (aCons fa (aCons fb (aCons fc (aCons fd (aCons fe aNil))))) ρ = F [a, b, c, d, e] := by
  simp only [eCall, aCons, aNil, h, h2, h3, h4, h5]
theorem sk_loop {L : Nat} {roof : Int} {ps : List (Int × Int)} (hv : Val L roof ps) : ∀ (vs kept : List Nat) (s4 s6 : Sl), kept.Pairwise (· < ·) → (∀ u ∈ kept, 1 ≤ u ∧ u ≤ L) → kept.length ≤ 40 → ∃ s4' s6', forL (.one 4) skB (vs.map nv) [.pu (lineT L), .pu (limsD ps), .pu (flrsD roof ps), .pu (.int roof), s4, .pu (.lst (kept.map nv)), s6, .no] =
    some (.nx [.pu (lineT L), .pu (limsD ps), .pu (flrsD roof ps), .pu (.int roof), s4', .pu (.lst ((strikeM (aboveM roof ps) vs kept).map nv)), s6', .no])
  | [], kept, s4, s6, _, _, _ => ⟨s4, s6, rfl⟩
  | v :: r, kept, s4, s6, hp, hu, hl => by
    have p2 : (kept.filter fun u => !decide (u = v)).Pairwise (· < ·) := hp.sublist List.filter_sublist
    have u2 : ∀ u ∈ kept.filter fun u => !decide (u = v), 1 ≤ u ∧ u ≤ L := fun u h => hu u (List.mem_filter.mp h).1
    have l2 : (kept.filter fun u => !decide (u = v)).length ≤ 40 := Nat.le_trans (List.length_filter_le _ _) hl
    have ga := labove_ok hv p2 u2 l2
    have e1 : fLc (iLstD (eVar 5)) (.one 7) (List.map (·.2) ([("_law_x", 7)] : List (PySem.Str × Nat))) (bOf (eOp gNe (eVar 7) (eVar 4))) (eVar 7) [.pu (lineT L), .pu (limsD ps), .pu (flrsD roof ps), .pu (.int roof), .pu (nv v), .pu (.lst (kept.map nv)), s6, .no] = some ((kept.filter fun u => !decide (u = v)).map nv) := by
      show gd (szOk (kept.map nv)) (lcL (.one 7) _ _ (wipeE _ [7]) (kept.map nv)) = _
      rw [gd_t (szOk_of (by rw [List.length_map]; omega))]
      exact lc_map nv (fun u => !decide (u = v)) nv kept fun a _ => ⟨_, rfl, bof_of ((op_of (a := nv a) (b := nv v) rfl rfl).trans (ne_nv a v)), fun _ => rfl⟩
    have e2 : cSet 6 (eFz (fLc (iLstD (eVar 5)) (.one 7) (List.map (·.2) ([("_law_x", 7)] : List (PySem.Str × Nat))) (bOf (eOp gNe (eVar 7) (eVar 4))) (eVar 7))) [.pu (lineT L), .pu (limsD ps), .pu (flrsD roof ps), .pu (.int roof), .pu (nv v), .pu (.lst (kept.map nv)), s6, .no] = some (.nx [.pu (lineT L), .pu (limsD ps), .pu (flrsD roof ps), .pu (.int roof), .pu (nv v), .pu (.lst (kept.map nv)), .pu (.lst ((kept.filter fun u => !decide (u = v)).map nv)), .no]) :=
      set_of (i := 6) (fz_of e1)
    have c1 : bOf (eCall F__law_above (aCons (eVar 0) (aCons (eVar 1) (aCons (eVar 2) (aCons (eVar 3) (aCons (eVar 6) aNil)))))) [.pu (lineT L), .pu (limsD ps), .pu (flrsD roof ps), .pu (.int roof), .pu (nv v), .pu (.lst (kept.map nv)), .pu (.lst ((kept.filter fun u => !decide (u = v)).map nv)), .no] = some (aboveM roof ps (kept.filter fun u => !decide (u = v))) :=
      bof_of ((call5 (a := lineT L) (b := limsD ps) (c := flrsD roof ps) (d := .int roof) (e := .lst ((kept.filter fun u => !decide (u = v)).map nv)) rfl rfl rfl rfl rfl).trans ga)
    cases hb : aboveM roof ps (kept.filter fun u => !decide (u = v)) with
    | true =>
      rw [hb] at c1
      obtain ⟨s4', s6', ih⟩ := sk_loop hv r (kept.filter fun u => !decide (u = v)) (.pu (nv v)) (.pu (.lst ((kept.filter fun u => !decide (u = v)).map nv))) p2 u2 l2
      have hs : strikeM (aboveM roof ps) (v :: r) kept = strikeM (aboveM roof ps) r (kept.filter fun u => !decide (u = v)) := by
        rw [strikeM, hb]
      rw [hs]
      exact ⟨s4', s6', (forL_nx rfl ((seq_nx e2).trans ((if_t c1).trans rfl))).trans ih⟩
    | false =>
      rw [hb] at c1
      obtain ⟨s4', s6', ih⟩ := sk_loop hv r kept (.pu (nv v)) (.pu (.lst ((kept.filter fun u => !decide (u = v)).map nv))) hp hu hl
      have hs : strikeM (aboveM roof ps) (v :: r) kept = strikeM (aboveM roof ps) r kept := by
        rw [strikeM, hb]
      rw [hs]
      exact ⟨s4', s6', (forL_nx rfl ((seq_nx e2).trans ((if_f c1).trans rfl))).trans ih⟩
end DL

set_option Elab.async false
set_option linter.all false
set_option maxRecDepth 100000
set_option maxHeartbeats 4000000
namespace DL
open PySem
theorem struck_ok {L : Nat} {roof : Int} {ps : List (Int × Int)} (hv : Val L roof ps) : F__law_struck [lineT L, limsD ps, flrsD roof ps, .int roof] = some (.tup ((strikeM (aboveM roof ps) (descL L) (verL L)).map nv)) := by
  have hL := hv.l
  obtain ⟨s4', s6', lp⟩ := sk_loop hv (descL L) (verL L) .no .no (verL_pw L) (fun u h => verL_mem h) (by rw [verL_len]; omega)
  refine fn_rt rfl ?_
  show g__law_struck [.pu (lineT L), .pu (limsD ps), .pu (flrsD roof ps), .pu (.int roof), .no, .no, .no, .no] = _
  have e0 : cSet 5 (eFz (fLc (iRg1 (eCall gLen (aCons (eVar 0) aNil))) (.one 4) (List.map (·.2) ([("_law_v", 4)] : List (PySem.Str × Nat))) bYes (eOp gAdd (eVar 4) (eC (.int 1))))) [.pu (lineT L), .pu (limsD ps), .pu (flrsD roof ps), .pu (.int roof), .no, .no, .no, .no] = some (.nx [.pu (lineT L), .pu (limsD ps), .pu (flrsD roof ps), .pu (.int roof), .no, .pu (.lst ((verL L).map nv)), .no, .no]) := by
    refine set_of (i := 5) (fz_of ?_)
    unfold fLc
    rw [rg_len L hL _ rfl]
    show gd (szOk _) (lcL _ _ _ _ _) = _
    rw [gd_t (szOk_of (by rw [List.length_map, List.length_map, List.length_range]; omega)), lc_all nv (fun a => nv (a + 1)) _ fun a _ => ⟨_, rfl, rfl⟩]
    congr 1
    unfold verL
    rw [List.map_map, List.map_map] <;> rfl
  have e1 : cFor (iRg3 (eCall gLen (aCons (eVar 0) aNil)) (eC (.int 0))) (.one 4) skB [.pu (lineT L), .pu (limsD ps), .pu (flrsD roof ps), .pu (.int roof), .no, .pu (.lst ((verL L).map nv)), .no, .no] = some (.nx [.pu (lineT L), .pu (limsD ps), .pu (flrsD roof ps), .pu (.int roof), s4', .pu (.lst ((strikeM (aboveM roof ps) (descL L) (verL L)).map nv)), s6', .no]) := by
    have i1 : iRg3 (eCall gLen (aCons (eVar 0) aNil)) (eC (.int 0)) [.pu (lineT L), .pu (limsD ps), .pu (flrsD roof ps), .pu (.int roof), .no, .pu (.lst ((verL L).map nv)), .no, .no] = some ((descL L).map nv) := by
      show gd (smI ((lineL L).length : Int) && smI 0) (some (rdD ((lineL L).length : Int) (((lineL L).length : Int) - 0).toNat)) = _
      rw [lineL_len]
      have s1 : smI (L : Int) = true := by
        unfold smI
        rw [Bool.and_eq_true, decide_eq_true_iff, decide_eq_true_iff]
        constructor <;> omega
      have s2 : ((L : Int) - 0).toNat = L := by omega
      rw [gd_t (by rw [s1] <;> rfl), s2]
      exact congrArg some (rdD_nv L)
    unfold cFor
    rw [i1]
    exact lp
  exact (seq_nx e0).trans ((seq_nx e1).trans rfl)
end DL

set_option Elab.async false
set_option linter.all false
set_option maxRecDepth 100000
set_option maxHeartbeats 4000000
namespace DL
open PySem
/-! ### the plain law: one_bound -/
theorem ver_ok {L v : Nat} (h1 : 1 ≤ v) (h2 : v ≤ L) : F_need_version [lineT L, nv v] = some .non := by
  have u : F_up_to [nv v, .int L] = some (.bl true) := up_ok (a := Int.ofNat v) (by
    show (1 : Int) ≤ ((v : Nat) : Int)
    omega) (by
    show ((v : Nat) : Int) ≤ (L : Int)
    omega)
  have e2 : eCall gLen (aCons (eVar 0) aNil) [.pu (lineT L), .pu (nv v)] = some (.int L) := by
    show some (D.int ((lineL L).length : Int)) = _
    rw [lineL_len]
  have c1 : bNot (bOf (eCall F_up_to (aCons (eVar 1) (aCons (eCall gLen (aCons (eVar 0) aNil)) aNil)))) [.pu (lineT L), .pu (nv v)] = some false := bnot_of (bof_of ((call2 (a := nv v) rfl e2).trans u))
  have key : g_need_version [.pu (lineT L), .pu (nv v)] = some (.nx [.pu (lineT L), .pu (nv v)]) := (if_f c1).trans rfl
  show gd true (match g_need_version [.pu (lineT L), .pu (nv v)] with
      | some (.rt d) => some d
      | some (.nx _) => some .non
      | _ => none) = _
  rw [key] <;> rfl
theorem cut_to {l : List D} {n : Nat} (h : n ≤ l.length) : cutD l none (some ((n : Nat) : Int)) = l.take n := by
  unfold cutD
  rw [HT.sIx_nat, HT.sIx_none, List.drop_zero, Nat.sub_zero, Nat.min_eq_left h]
theorem cut_from {l : List D} {n : Nat} (h : n ≤ l.length) : cutD l (some ((n : Nat) : Int)) none = l.drop n := by
  unfold cutD
  rw [HT.sIx_nat, HT.sIx_none, Nat.min_eq_left h]
  exact List.take_of_length_le (by rw [List.length_drop]; omega)
theorem set_cut {α : Type} : ∀ (l : List α) (n : Nat) (x : α), n < l.length → l.take n ++ [x] ++ l.drop (n + 1) = l.set n x
  | [], _, _, h => by cases h
  | a :: l, 0, x, _ => rfl
  | a :: l, n + 1, x, h => by
    show a :: (l.take n ++ [x] ++ l.drop (n + 1)) = a :: l.set n x
    rw [set_cut l n x (Nat.lt_of_succ_lt_succ h)]
end DL

set_option Elab.async false
set_option linter.all false
set_option maxRecDepth 100000
set_option maxHeartbeats 4000000
namespace DL
open PySem
theorem one_ok {L v : Nat} {roof w r : Int} {ps : List (Int × Int)} (hv : Val L roof ps) (h1 : 1 ≤ v) (h2 : v ≤ L) (w1 : 1 ≤ w) (w2 : w ≤ 999) (r1 : 1 ≤ r) (r2 : r ≤ roof) : F_one_bound [lineT L, bd roof ps, nv v, .int w, .int r] = some (bd roof (ps.set (v - 1) (w, r))) := by
  have nb := need_ok hv
  have nver := ver_ok h1 h2
  have uw := up_ok w1 w2
  have ur := up_ok r1 r2
  obtain ⟨n, rfl⟩ : ∃ n, v = n + 1 := ⟨v - 1, by omega⟩
  have hL := hv.l
  have hn : n < (prs ps).length := by rw [prs_len, hv.len]; omega
  refine fn_rt rfl ?_
  show g_one_bound [.pu (lineT L), .pu (bd roof ps), .pu (nv (n + 1)), .pu (.int w), .pu (.int r), .no, .no] = _
  have e0 : cExpr (eCall F_need_bounds (aCons (eVar 0) (aCons (eVar 1) aNil))) [.pu (lineT L), .pu (bd roof ps), .pu (nv (n + 1)), .pu (.int w), .pu (.int r), .no, .no] = some (.nx [.pu (lineT L), .pu (bd roof ps), .pu (nv (n + 1)), .pu (.int w), .pu (.int r), .no, .no]) := by
    have : eCall F_need_bounds (aCons (eVar 0) (aCons (eVar 1) aNil)) [.pu (lineT L), .pu (bd roof ps), .pu (nv (n + 1)), .pu (.int w), .pu (.int r), .no, .no] = some .non := nb
    unfold cExpr
    rw [this]
  have e1 : cExpr (eCall F_need_version (aCons (eVar 0) (aCons (eVar 2) aNil))) [.pu (lineT L), .pu (bd roof ps), .pu (nv (n + 1)), .pu (.int w), .pu (.int r), .no, .no] = some (.nx [.pu (lineT L), .pu (bd roof ps), .pu (nv (n + 1)), .pu (.int w), .pu (.int r), .no, .no]) := by
    have : eCall F_need_version (aCons (eVar 0) (aCons (eVar 2) aNil)) [.pu (lineT L), .pu (bd roof ps), .pu (nv (n + 1)), .pu (.int w), .pu (.int r), .no, .no] = some .non := nver
    unfold cExpr
    rw [this]
  have e2 : cUnp 5 6 (eVar 1) [.pu (lineT L), .pu (bd roof ps), .pu (nv (n + 1)), .pu (.int w), .pu (.int r), .no, .no] = some (.nx [.pu (lineT L), .pu (bd roof ps), .pu (nv (n + 1)), .pu (.int w), .pu (.int r), .pu (.int roof), .pu (.tup (prs ps))]) := rfl
  have c1 : bNot (bOf (eCall F_up_to (aCons (eVar 3) (aCons (eC (.int 999)) aNil)))) [.pu (lineT L), .pu (bd roof ps), .pu (nv (n + 1)), .pu (.int w), .pu (.int r), .pu (.int roof), .pu (.tup (prs ps))] = some false := bnot_of (bof_of ((call2 (a := .int w) (b := .int 999) rfl rfl).trans uw))
  have c2 : bNot (bOf (eCall F_up_to (aCons (eVar 4) (aCons (eVar 5) aNil)))) [.pu (lineT L), .pu (bd roof ps), .pu (nv (n + 1)), .pu (.int w), .pu (.int r), .pu (.int roof), .pu (.tup (prs ps))] = some false := bnot_of (bof_of ((call2 (a := .int r) (b := .int roof) rfl rfl).trans ur))
  have s1 : eSl (eVar 6) oNo (oYes (eOp gSub (eVar 2) (eC (.int 1)))) [.pu (lineT L), .pu (bd roof ps), .pu (nv (n + 1)), .pu (.int w), .pu (.int r), .pu (.int roof), .pu (.tup (prs ps))] = some (.tup ((prs ps).take n)) := by
    show some (D.tup (cutD (prs ps) none (some (Int.ofNat (n + 1) - 1)))) = _
    rw [sub1]
    exact congrArg (fun l => some (D.tup l)) (cut_to (by omega))
  have s2 : eSl (eVar 6) (oYes (eVar 2)) oNo [.pu (lineT L), .pu (bd roof ps), .pu (nv (n + 1)), .pu (.int w), .pu (.int r), .pu (.int roof), .pu (.tup (prs ps))] = some (.tup ((prs ps).drop (n + 1))) :=
    congrArg (fun l => some (D.tup l)) (cut_from (l := prs ps) (n := n + 1) (by omega))
  have pl : (prs ps).length ≤ 20 := by rw [prs_len, hv.len]; exact hL
  have a1 : gAdd (.tup ((prs ps).take n)) (.tup [.tup [.int w, .int r]]) = some (.tup ((prs ps).take n ++ [.tup [.int w, .int r]])) := by
    show gd (szOk _) _ = _
    rw [gd_t (szOk_of (by rw [List.length_append, List.length_take, List.length_singleton]; omega))]
  have a2 : gAdd (.tup ((prs ps).take n ++ [.tup [.int w, .int r]])) (.tup ((prs ps).drop (n + 1))) = some (.tup ((prs ps).set n (.tup [.int w, .int r]))) := by
    show gd (szOk _) _ = _
    rw [gd_t (szOk_of (by rw [List.length_append, List.length_append, List.length_take, List.length_drop, List.length_singleton]; omega)), set_cut _ _ _ hn]
  have hps : (prs ps).set n (.tup [.int w, .int r]) = prs (ps.set n (w, r)) := by
    unfold prs
    rw [List.map_set]
  refine (seq_nx e0).trans ((seq_nx e1).trans ((seq_nx e2).trans ((seq_nx ((if_f c1).trans rfl)).trans ((seq_nx ((if_f c2).trans rfl)).trans ?_))))
  have t1 : eOp gAdd (eOp gAdd (eSl (eVar 6) oNo (oYes (eOp gSub (eVar 2) (eC (.int 1))))) (eTup (aSz (aCons (eTup (aSz (aCons (eVar 3) (aCons (eVar 4) aNil)))) aNil)))) (eSl (eVar 6) (oYes (eVar 2)) oNo) [.pu (lineT L), .pu (bd roof ps), .pu (nv (n + 1)), .pu (.int w), .pu (.int r), .pu (.int roof), .pu (.tup (prs ps))] = some (.tup ((prs ps).set n (.tup [.int w, .int r]))) := (op_of (g := gAdd) ((op_of (g := gAdd) s1 (b := .tup [.tup [.int w, .int r]]) rfl).trans a1) s2).trans a2
  refine ret_of ?_
  have : aCons (eVar 5) (aCons (eOp gAdd (eOp gAdd (eSl (eVar 6) oNo (oYes (eOp gSub (eVar 2) (eC (.int 1))))) (eTup (aSz (aCons (eTup (aSz (aCons (eVar 3) (aCons (eVar 4) aNil)))) aNil)))) (eSl (eVar 6) (oYes (eVar 2)) oNo)) aNil) [.pu (lineT L), .pu (bd roof ps), .pu (nv (n + 1)), .pu (.int w), .pu (.int r), .pu (.int roof), .pu (.tup (prs ps))] = some [.int roof, .tup ((prs ps).set n (.tup [.int w, .int r]))] := by
    simp only [aCons, t1] <;> rfl
  rw [hps] at this
  exact (congrArg (fun o : Option (List D) => match (match o with | some l => gd (szOk l) (some l) | none => none) with | some l => some (D.tup l) | none => none) this).trans rfl
end DL

set_option Elab.async false
set_option linter.all false
set_option maxRecDepth 100000
set_option maxHeartbeats 4000000
namespace DL
open PySem
/-! ### the plain law: is_enough -/
theorem val_set {L v : Nat} {roof w r : Int} {ps : List (Int × Int)} (hv : Val L roof ps) (w1 : 1 ≤ w) (w2 : w ≤ 999) (r1 : 1 ≤ r) (r2 : r ≤ roof) : Val L roof (ps.set v (w, r)) :=
  ⟨hv.l, hv.r1, hv.r2, by rw [List.length_set]; exact hv.len, fun q hq => by
    rcases List.mem_or_eq_of_mem_set hq with z | z
    · exact hv.q q z
    · rw [z]; exact ⟨w1, w2, r1, r2⟩⟩
theorem enR_ok {L v : Nat} {roof w r : Int} {ps : List (Int × Int)} (hv : Val L roof ps) (h1 : 1 ≤ v) (h2 : v ≤ L) (w1 : 1 ≤ w) (w2 : w ≤ 999) (r1 : 1 ≤ r) (r2 : r ≤ roof) : F_enR [.int r, lineT L, bd roof ps, nv v, .int w] = some (.bl (!aboveM roof (ps.set (v - 1) (w, r)) (verL L))) := by
  have ob := one_ok hv h1 h2 w1 w2 r1 r2
  have ck := ck_ok (val_set (v := v - 1) hv w1 w2 r1 r2)
  refine fn_rt rfl ?_
  exact ret_of ((call2 (a := lineT L) rfl ((call5 (a := lineT L) (b := bd roof ps) (c := nv v) (d := .int w) (e := .int r) rfl rfl rfl rfl rfl).trans ob)).trans ck)
theorem enW_ok {L v : Nat} {roof w r : Int} {ps : List (Int × Int)} (hv : Val L roof ps) (h1 : 1 ≤ v) (h2 : v ≤ L) (w1 : 1 ≤ w) (w2 : w ≤ 999) (r1 : 1 ≤ r) (r2 : r ≤ roof) : F_enW [.int w, lineT L, bd roof ps, nv v, .int r] = some (.bl (!aboveM roof (ps.set (v - 1) (w, r)) (verL L))) := by
  have ob := one_ok hv h1 h2 w1 w2 r1 r2
  have ck := ck_ok (val_set (v := v - 1) hv w1 w2 r1 r2)
  refine fn_rt rfl ?_
  exact ret_of ((call2 (a := lineT L) rfl ((call5 (a := lineT L) (b := bd roof ps) (c := nv v) (d := .int w) (e := .int r) rfl rfl rfl rfl rfl).trans ob)).trans ck)
end DL

set_option Elab.async false
set_option linter.all false
set_option maxRecDepth 100000
set_option maxHeartbeats 4000000
namespace DL
open PySem
/-! ### the plain law: _law_same -/
theorem same_int (n : Nat) (a b : Int) : F__law_same_ (n + 1) [.int a, .int b] = some (.bl (decide (a = b))) := rfl
theorem same_bl (n : Nat) (a b : Bool) : F__law_same_ (n + 1) [.bl a, .bl b] = some (.bl (a == b)) := rfl
theorem same_ii (n : Nat) (a : Int) : F__law_same_ (n + 1) [.int a, .int a] = some (.bl true) := by
  rw [same_int, decide_eq_true rfl]
abbrev smB (F : List D → Option D) : Env → Option Out := cIf (bNot (bOf (eCall F (aCons (eOp gIx (eVar 0) (eVar 2)) (aCons (eOp gIx (eVar 1) (eVar 2)) aNil))))) (cRet (eC (.bl false))) cNext
theorem same_loop {F : List D → Option D} {l : List D} (h : ∀ d ∈ l, F [d, d] = some (.bl true)) : ∀ (ks : List Nat) (s : Sl), (∀ k ∈ ks, k < l.length) → ∃ s', forL (.one 2) (smB F) (ks.map nv) [.pu (.tup l), .pu (.tup l), s] = some (.nx [.pu (.tup l), .pu (.tup l), s'])
  | [], s, _ => ⟨s, rfl⟩
  | k :: ks, s, hk => by
    obtain ⟨s', ih⟩ := same_loop h ks (.pu (nv k)) fun x hx => hk x (List.mem_cons_of_mem _ hx)
    have hlt := hk k List.mem_cons_self
    have e0 : eOp gIx (eVar 0) (eVar 2) [.pu (.tup l), .pu (.tup l), .pu (nv k)] = some l[k] := List.getElem?_eq_getElem hlt
    have e1 : eOp gIx (eVar 1) (eVar 2) [.pu (.tup l), .pu (.tup l), .pu (nv k)] = some l[k] := List.getElem?_eq_getElem hlt
    have c1 := bnot_of (bof_of ((call2 e0 e1).trans (h _ (List.getElem_mem hlt))))
    exact ⟨s', (forL_nx (t := .one 2) (body := smB F) (d := nv k) (ρ1 := [.pu (.tup l), .pu (.tup l), .pu (nv k)]) rfl ((if_f c1).trans rfl)).trans ih⟩
theorem sm_nat {n : Nat} (h : n ≤ 4000) : smI (n : Int) = true := by
  unfold smI
  rw [Bool.and_eq_true, decide_eq_true_iff, decide_eq_true_iff]
  constructor <;> omega
theorem same_tup {n : Nat} {l : List D} (h : ∀ d ∈ l, F__law_same_ n [d, d] = some (.bl true)) (hl : l.length ≤ 4000) : F__law_same_ (n + 1) [.tup l, .tup l] = some (.bl true) := by
  obtain ⟨s', lp⟩ := same_loop h ((List.range l.length).map fun i => i + 0) .no fun k hk => by
    obtain ⟨i, hi, rfl⟩ := List.mem_map.mp hk
    exact List.mem_range.mp hi
  refine fn_rt rfl ?_
  show g__law_same (F__law_same_ n) [.pu (.tup l), .pu (.tup l), .no] = _
  have c1 : bOr (bNot (bOf (eUn (gIs isTupD) (eVar 0)))) (bOf (eOp gNe (eCall gLen (aCons (eVar 0) aNil)) (eCall gLen (aCons (eVar 1) aNil)))) [.pu (.tup l), .pu (.tup l), .no] = some false := by
    show some (!decide ((l.length : Int) = (l.length : Int))) = _
    rw [decide_eq_true rfl] <;> rfl
  have e1 : cFor (iRg1 (eCall gLen (aCons (eVar 1) aNil))) (.one 2) (smB (F__law_same_ n)) [.pu (.tup l), .pu (.tup l), .no] = some (.nx [.pu (.tup l), .pu (.tup l), s']) := by
    have i1 : iRg1 (eCall gLen (aCons (eVar 1) aNil)) [.pu (.tup l), .pu (.tup l), .no] = some (((List.range l.length).map (fun i => i + 0)).map nv) := by
      show gd (smI (l.length : Int)) (some (rgD 0 (l.length : Int).toNat)) = _
      rw [gd_t (sm_nat hl), Int.toNat_natCast]
      exact congrArg some (rgD_nv l.length 0)
    unfold cFor
    rw [i1]
    exact lp
  unfold g__law_same
  exact (seq_nx (ρ' := [.pu (.tup l), .pu (.tup l), .no]) rfl).trans (seq_rt ((if_t rfl).trans ((seq_nx (ρ' := [.pu (.tup l), .pu (.tup l), .no]) ((if_f c1).trans rfl)).trans ((seq_nx e1).trans rfl))))
theorem same_tI {n : Nat} {x : List Int} (hl : x.length ≤ 4000) : F__law_same_ (n + 2) [tI_ x, tI_ x] = some (.bl true) :=
  same_tup (n := n + 1) (fun d hd => by
    obtain ⟨i, _, rfl⟩ := List.mem_map.mp hd
    exact same_ii n i) (by rw [List.length_map]; exact hl)
theorem same_nv {n : Nat} {us : List Nat} (hl : us.length ≤ 4000) : F__law_same_ (n + 2) [.tup (us.map nv), .tup (us.map nv)] = some (.bl true) :=
  same_tup (n := n + 1) (fun d hd => by
    obtain ⟨i, _, rfl⟩ := List.mem_map.mp hd
    exact same_ii n i) (by rw [List.length_map]; exact hl)
theorem same_bd {roof : Int} {ps : List (Int × Int)} (hl : ps.length ≤ 4000) : F__law_same [bd roof ps, bd roof ps] = some (.bl true) := by
  refine same_tup (n := 4) (fun d hd => ?_) (by show 2 ≤ 4000; decide)
  rcases List.mem_cons.mp hd with e | hd
  · rw [e]; exact same_ii 3 roof
  · rw [List.mem_singleton.mp hd]
    refine same_tup (n := 3) (fun d hd => ?_) (by rw [prs_len]; exact hl)
    obtain ⟨q, _, rfl⟩ := List.mem_map.mp hd
    refine same_tup (n := 2) (fun d hd => ?_) (by show 2 ≤ 4000; decide)
    rcases List.mem_cons.mp hd with e | hd
    · rw [e]; exact same_ii 1 q.1
    · rw [List.mem_singleton.mp hd]; exact same_ii 1 q.2
end DL

set_option Elab.async false
set_option linter.all false
set_option maxRecDepth 100000
set_option maxHeartbeats 4000000
namespace DL
open PySem
/-! ### the plain law: rows are falling; the walk without sorting; it is monotone -/
abbrev Fa (r : List Int) : Prop := r.Pairwise (· ≥ ·)
theorem rsort_id {r : List Int} (h : Fa r) : rsort r = r := (rsort_of (.refl r) h).symm
theorem rowM_fa {w fl : Int} {r : List Int} (h : Fa r) : Fa (rowM w fl r) := by
  unfold rowM
  refine List.pairwise_append.mpr ⟨h.sublist List.filter_sublist, List.pairwise_singleton _ _, fun a ha b hb => ?_⟩
  rw [List.mem_singleton.mp hb]
  exact of_decide_eq_true (List.mem_filter.mp ha).2
/-- take while at least t, then t -/
def cutW (t : Int) : List Int → List Int
  | [] => [t]
  | a :: s => match decide (t ≤ a) with
    | true => a :: cutW t s
    | false => [t]
theorem cutW_eq {t : Int} : ∀ {r : List Int}, Fa r → r.filter (fun m => decide (t ≤ m)) ++ [t] = cutW t r
  | [], _ => rfl
  | a :: s, h => by
    obtain ⟨h1, h2⟩ := List.pairwise_cons.mp h
    unfold cutW
    cases hd : decide (t ≤ a) with
    | true =>
      rw [List.filter_cons_of_pos (p := fun m => decide (t ≤ m)) hd, List.cons_append, cutW_eq h2]
    | false =>
      have ha := of_decide_eq_false hd
      have : (a :: s).filter (fun m => decide (t ≤ m)) = [] := by
        rw [List.filter_eq_nil_iff]
        intro x hx hx2
        have hx2 := of_decide_eq_true hx2
        rcases List.mem_cons.mp hx with e | e
        · omega
        · have := h1 x e
          omega
      rw [this] <;> rfl
/-- the tall one, by position -/
def tlP (fl : Int) : Nat → List Int → Int
  | _, [] => fl
  | 0, a :: _ => if fl ≤ a then a + 1 else fl
  | k + 1, _ :: s => tlP fl k s
theorem tall_eq {fl : Int} : ∀ (k : Nat) (r : List Int), tallM ((k : Int) + 1) fl r = tlP fl k r
  | k, [] => by
    unfold tallM
    rw [decide_eq_false (by show ¬ ((k : Int) + 1 ≤ 0); omega)]
    cases k <;> rfl
  | 0, a :: s => by
    unfold tallM
    rw [decide_eq_true (by rw [List.length_cons]; omega)]
    show (match decide (fl ≤ a) with | true => a + 1 | false => fl) = if fl ≤ a then a + 1 else fl
    by_cases h : fl ≤ a
    · rw [decide_eq_true h, if_pos h]
    · rw [decide_eq_false h, if_neg h]
  | k + 1, a :: s => by
    have ih := tall_eq k s (fl := fl)
    rw [tlP, ← ih]
    unfold tallM
    have e1 : ((((k + 1 : Nat) : Int) + 1 - 1)).toNat = k + 1 := by omega
    have e2 : (((k : Int) + 1 - 1)).toNat = k := by omega
    rw [e1, e2, List.getElem?_cons_succ, List.length_cons]
    by_cases h : (k : Int) + 1 ≤ (s.length : Int)
    · rw [decide_eq_true h, decide_eq_true (by omega)]
    · rw [decide_eq_false h, decide_eq_false (by omega)]
theorem tlP_ge (fl : Int) : ∀ (k : Nat) (r : List Int), fl ≤ tlP fl k r
  | k, [] => by cases k <;> exact Int.le_refl _
  | 0, a :: s => by
    unfold tlP
    split <;> omega
  | k + 1, a :: s => tlP_ge fl k s
theorem tlP_le (fl : Int) {m : Int} : ∀ (k : Nat) (r : List Int), (∀ x ∈ r, x ≤ m) → tlP fl k r = fl ∨ (tlP fl k r ≤ m + 1 ∧ fl ≤ m)
  | k, [], _ => by cases k <;> exact .inl rfl
  | 0, a :: s, h => by
    have := h a List.mem_cons_self
    unfold tlP
    split
    · exact .inr ⟨by omega, by omega⟩
    · exact .inl rfl
  | k + 1, a :: s, h => tlP_le fl k s fun x hx => h x (List.mem_cons_of_mem _ hx)
/-- lexicographic -/
def Lx : List Int → List Int → Prop
  | [], _ => True
  | _ :: _, [] => False
  | a :: r, b :: s => a < b ∨ (a = b ∧ Lx r s)
theorem Lx.refl : ∀ r, Lx r r
  | [] => True.intro
  | _ :: r => .inr ⟨rfl, Lx.refl r⟩
theorem Lx.trans : ∀ {a b c : List Int}, Lx a b → Lx b c → Lx a c
  | [], _, _, _, _ => True.intro
  | _ :: _, [], _, h, _ => h.elim
  | _ :: _, _ :: _, [], _, h => h.elim
  | x :: a, y :: b, z :: c, h, h2 => by
    rcases h with h | ⟨h, k⟩
    · rcases h2 with h2 | ⟨h2, _⟩
      · exact .inl (by omega)
      · exact .inl (by omega)
    · rcases h2 with h2 | ⟨h2, k2⟩
      · exact .inl (by omega)
      · exact .inr ⟨by omega, Lx.trans k k2⟩
theorem cutW_hd {t : Int} (r : List Int) : ∃ h s, cutW t r = h :: s ∧ t ≤ h := by
  cases r with
  | nil => exact ⟨t, [], rfl, Int.le_refl _⟩
  | cons a s =>
    unfold cutW
    cases hd : decide (t ≤ a) with
    | true => exact ⟨a, _, rfl, of_decide_eq_true hd⟩
    | false => exact ⟨t, [], rfl, Int.le_refl _⟩
theorem cutW_big {t m : Int} {r : List Int} (h : ∀ x ∈ r, x ≤ m) (ht : m < t) : cutW t r = [t] := by
  cases r with
  | nil => rfl
  | cons a s =>
    have := h a List.mem_cons_self
    unfold cutW
    rw [decide_eq_false (by omega)]
theorem cutW_le {t m : Int} {r : List Int} (h : ∀ x ∈ r, x ≤ m) (ht : t ≤ m) : ∃ h s, cutW t r = h :: s ∧ h ≤ m := by
  cases r with
  | nil => exact ⟨t, [], rfl, ht⟩
  | cons a s =>
    unfold cutW
    cases hd : decide (t ≤ a) with
    | true => exact ⟨a, _, rfl, h a List.mem_cons_self⟩
    | false => exact ⟨t, [], rfl, ht⟩
theorem lx_one {t h : Int} {s : List Int} (e : t ≤ h) : Lx [t] (h :: s) := by
  by_cases z : t = h
  · exact .inr ⟨z, True.intro⟩
  · exact .inl (by omega)
theorem cutW_mono {t t' : Int} (h : t ≤ t') : ∀ (r : List Int), Fa r → Lx (cutW t r) (cutW t' r)
  | [], _ => lx_one h
  | a :: s, f => by
    unfold cutW
    by_cases h1 : t' ≤ a
    · rw [decide_eq_true h1, decide_eq_true (by omega)]
      exact .inr ⟨rfl, cutW_mono h s (List.pairwise_cons.mp f).2⟩
    · rw [decide_eq_false h1]
      by_cases h2 : t ≤ a
      · rw [decide_eq_true h2]
        exact .inl (by omega)
      · rw [decide_eq_false h2]
        exact lx_one h
abbrev stP (fl : Int) (k : Nat) (r : List Int) : List Int := cutW (tlP fl k r) r
theorem stP_mono {fl : Int} : ∀ (k : Nat) (r r' : List Int), Fa r → Fa r' → Lx r r' → Lx (stP fl k r) (stP fl k r')
  | k, [], r', _, _, _ => by
    obtain ⟨h, s, e, e2⟩ := cutW_hd (t := tlP fl k r') r'
    have : stP fl k [] = [fl] := by cases k <;> rfl
    rw [this]
    show Lx _ (cutW _ _)
    rw [e]
    exact lx_one (Int.le_trans (tlP_ge fl k r') e2)
  | k, a :: s, [], _, _, h => h.elim
  | 0, a :: s, b :: s', _, _, h => by
    have key : ∀ (x : Int) (r : List Int), stP fl 0 (x :: r) = [if fl ≤ x then x + 1 else fl] := fun x r => by
      show cutW (if fl ≤ x then x + 1 else fl) (x :: r) = _
      unfold cutW
      rw [decide_eq_false (by split <;> omega)]
    rw [key, key]
    have : a ≤ b := by
      rcases h with h | ⟨h, _⟩ <;> omega
    refine lx_one ?_
    split <;> split <;> omega
  | k + 1, a :: s, b :: s', f, f', h => by
    obtain ⟨p1, p2⟩ := List.pairwise_cons.mp f
    obtain ⟨q1, q2⟩ := List.pairwise_cons.mp f'
    have tl := tlP_le fl (m := a) k s fun x hx => p1 x hx
    have tl' := tlP_le fl (m := b) k s' fun x hx => q1 x hx
    have tg := tlP_ge fl k s
    have tg' := tlP_ge fl k s'
    show Lx (cutW (tlP fl k s) (a :: s)) (cutW (tlP fl k s') (b :: s'))
    rcases h with h | ⟨h, hl⟩
    · obtain ⟨y, z, e, e2⟩ := cutW_hd (t := tlP fl k s') (b :: s')
      have hb : b ≤ y := by
        unfold cutW at e
        by_cases hc : tlP fl k s' ≤ b
        · rw [decide_eq_true hc] at e
          cases e
          exact Int.le_refl _
        · omega
      rw [e]
      unfold cutW
      by_cases hc : tlP fl k s ≤ a
      · rw [decide_eq_true hc]
        exact .inl (by omega)
      · rw [decide_eq_false hc]
        exact lx_one (by omega)
    · subst h
      have ih : Lx (cutW (tlP fl k s) s) (cutW (tlP fl k s') s') := stP_mono k s s' p2 q2 hl
      unfold cutW
      by_cases hc : tlP fl k s ≤ a
      · rw [decide_eq_true hc]
        by_cases hc' : tlP fl k s' ≤ a
        · rw [decide_eq_true hc']
          exact .inr ⟨rfl, ih⟩
        · rw [decide_eq_false hc']
          exact .inl (by omega)
      · rw [decide_eq_false hc]
        rw [cutW_big (m := a) (fun x hx => p1 x hx) (by omega)] at ih
        by_cases hc' : tlP fl k s' ≤ a
        · rw [decide_eq_true hc']
          obtain ⟨y, z, e, e2⟩ := cutW_le (r := s') (fun x hx => q1 x hx) hc'
          rw [e] at ih
          rcases ih with ih | ⟨ih, _⟩ <;> omega
        · rw [decide_eq_false hc']
          rw [cutW_big (m := a) (fun x hx => q1 x hx) (by omega)] at ih
          exact ih
theorem tlP_fl {fl fl' : Int} (h : fl' ≤ fl) : ∀ (k : Nat) (r : List Int), tlP fl' k r ≤ tlP fl k r
  | k, [] => by cases k <;> exact h
  | 0, a :: s => by
    unfold tlP
    split <;> split <;> omega
  | k + 1, a :: s => tlP_fl h k s
theorem tlP_k {fl : Int} : ∀ (k : Nat) (r : List Int), Fa r → tlP fl (k + 1) r ≤ tlP fl k r
  | k, [], _ => by cases k <;> exact Int.le_refl _
  | 0, a :: s, f => by
    have tl := tlP_le fl (m := a) 0 s fun x hx => (List.pairwise_cons.mp f).1 x hx
    show tlP fl 0 s ≤ if fl ≤ a then a + 1 else fl
    split <;> omega
  | k + 1, a :: s, f => tlP_k k s (List.pairwise_cons.mp f).2
theorem tlP_kle {fl : Int} {k k' : Nat} {r : List Int} (f : Fa r) (h : k ≤ k') : tlP fl k' r ≤ tlP fl k r := by
  induction h with
  | refl => exact Int.le_refl _
  | step _ ih => exact Int.le_trans (tlP_k _ _ f) ih
end DL

set_option Elab.async false
set_option linter.all false
set_option maxRecDepth 100000
set_option maxHeartbeats 4000000
namespace DL
open PySem
/-! ### the plain law: greater bounds stay good; the walk, fast -/
theorem stM_eq {roof : Int} {ps : List (Int × Int)} {v : Nat} {r : List Int} (f : Fa r) (h : 1 ≤ (pairAt ps v).1) : stM roof ps v r = stP (roof + 1 - (pairAt ps v).2) ((pairAt ps v).1 - 1).toNat r := by
  unfold stM
  rw [rsort_id f]
  unfold rowM
  have e := tall_eq (fl := roof + 1 - (pairAt ps v).2) ((pairAt ps v).1 - 1).toNat r
  have e2 : ((((pairAt ps v).1 - 1).toNat : Nat) : Int) + 1 = (pairAt ps v).1 := by omega
  rw [e2] at e
  rw [e]
  exact cutW_eq f
theorem stM_fa {roof : Int} {ps : List (Int × Int)} {v : Nat} {r : List Int} (f : Fa r) : Fa (stM roof ps v r) := by
  unfold stM
  rw [rsort_id f]
  exact rowM_fa f
theorem stM_mono {roof : Int} {ps ps' : List (Int × Int)} {v : Nat} {r r' : List Int} (f : Fa r) (f' : Fa r') (hl : Lx r r') (h1 : 1 ≤ (pairAt ps' v).1) (h2 : (pairAt ps' v).1 ≤ (pairAt ps v).1) (h3 : (pairAt ps' v).2 ≤ (pairAt ps v).2) : Lx (stM roof ps v r) (stM roof ps' v r') := by
  rw [stM_eq f (by omega), stM_eq f' h1]
  refine (stP_mono _ r r' f f' hl).trans (cutW_mono ?_ r' f')
  exact Int.le_trans (tlP_fl (by omega) _ _) (tlP_kle f' (by omega))
theorem lx_hd {a b : List Int} (h : Lx a b) (hb : b ≠ []) (ha : a ≠ []) : a.headD 0 ≤ b.headD 0 := by
  cases a with
  | nil => exact absurd rfl ha
  | cons x a =>
    cases b with
    | nil => exact h.elim
    | cons y b =>
      show x ≤ y
      rcases h with h | ⟨h, _⟩ <;> omega
theorem walk_mono {roof : Int} {ps ps' : List (Int × Int)} : ∀ (vs : List Nat) (r r' : List Int), Fa r → Fa r' → Lx r r' → (∀ v ∈ vs, 1 ≤ (pairAt ps' v).1 ∧ (pairAt ps' v).1 ≤ (pairAt ps v).1 ∧ (pairAt ps' v).2 ≤ (pairAt ps v).2) →
    (walkM (stM roof ps') vs r').any (fun q => decide (roof < q.2.headD 0)) = false → (walkM (stM roof ps) vs r).any (fun q => decide (roof < q.2.headD 0)) = false
  | [], _, _, _, _, _, _, _ => rfl
  | v :: vs, r, r', f, f', hl, h, hn => by
    obtain ⟨h1, h2, h3⟩ := h v List.mem_cons_self
    have m := stM_mono (roof := roof) f f' hl h1 h2 h3
    have hd := lx_hd m (rowM_ne _ _ _) (rowM_ne _ _ _)
    rw [walkM, List.any_cons, Bool.or_eq_false_iff] at hn ⊢
    obtain ⟨n1, n2⟩ := hn
    have n1 := of_decide_eq_false n1
    refine ⟨decide_eq_false ?_, walk_mono vs _ _ (stM_fa f) (stM_fa f') m (fun u hu => h u (List.mem_cons_of_mem _ hu)) n2⟩
    have n1 : ¬ roof < (stM roof ps' v r').headD 0 := n1
    show ¬ roof < (stM roof ps v r).headD 0
    omega
theorem above_mono {roof : Int} {ps ps' : List (Int × Int)} {us : List Nat} (h : ∀ v ∈ us, 1 ≤ (pairAt ps' v).1 ∧ (pairAt ps' v).1 ≤ (pairAt ps v).1 ∧ (pairAt ps' v).2 ≤ (pairAt ps v).2) (hn : aboveM roof ps' us = false) : aboveM roof ps us = false :=
  walk_mono us.reverse [] [] List.Pairwise.nil List.Pairwise.nil True.intro (fun v hv => h v (List.mem_reverse.mp hv)) hn
/-- the walk that only tells whether it goes above -/
def abF (roof : Int) : List (Int × Int) → List Int → Bool
  | [], _ => false
  | q :: r, prev => match cutW (tlP (roof + 1 - q.2) (q.1 - 1).toNat prev) prev with
    | [] => false
    | h :: t => match decide (roof < h) with
      | true => true
      | false => abF roof r (h :: t)
theorem ab_fast {roof : Int} {ps : List (Int × Int)} : ∀ (vs : List Nat) (r : List Int), Fa r → (∀ v ∈ vs, 1 ≤ (pairAt ps v).1) → (walkM (stM roof ps) vs r).any (fun q => decide (roof < q.2.headD 0)) = abF roof (vs.map (pairAt ps)) r
  | [], _, _, _ => rfl
  | v :: vs, r, f, h => by
    have ih := ab_fast (roof := roof) vs (stM roof ps v r) (stM_fa f) fun u hu => h u (List.mem_cons_of_mem _ hu)
    have e := stM_eq (roof := roof) f (h v List.mem_cons_self)
    rw [walkM, List.any_cons, ih, List.map_cons, abF]
    have e' : cutW (tlP (roof + 1 - (pairAt ps v).2) ((pairAt ps v).1 - 1).toNat r) r = stM roof ps v r := e.symm
    rw [e']
    cases hs : stM roof ps v r with
    | nil => exact absurd hs (rowM_ne _ _ _)
    | cons x t =>
      show (decide (roof < x) || abF roof (vs.map (pairAt ps)) (x :: t)) = match decide (roof < x) with
        | true => true
        | false => abF roof (vs.map (pairAt ps)) (x :: t)
      cases decide (roof < x) <;> rfl
theorem ver_pairs {L : Nat} {ps : List (Int × Int)} (h : ps.length = L) : (verL L).map (pairAt ps) = ps := by
  subst h
  refine List.ext_getElem? fun i => ?_
  unfold verL
  rw [List.map_map, List.getElem?_map]
  by_cases hi : i < ps.length
  · rw [List.getElem?_range hi, List.getElem?_eq_getElem hi]
    show some (ps.getD i (1, 1)) = _
    simp [hi]
  · rw [List.getElem?_eq_none (by rw [List.length_range]; omega), List.getElem?_eq_none (by omega)] <;> rfl
theorem above_fast {L : Nat} {roof : Int} {ps : List (Int × Int)} (hv : Val L roof ps) : aboveM roof ps (verL L) = abF roof ps.reverse [] := by
  unfold aboveM
  rw [ab_fast _ _ List.Pairwise.nil fun v h => (pairAt_ok hv (verL_mem (List.mem_reverse.mp h)).1 (verL_mem (List.mem_reverse.mp h)).2).1, List.map_reverse, ver_pairs hv.len]
/-! _least_good -/
theorem lgLoop_ok {G : List D → Option D} {cs : List D} {own gr c : Int} (h : ∀ w, own ≤ w → w ≤ gr → G (.int w :: cs) = some (.bl (decide (c ≤ w)))) : ∀ (n : Nat) (lo hi : Int), own ≤ lo → hi ≤ gr → lo < c → c ≤ hi → hi - lo ≤ (2 : Int) ^ n → lgLoop G cs (n + 1) lo hi = some c
  | n, lo, hi, h1, h2, h3, h4, h5 => by
    unfold lgLoop
    by_cases hd : 1 < hi - lo
    · rw [decide_eq_true hd]
      obtain ⟨m, rfl⟩ : ∃ m, n = m + 1 := by
        cases n with
        | zero => have : hi - lo ≤ 1 := h5; omega
        | succ m => exact ⟨m, rfl⟩
      have p2 : (2 : Int) ^ (m + 1) = 2 ^ m * 2 := rfl
      rw [p2] at h5
      have g := h ((lo + hi) / 2) (by omega) (by omega)
      simp only [g]
      by_cases hc : c ≤ (lo + hi) / 2
      · rw [decide_eq_true hc]
        exact lgLoop_ok h m lo ((lo + hi) / 2) h1 (by omega) h3 hc (by omega)
      · rw [decide_eq_false hc]
        exact lgLoop_ok h m ((lo + hi) / 2) hi (by omega) h2 (by omega) h4 (by omega)
    · rw [decide_eq_false hd]
      have : hi = c := by omega
      rw [this]
theorem lgV_ok {G : List D → Option D} {cs : List D} {own gr c : Int} (ho : own < c) (hc : c ≤ gr) (hg : gr - own ≤ 1024) (h : ∀ w, own ≤ w → w ≤ gr → G (.int w :: cs) = some (.bl (decide (c ≤ w)))) : lgV G cs own gr = some (.int c) := by
  unfold lgV
  have h1 := h own (by omega) (by omega)
  have h2 := h gr (by omega) (by omega)
  rw [decide_eq_false (by omega)] at h1
  rw [decide_eq_true hc] at h2
  have lp := lgLoop_ok h 79 own gr (Int.le_refl _) (Int.le_refl _) ho hc (by
    have : (1024 : Int) ≤ 2 ^ 79 := by decide
    omega)
  simp only [h1, h2, lp]
end DL

set_option Elab.async false
set_option linter.all false
set_option maxRecDepth 100000
set_option maxHeartbeats 4000000
namespace DL
open PySem
/-! ### the plain law: _law_refused, lifted_width, lifted_reach -/
theorem strike_len (ab : List Nat → Bool) : ∀ (vs kept : List Nat), (strikeM ab vs kept).length ≤ kept.length
  | [], kept => Nat.le_refl _
  | v :: vs, kept => by
    unfold strikeM
    split
    · exact Nat.le_trans (strike_len ab vs _) (List.length_filter_le _ _)
    · exact strike_len ab vs kept
theorem refused_ok {L : Nat} {roof : Int} {ps : List (Int × Int)} (hv : Val L roof ps) (h1 : 1 ≤ L) (ha : aboveM roof ps (verL L) = true) : F__law_refused [lineT L, bd roof ps] = some (.bl true) := by
  have ck := ck_ok hv
  rw [ha] at ck
  have mg := margin_ok hv h1
  have lt := ltops_ok hv
  rw [← top_eq hv] at lt
  have wl := wall_ok hv ha
  have sk := struck_ok hv
  refine fn_rt rfl ?_
  show g__law_refused [.pu (lineT L), .pu (bd roof ps), .no, .no, .no] = _
  have s1 := set_of (i := 2) (lims_of (ρ := [.pu (lineT L), .pu (bd roof ps), .no, .no, .no]) (tree := .non) (roof := roof) (ps := ps) rfl (by show 4 < 5; decide) (by rw [hv.len]; have := hv.l; omega))
  have s2 := set_of (i := 3) (flrs_of (ρ := [.pu (lineT L), .pu (bd roof ps), .pu (limsD ps), .no, .no]) (roof := roof) (ps := ps) rfl (by show 4 < 5; decide) (by rw [hv.len]; have := hv.l; omega))
  have k1 : eCall F_can_keep (aCons (eVar 0) (aCons (eVar 1) aNil)) [.pu (lineT L), .pu (bd roof ps), .pu (limsD ps), .pu (flrsD roof ps), .no] = some (.bl false) := ck
  have c1 : bNot (bOf (eCall F__law_same (aCons (eCall F_can_keep (aCons (eVar 0) (aCons (eVar 1) aNil))) (aCons (eC (.bl false)) aNil)))) [.pu (lineT L), .pu (bd roof ps), .pu (limsD ps), .pu (flrsD roof ps), .no] = some false :=
    bnot_of (bof_of ((call2 k1 rfl).trans (same_bl 4 false false)))
  have k2 : eCall F_margin_of (aCons (eVar 0) (aCons (eVar 1) aNil)) [.pu (lineT L), .pu (bd roof ps), .pu (limsD ps), .pu (flrsD roof ps), .no] = some (.int (topM L roof ps - roof)) := mg
  have k3 : eCall F__law_tops (aCons (eVar 0) (aCons (eVar 1) aNil)) [.pu (lineT L), .pu (bd roof ps), .pu (limsD ps), .pu (flrsD roof ps), .no] = some (.int (topM L roof ps)) := lt
  have k4 : eOp gSub (eCall F__law_tops (aCons (eVar 0) (aCons (eVar 1) aNil))) (eOp gIx (eVar 1) (eC (.int 0))) [.pu (lineT L), .pu (bd roof ps), .pu (limsD ps), .pu (flrsD roof ps), .no] = some (.int (topM L roof ps - roof)) :=
    (op_of k3 (b := .int roof) rfl).trans rfl
  have c2 : bNot (bOf (eCall F__law_same (aCons (eCall F_margin_of (aCons (eVar 0) (aCons (eVar 1) aNil))) (aCons (eOp gSub (eCall F__law_tops (aCons (eVar 0) (aCons (eVar 1) aNil))) (eOp gIx (eVar 1) (eC (.int 0)))) aNil)))) [.pu (lineT L), .pu (bd roof ps), .pu (limsD ps), .pu (flrsD roof ps), .no] = some false :=
    bnot_of (bof_of ((call2 k2 k4).trans (same_ii 4 _)))
  have k5 : eCall F_wall_in (aCons (eVar 0) (aCons (eVar 1) aNil)) [.pu (lineT L), .pu (bd roof ps), .pu (limsD ps), .pu (flrsD roof ps), .no] = some (.tup ((strikeM (aboveM roof ps) (descL L) (verL L)).map nv)) := wl
  have k6 : eCall F__law_struck (aCons (eVar 0) (aCons (eVar 2) (aCons (eVar 3) (aCons (eOp gIx (eVar 1) (eC (.int 0))) aNil)))) [.pu (lineT L), .pu (bd roof ps), .pu (limsD ps), .pu (flrsD roof ps), .no] = some (.tup ((strikeM (aboveM roof ps) (descL L) (verL L)).map nv)) := sk
  unfold g__law_refused
  refine (seq_nx s1).trans ((seq_nx s2).trans ((seq_nx ((if_f c1).trans rfl)).trans ((seq_nx ((if_f c2).trans rfl)).trans (ret_of ((call2 k5 k6).trans (same_nv (n := 3) ?_))))))
  have := strike_len (aboveM roof ps) (descL L) (verL L)
  rw [verL_len] at this
  have := hv.l
  omega
theorem pair_set {ps : List (Int × Int)} {v u : Nat} {q : Int × Int} (h1 : 1 ≤ v) (h2 : v ≤ ps.length) (hu : 1 ≤ u) : pairAt (ps.set (v - 1) q) u = if u = v then q else pairAt ps u := by
  unfold pairAt
  rw [List.getD_eq_getElem?_getD, List.getD_eq_getElem?_getD]
  split
  · rename_i e
    subst e
    rw [List.getElem?_set_self (by omega)] <;> rfl
  · rw [List.getElem?_set_ne (by omega)]
theorem set_id {ps : List (Int × Int)} {v : Nat} (h1 : 1 ≤ v) (h2 : v ≤ ps.length) : ps.set (v - 1) (pairAt ps v) = ps := by
  refine List.ext_getElem? fun i => ?_
  by_cases e : v - 1 = i
  · subst e
    rw [List.getElem?_set_self (by omega)]
    unfold pairAt
    rw [List.getD_eq_getElem?_getD, List.getElem?_eq_getElem (by omega)] <;> rfl
  · rw [List.getElem?_set_ne e]
theorem lw_ok {L v : Nat} {roof c r : Int} {ps : List (Int × Int)} (hv : Val L roof ps) (h1 : 1 ≤ v) (h2 : v ≤ L) (hp : pairAt ps v = (c - 1, r)) (hc : c ≤ 999) (ha : aboveM roof ps (verL L) = true) (hb : aboveM roof (ps.set (v - 1) (c, r)) (verL L) = false) : F_lifted_width [lineT L, bd roof ps, nv v] = some (.int c) := by
  have nb := need_ok hv
  have nver := ver_ok h1 h2
  have pa := pairAt_ok hv h1 h2
  have hl : v ≤ ps.length := by rw [hv.len]; exact h2
  have at' := prs_at (ps := ps) h1 hl
  rw [hp] at pa at'
  obtain ⟨p1, p2, p3, p4⟩ := pa
  have p1 : 1 ≤ c - 1 := p1
  have p3 : 1 ≤ r := p3
  have p4 : r ≤ roof := p4
  have lg : lgV F_enW [lineT L, bd roof ps, nv v, .int r] (c - 1) 999 = some (.int c) := lgV_ok (by omega) hc (by omega) fun w w1 w2 => by
    rw [enW_ok hv h1 h2 (by omega) w2 p3 p4]
    by_cases hw : c ≤ w
    · rw [decide_eq_true hw, above_mono (ps' := ps.set (v - 1) (c, r)) (fun u hu => ?_) hb] <;> try rfl
      have hu1 := (verL_mem hu).1
      rw [pair_set h1 hl hu1, pair_set h1 hl hu1]
      have pu := pairAt_ok hv hu1 (verL_mem hu).2
      split
      · exact ⟨by show 1 ≤ c; omega, hw, Int.le_refl _⟩
      · exact ⟨pu.1, Int.le_refl _, Int.le_refl _⟩
    · have : w = c - 1 := by omega
      subst this
      have := set_id (ps := ps) h1 hl
      rw [hp] at this
      rw [this, ha, decide_eq_false hw] <;> rfl
  refine fn_rt rfl ?_
  show g_lw [.pu (lineT L), .pu (bd roof ps), .pu (nv v), .no, .no, .no] = _
  have e0 : cExpr (eCall F_need_bounds (aCons (eVar 0) (aCons (eVar 1) aNil))) [.pu (lineT L), .pu (bd roof ps), .pu (nv v), .no, .no, .no] = some (.nx [.pu (lineT L), .pu (bd roof ps), .pu (nv v), .no, .no, .no]) := by
    have : eCall F_need_bounds (aCons (eVar 0) (aCons (eVar 1) aNil)) [.pu (lineT L), .pu (bd roof ps), .pu (nv v), .no, .no, .no] = some .non := nb
    unfold cExpr
    rw [this]
  have e1 : cExpr (eCall F_need_version (aCons (eVar 0) (aCons (eVar 2) aNil))) [.pu (lineT L), .pu (bd roof ps), .pu (nv v), .no, .no, .no] = some (.nx [.pu (lineT L), .pu (bd roof ps), .pu (nv v), .no, .no, .no]) := by
    have : eCall F_need_version (aCons (eVar 0) (aCons (eVar 2) aNil)) [.pu (lineT L), .pu (bd roof ps), .pu (nv v), .no, .no, .no] = some .non := nver
    unfold cExpr
    rw [this]
  have e2 : cUnp 3 5 (eOp gIx (eOp gIx (eVar 1) (eC (.int 1))) (eOp gSub (eVar 2) (eC (.int 1)))) [.pu (lineT L), .pu (bd roof ps), .pu (nv v), .no, .no, .no] = some (.nx [.pu (lineT L), .pu (bd roof ps), .pu (nv v), .pu (.int (c - 1)), .no, .pu (.int r)]) := by
    have : eOp gIx (eOp gIx (eVar 1) (eC (.int 1))) (eOp gSub (eVar 2) (eC (.int 1))) [.pu (lineT L), .pu (bd roof ps), .pu (nv v), .no, .no, .no] = some (.tup [.int (c - 1), .int r]) := at'
    unfold cUnp
    rw [this] <;> rfl
  refine (seq_nx e0).trans ((seq_nx e1).trans ((seq_nx e2).trans ?_))
  show (match lgV F_enW [lineT L, bd roof ps, nv v, .int r] (c - 1) 999 with
    | some d => some (Out.rt d)
    | none => none) = _
  rw [lg]
theorem lr_ok {L v : Nat} {roof c w : Int} {ps : List (Int × Int)} (hv : Val L roof ps) (h1 : 1 ≤ v) (h2 : v ≤ L) (hp : pairAt ps v = (w, c - 1)) (hc : c ≤ roof) (ha : aboveM roof ps (verL L) = true) (hb : aboveM roof (ps.set (v - 1) (w, c)) (verL L) = false) : F_lifted_reach [lineT L, bd roof ps, nv v] = some (.int c) := by
  have nb := need_ok hv
  have nver := ver_ok h1 h2
  have pa := pairAt_ok hv h1 h2
  have hl : v ≤ ps.length := by rw [hv.len]; exact h2
  have at' := prs_at (ps := ps) h1 hl
  rw [hp] at pa at'
  obtain ⟨p1, p2, p3, p4⟩ := pa
  have p1 : 1 ≤ w := p1
  have p2 : w ≤ 999 := p2
  have p3 : 1 ≤ c - 1 := p3
  have hr := hv.r2
  have lg : lgV F_enR [lineT L, bd roof ps, nv v, .int w] (c - 1) roof = some (.int c) := lgV_ok (by omega) hc (by omega) fun x w1 w2 => by
    rw [enR_ok hv h1 h2 p1 p2 (by omega) w2]
    by_cases hw : c ≤ x
    · rw [decide_eq_true hw, above_mono (ps' := ps.set (v - 1) (w, c)) (fun u hu => ?_) hb] <;> try rfl
      have hu1 := (verL_mem hu).1
      rw [pair_set h1 hl hu1, pair_set h1 hl hu1]
      have pu := pairAt_ok hv hu1 (verL_mem hu).2
      split
      · exact ⟨p1, Int.le_refl _, hw⟩
      · exact ⟨pu.1, Int.le_refl _, Int.le_refl _⟩
    · have : x = c - 1 := by omega
      subst this
      have := set_id (ps := ps) h1 hl
      rw [hp] at this
      rw [this, ha, decide_eq_false hw] <;> rfl
  refine fn_rt rfl ?_
  show g_lr [.pu (lineT L), .pu (bd roof ps), .pu (nv v), .no, .no, .no] = _
  have e0 : cExpr (eCall F_need_bounds (aCons (eVar 0) (aCons (eVar 1) aNil))) [.pu (lineT L), .pu (bd roof ps), .pu (nv v), .no, .no, .no] = some (.nx [.pu (lineT L), .pu (bd roof ps), .pu (nv v), .no, .no, .no]) := by
    have : eCall F_need_bounds (aCons (eVar 0) (aCons (eVar 1) aNil)) [.pu (lineT L), .pu (bd roof ps), .pu (nv v), .no, .no, .no] = some .non := nb
    unfold cExpr
    rw [this]
  have e1 : cExpr (eCall F_need_version (aCons (eVar 0) (aCons (eVar 2) aNil))) [.pu (lineT L), .pu (bd roof ps), .pu (nv v), .no, .no, .no] = some (.nx [.pu (lineT L), .pu (bd roof ps), .pu (nv v), .no, .no, .no]) := by
    have : eCall F_need_version (aCons (eVar 0) (aCons (eVar 2) aNil)) [.pu (lineT L), .pu (bd roof ps), .pu (nv v), .no, .no, .no] = some .non := nver
    unfold cExpr
    rw [this]
  have e2 : cUnp 5 3 (eOp gIx (eOp gIx (eVar 1) (eC (.int 1))) (eOp gSub (eVar 2) (eC (.int 1)))) [.pu (lineT L), .pu (bd roof ps), .pu (nv v), .no, .no, .no] = some (.nx [.pu (lineT L), .pu (bd roof ps), .pu (nv v), .pu (.int (c - 1)), .no, .pu (.int w)]) := by
    have : eOp gIx (eOp gIx (eVar 1) (eC (.int 1))) (eOp gSub (eVar 2) (eC (.int 1))) [.pu (lineT L), .pu (bd roof ps), .pu (nv v), .no, .no, .no] = some (.tup [.int w, .int (c - 1)]) := at'
    unfold cUnp
    rw [this] <;> rfl
  refine (seq_nx e0).trans ((seq_nx e1).trans ((seq_nx e2).trans ?_))
  show (match lgV F_enR [lineT L, bd roof ps, nv v, .int w] (c - 1) roof with
    | some d => some (Out.rt d)
    | none => none) = _
  rw [lg]
end DL

set_option Elab.async false
set_option linter.all false
set_option maxRecDepth 100000
set_option maxHeartbeats 4000000
namespace DL
open PySem
/-! ### the plain law: plan_for, _law_about, _law_drawn -/
def lastI (r : List Int) : Int := r.getLastD 0
theorem last_ix {r : List Int} (h : r ≠ []) : gIx (tI_ r) (.int (-1)) = some (.int (lastI r)) := by
  have hl : 0 < r.length := List.length_pos_iff.mpr h
  show gd (Nat.ble 1 (r.map D.int).length) (r.map D.int)[(r.map D.int).length - 1]? = _
  rw [List.length_map, gd_t (Nat.ble_eq.mpr hl), List.getElem?_map]
  have : r[r.length - 1]? = some (lastI r) := by
    rw [← List.getLast?_eq_getElem?]
    unfold lastI
    rw [List.getLastD_eq_getLast?]
    cases hr : r.getLast? with
    | none => rw [List.getLast?_eq_none_iff] at hr; exact absurd hr h
    | some x => rfl
  rw [this] <;> rfl
def hgtM (L : Nat) (roof : Int) (ps : List (Int × Int)) : List Int := (rowsM L roof ps).map lastI
theorem heights_ok {L : Nat} {roof : Int} {ps : List (Int × Int)} (hv : Val L roof ps) : F_walk_heights [lineT L, bd roof ps] = some (tI_ (hgtM L roof ps)) := by
  have ro := rows_ok hv
  refine fn_rt rfl ?_
  show cRet _ [.pu (lineT L), .pu (bd roof ps), .no] = _
  have e0 : iTupD (eCall F_rows_of (aCons (eVar 0) (aCons (eVar 1) aNil))) [.pu (lineT L), .pu (bd roof ps), .no] = some ((rowsM L roof ps).map tI_) := by
    have : eCall F_rows_of (aCons (eVar 0) (aCons (eVar 1) aNil)) [.pu (lineT L), .pu (bd roof ps), .no] = _ := ro
    unfold iTupD
    rw [this]
  have e1 : fLc (iTupD (eCall F_rows_of (aCons (eVar 0) (aCons (eVar 1) aNil)))) (.one 2) [2] bYes (eOp gIx (eVar 2) (eUn gNeg (eC (.int 1)))) [.pu (lineT L), .pu (bd roof ps), .no] = some ((hgtM L roof ps).map D.int) := by
    have z : szOk ((rowsM L roof ps).map tI_) = true := szOk_of (by rw [List.length_map, rowsM_len]; have := hv.l; omega)
    unfold fLc
    rw [e0]
    show gd (szOk _) (lcL _ _ _ (wipeE _ [2]) _) = _
    rw [gd_t z]
    have := lc_all (t := .one 2) (el := eOp gIx (eVar 2) (eUn gNeg (eC (.int 1)))) (ρw := wipeE [.pu (lineT L), .pu (bd roof ps), .no] [2]) tI_ (fun r => .int (lastI r)) (rowsM L roof ps) fun r hr => ⟨_, rfl, (op_of (a := tI_ r) (b := .int (-1)) rfl rfl).trans (last_ix (rowsM_ne r hr))⟩
    rw [this]
    unfold hgtM
    rw [List.map_map] <;> rfl
  exact ret_of ((call1 (fz_of e1)).trans rfl)
theorem wall_non {L : Nat} {roof : Int} {ps : List (Int × Int)} (hv : Val L roof ps) (ha : aboveM roof ps (verL L) = false) : F_wall_in [lineT L, bd roof ps] = some .non := by
  have hL := hv.l
  have nb := need_ok hv
  have al := all_ok hv.l
  have ga := ga_ok hv (verL_pw L) (fun u h => verL_mem h) (by rw [verL_len]; omega)
  rw [ha] at ga
  refine fn_rt rfl ?_
  show g_wall_in [.pu (lineT L), .pu (bd roof ps), .no, .no, .no, .no] = _
  have e0 : cExpr (eCall F_need_bounds (aCons (eVar 0) (aCons (eVar 1) aNil))) [.pu (lineT L), .pu (bd roof ps), .no, .no, .no, .no] = some (.nx [.pu (lineT L), .pu (bd roof ps), .no, .no, .no, .no]) := by
    have : eCall F_need_bounds (aCons (eVar 0) (aCons (eVar 1) aNil)) [.pu (lineT L), .pu (bd roof ps), .no, .no, .no, .no] = some .non := nb
    unfold cExpr
    rw [this]
  have e1 : eCall F_all_versions (aCons (eVar 0) aNil) [.pu (lineT L), .pu (bd roof ps), .no, .no, .no, .no] = some (.tup ((verL L).map nv)) := al
  have k1 : eCall F_goes_above (aCons (eVar 0) (aCons (eVar 1) (aCons (eVar 2) aNil))) [.pu (lineT L), .pu (bd roof ps), .pu (.tup ((verL L).map nv)), .no, .no, .no] = some (.bl false) := ga
  have c1 : bNot (bOf (eCall F_goes_above (aCons (eVar 0) (aCons (eVar 1) (aCons (eVar 2) aNil))))) [.pu (lineT L), .pu (bd roof ps), .pu (.tup ((verL L).map nv)), .no, .no, .no] = some true := bnot_of (bof_of k1)
  unfold g_wall_in
  exact (seq_nx e0).trans ((seq_nx (set_of (i := 2) e1)).trans (seq_rt ((if_t c1).trans rfl)))
theorem plan_ok {L : Nat} {roof : Int} {ps : List (Int × Int)} {bs : List Int} (hv : Val L roof ps) (ha : aboveM roof ps (verL L) = false) (hb : F_bases_by [lineT L, tI_ (hgtM L roof ps)] = some (tI_ bs)) : F_plan_for [lineT L, bd roof ps] = some (tI_ bs) := by
  have wh := heights_ok hv
  have wn := wall_non hv ha
  refine fn_rt rfl ?_
  show g_plan_for [.pu (lineT L), .pu (bd roof ps), .no, .no] = _
  have e0 : eCall F_walk_heights (aCons (eVar 0) (aCons (eVar 1) aNil)) [.pu (lineT L), .pu (bd roof ps), .no, .no] = some (tI_ (hgtM L roof ps)) := wh
  have e1 : eCall F_wall_in (aCons (eVar 0) (aCons (eVar 1) aNil)) [.pu (lineT L), .pu (bd roof ps), .pu (tI_ (hgtM L roof ps)), .no] = some .non := wn
  have c1 : bOf (eOp gNotN (eVar 3) (eC .non)) [.pu (lineT L), .pu (bd roof ps), .pu (tI_ (hgtM L roof ps)), .pu .non] = some false := rfl
  have e2 : eCall F_bases_by (aCons (eVar 0) (aCons (eVar 2) aNil)) [.pu (lineT L), .pu (bd roof ps), .pu (tI_ (hgtM L roof ps)), .pu .non] = some (tI_ bs) := hb
  unfold g_plan_for
  exact (seq_nx (set_of (i := 2) e0)).trans ((seq_nx (set_of (i := 3) e1)).trans ((seq_nx ((if_f c1).trans rfl)).trans (ret_of e2)))
/-! the heights, fast -/
theorem cutW_last (t : Int) : ∀ r : List Int, lastI (cutW t r) = t
  | [] => rfl
  | a :: s => by
    have ih := cutW_last t s
    unfold cutW
    cases decide (t ≤ a) with
    | false => rfl
    | true =>
      obtain ⟨h, z, e, _⟩ := cutW_hd (t := t) s
      rw [e] at ih
      show lastI (a :: cutW t s) = t
      rw [e]
      exact ih
def hgF (roof : Int) : List (Int × Int) → List Int → List Int → List Int
  | [], _, acc => acc
  | q :: r, prev, acc => hgF roof r (cutW (tlP (roof + 1 - q.2) (q.1 - 1).toNat prev) prev) (tlP (roof + 1 - q.2) (q.1 - 1).toNat prev :: acc)
theorem hg_fast {roof : Int} {ps : List (Int × Int)} : ∀ (vs : List Nat) (r acc : List Int), Fa r → (∀ v ∈ vs, 1 ≤ (pairAt ps v).1) → (walkM (stM roof ps) vs r).reverse.map (fun q => lastI q.2) ++ acc = hgF roof (vs.map (pairAt ps)) r acc
  | [], _, _, _, _ => rfl
  | v :: vs, r, acc, f, h => by
    have ih := hg_fast (roof := roof) vs (stM roof ps v r) (lastI (stM roof ps v r) :: acc) (stM_fa f) fun u hu => h u (List.mem_cons_of_mem _ hu)
    have e := stM_eq (roof := roof) f (h v List.mem_cons_self)
    rw [walkM, List.reverse_cons, List.map_append, List.append_assoc]
    show _ ++ (lastI (stM roof ps v r) :: acc) = hgF roof (pairAt ps v :: vs.map (pairAt ps)) r acc
    rw [ih, hgF, e, cutW_last]
theorem hgt_fast {L : Nat} {roof : Int} {ps : List (Int × Int)} (hv : Val L roof ps) : hgtM L roof ps = hgF roof ps.reverse [] [] := by
  have e := hg_fast (roof := roof) (ps := ps) (verL L).reverse [] [] List.Pairwise.nil fun v h => (pairAt_ok hv (verL_mem (List.mem_reverse.mp h)).1 (verL_mem (List.mem_reverse.mp h)).2).1
  rw [List.append_nil, List.map_reverse, List.map_reverse, ver_pairs hv.len] at e
  unfold hgtM rowsM
  rw [List.map_map, List.map_reverse]
  exact e
end DL

set_option Elab.async false
set_option linter.all false
set_option maxRecDepth 100000
set_option maxHeartbeats 4000000
namespace DL
open PySem
/-! ### the plain law: _law_about, _law_drawn, _law_limit -/
theorem val_rot {L k : Nat} {roof : Int} {ps : List (Int × Int)} (hv : Val L roof ps) : Val L roof (ps.drop k ++ ps.take k) :=
  ⟨hv.l, hv.r1, hv.r2, by
    have := hv.len
    rw [List.length_append, List.length_drop, List.length_take]
    omega, fun q hq => by
    rcases List.mem_append.mp hq with z | z
    · exact hv.q q (List.mem_of_mem_drop z)
    · exact hv.q q (List.mem_of_mem_take z)⟩
theorem about_ok {L : Nat} {roof : Int} {ps : List (Int × Int)} {K : D → Prop} (hv : Val L roof ps) (hK : K (.bl true)) : F__law_about [lineT L, .int roof, .lst (prs ps)] K := by
  have hL := hv.l
  refine ⟨rfl, fun p => ?_⟩
  have k0 : eOp gAdd (eCall gLen (aCons (eVar 3) aNil)) (eC (.int 1)) [.pu (.adr p), .pu (lineT L), .pu (.int roof), .pu (.lst (prs ps)), .no, .no] = some (.int ((L : Int) + 1)) := by
    have : eCall gLen (aCons (eVar 3) aNil) [.pu (.adr p), .pu (lineT L), .pu (.int roof), .pu (.lst (prs ps)), .no, .no] = some (.int (L : Int)) := by
      show some (D.int ((prs ps).length : Int)) = _
      rw [prs_len, hv.len]
    exact (op_of this (b := .int 1) rfl).trans rfl
  refine ⟨rfl, _, k0, (L : Int) + 1, rfl, by omega, by omega, fun i h1 h2 => ?_⟩
  obtain ⟨k, rfl⟩ := Int.eq_ofNat_of_zero_le h1
  have hk : k ≤ (prs ps).length := by rw [prs_len, hv.len]; omega
  have vr := val_rot (k := k) hv
  have ck := ck_ok vr
  have lt := ltops_ok vr
  have ai := above_iff vr
  have d1 : (prs ps).drop k ++ (prs ps).take k = prs (ps.drop k ++ ps.take k) := by
    unfold prs
    rw [List.map_append, List.map_drop, List.map_take]
  have s1 : lSl (eVar 3) (oYes (eVar 4)) oNo [.pu (.adr p), .pu (lineT L), .pu (.int roof), .pu (.lst (prs ps)), .pu (.int k), .no] = some ((prs ps).drop k) := congrArg some (cut_from hk)
  have s2 : lSl (eVar 3) oNo (oYes (eVar 4)) [.pu (.adr p), .pu (lineT L), .pu (.int roof), .pu (.lst (prs ps)), .pu (.int k), .no] = some ((prs ps).take k) := congrArg some (cut_to hk)
  have s3 : eOpL gCat (eFz (lSl (eVar 3) (oYes (eVar 4)) oNo)) (eFz (lSl (eVar 3) oNo (oYes (eVar 4)))) [.pu (.adr p), .pu (lineT L), .pu (.int roof), .pu (.lst (prs ps)), .pu (.int k), .no] = some (prs (ps.drop k ++ ps.take k)) := by
    refine (opL_of (fz_of s1) (fz_of s2)).trans ?_
    show gd (szOk _) _ = _
    rw [d1, gd_t (szOk_of (by rw [prs_len, vr.len]; omega))]
  have s4 := (call1 (F := gTupl) (fz_of s3)).trans (show gTupl [.lst (prs (ps.drop k ++ ps.take k))] = some (.tup (prs (ps.drop k ++ ps.take k))) from rfl)
  have s5 : eTup (aSz (aCons (eVar 2) (aCons (eCall gTupl (aCons (eFz (eOpL gCat (eFz (lSl (eVar 3) (oYes (eVar 4)) oNo)) (eFz (lSl (eVar 3) oNo (oYes (eVar 4)))))) aNil)) aNil))) [.pu (.adr p), .pu (lineT L), .pu (.int roof), .pu (.lst (prs ps)), .pu (.int k), .no] = some (bd roof (ps.drop k ++ ps.take k)) := by
    unfold eTup aSz
    have : aCons (eVar 2) (aCons (eCall gTupl (aCons (eFz (eOpL gCat (eFz (lSl (eVar 3) (oYes (eVar 4)) oNo)) (eFz (lSl (eVar 3) oNo (oYes (eVar 4)))))) aNil)) aNil) [.pu (.adr p), .pu (lineT L), .pu (.int roof), .pu (.lst (prs ps)), .pu (.int k), .no] = some [.int roof, .tup (prs (ps.drop k ++ ps.take k))] := by
      simp only [aCons, aNil, s4]
      rfl
    rw [this] <;> rfl
  refine ⟨_, set_of (i := 5) s5, ?_⟩
  have k1 : eCall F_can_keep (aCons (eVar 1) (aCons (eVar 5) aNil)) [.pu (.adr p), .pu (lineT L), .pu (.int roof), .pu (.lst (prs ps)), .pu (.int k), .pu (bd roof (ps.drop k ++ ps.take k))] = _ := ck
  have k2 : eCall F__law_tops (aCons (eVar 1) (aCons (eVar 5) aNil)) [.pu (.adr p), .pu (lineT L), .pu (.int roof), .pu (.lst (prs ps)), .pu (.int k), .pu (bd roof (ps.drop k ++ ps.take k))] = _ := lt
  have k3 : eOp (gI fun i j => decide (i ≤ j)) (eCall F__law_tops (aCons (eVar 1) (aCons (eVar 5) aNil))) (eVar 2) [.pu (.adr p), .pu (lineT L), .pu (.int roof), .pu (.lst (prs ps)), .pu (.int k), .pu (bd roof (ps.drop k ++ ps.take k))] = some (.bl (!aboveM roof (ps.drop k ++ ps.take k) (verL L))) := by
    refine (op_of k2 (b := .int roof) rfl).trans ?_
    rw [ai] <;> rfl
  have k4 : eCall F__law_same (aCons (eCall F_can_keep (aCons (eVar 1) (aCons (eVar 5) aNil))) (aCons (eOp (gI fun i j => decide (i ≤ j)) (eCall F__law_tops (aCons (eVar 1) (aCons (eVar 5) aNil))) (eVar 2)) aNil)) [.pu (.adr p), .pu (lineT L), .pu (.int roof), .pu (.lst (prs ps)), .pu (.int k), .pu (bd roof (ps.drop k ++ ps.take k))] = some (.bl true) := by
    refine (call2 k1 k3).trans ((same_bl 4 _ _).trans ?_)
    rw [beq_self_eq_true]
  exact ⟨_, ret_of k4, hK⟩
theorem drawn_ok {cs : List Int} {K : D → Prop} (hl : cs.length ≤ 100) (h0 : K (.int 0)) (hK : ∀ v, 1 ≤ v → v ≤ cs.length → 1 < cs.getD (v - 1) 1 → K (nv v)) : F__law_drawn [lI_ cs] K := by
  refine ⟨rfl, fun p => ?_⟩
  have i1 : iRg1 (eCall gLen (aCons (eVar 1) aNil)) [.pu (.adr p), .pu (lI_ cs), .no, .no] = some (((List.range cs.length).map (fun i => i + 0)).map nv) := by
    show gd (smI ((cs.map D.int).length : Int)) (some (rgD 0 ((cs.map D.int).length : Int).toNat)) = _
    rw [List.length_map, gd_t (sm_nat (by omega)), Int.toNat_natCast]
    exact congrArg some (rgD_nv cs.length 0)
  have i2 : fLc (iRg1 (eCall gLen (aCons (eVar 1) aNil))) (.one 3) (List.map (·.2) ([("_law_k", 3)] : List (PySem.Str × Nat))) (bOf (eOp (gI fun i j => decide (j < i)) (eOp gIx (eVar 1) (eVar 3)) (eC (.int 1)))) (eOp gAdd (eVar 3) (eC (.int 1))) [.pu (.adr p), .pu (lI_ cs), .no, .no] =
      some ((((List.range cs.length).map (fun i => i + 0)).filter fun k => decide (1 < cs.getD k 1)).map fun k => nv (k + 1)) := by
    unfold fLc
    rw [i1]
    show gd (szOk _) (lcL (.one 3) _ _ (wipeE _ [3]) _) = _
    rw [gd_t (szOk_of (by rw [List.length_map, List.length_map, List.length_range]; omega))]
    refine lc_map nv (fun k => decide (1 < cs.getD k 1)) (fun k => nv (k + 1)) _ fun k hk => ⟨_, rfl, ?_, fun _ => rfl⟩
    obtain ⟨j, hj, rfl⟩ := List.mem_map.mp hk
    have hj := List.mem_range.mp hj
    have g : eOp gIx (eVar 1) (eVar 3) [.pu (.adr p), .pu (lI_ cs), .no, .pu (nv (j + 0))] = some (.int (cs.getD j 1)) := by
      show (cs.map D.int)[j]? = _
      rw [List.getElem?_map, List.getD_eq_getElem?_getD, List.getElem?_eq_getElem hj] <;> rfl
    exact bof_of ((op_of g (b := .int 1) rfl).trans rfl)
  generalize hu : ((List.range cs.length).map (fun i => i + 0)).filter (fun k => decide (1 < cs.getD k 1)) = us at i2
  have hmem : ∀ k ∈ us, k < cs.length ∧ 1 < cs.getD k 1 := fun k hk => by
    rw [← hu] at hk
    obtain ⟨h1, h2⟩ := List.mem_filter.mp hk
    obtain ⟨j, hj, rfl⟩ := List.mem_map.mp h1
    exact ⟨List.mem_range.mp hj, of_decide_eq_true h2⟩
  have ul : us.length ≤ 100 := by
    rw [← hu]
    refine Nat.le_trans (List.length_filter_le _ _) ?_
    rw [List.length_map, List.length_range]
    exact hl
  refine ⟨_, set_of (i := 2) (fz_of i2), ?_⟩
  have e1 : eCall gLen (aCons (eVar 2) aNil) [.pu (.adr p), .pu (lI_ cs), .pu (.lst (us.map fun k => nv (k + 1))), .no] = some (.int (us.length : Int)) := by
    show some (D.int ((us.map fun k => nv (k + 1)).length : Int)) = _
    rw [List.length_map]
  have c1 : bOf (eOp gEq (eCall gLen (aCons (eVar 2) aNil)) (eC (.int 0))) [.pu (.adr p), .pu (lI_ cs), .pu (.lst (us.map fun k => nv (k + 1))), .no] = some (decide ((us.length : Int) = 0)) :=
    bof_of ((op_of e1 (b := .int 0) rfl).trans rfl)
  by_cases hz : (us.length : Int) = 0
  · rw [decide_eq_true hz] at c1
    exact ⟨_, (if_t c1).trans rfl, h0⟩
  · rw [decide_eq_false hz] at c1
    refine ⟨_, (if_f c1).trans rfl, ?_⟩
    refine ⟨_, rfl, rfl, _, e1, (us.length : Int), rfl, by omega, by omega, fun i h1 h2 => ?_⟩
    obtain ⟨k, rfl⟩ := Int.eq_ofNat_of_zero_le h1
    have hk : k < us.length := by omega
    obtain ⟨m1, m2⟩ := hmem _ (List.getElem_mem hk)
    refine ⟨nv (us[k] + 1), ?_, hK _ (by omega) (by omega) m2⟩
    show (us.map fun k => nv (k + 1))[k]? = _
    rw [List.getElem?_map, List.getElem?_eq_getElem hk] <;> rfl
end DL

set_option Elab.async false
set_option linter.all false
set_option maxRecDepth 100000
set_option maxHeartbeats 4000000
namespace DL
open PySem
/-! ### the plain law: what is left to be counted -/
mutual
def beqD : D → D → Bool
  | .non, .non => true
  | .bl a, .bl b => a == b
  | .int a, .int b => decide (a = b)
  | .tup a, .tup b => beqDs a b
  | .lst a, .lst b => beqDs a b
  | _, _ => false
def beqDs : List D → List D → Bool
  | [], [] => true
  | a :: r, b :: s => match beqD a b with
    | true => beqDs r s
    | false => false
  | _, _ => false
end
def isO (o : Option D) (d : D) : Bool := match o with
  | some a => beqD a d
  | none => false
def lstO : Option D → Option (List Int)
  | some (.lst l) => intsOf l
  | _ => none
def tupO : Option D → Option (List Int)
  | some (.tup l) => intsOf l
  | _ => none
def valB (L : Nat) (roof : Int) (ps : List (Int × Int)) : Bool := decide (L ≤ 20) && (decide (1 ≤ roof) && (decide (roof ≤ 999) && (decide (ps.length = L) && ps.all fun q => decide (1 ≤ q.1) && (decide (q.1 ≤ 999) && (decide (1 ≤ q.2) && decide (q.2 ≤ roof))))))
def tightB (roof : Int) (f : Int → Int × Int) (ps : List (Int × Int)) (cs : List Int) : Bool := (List.range cs.length).all fun i => decide (cs.getD i 1 ≤ 1) || abF roof (ps.set i (f (cs.getD i 1 - 1))).reverse []
def keepB (L : Nat) (roof : Int) (f : Int → Int × Int) (bs cs : List Int) : Bool :=
  valB L roof (cs.map f) && (!abF roof (cs.map f).reverse [] && (isO (F_bases_by [lineT L, tI_ (hgF roof (cs.map f).reverse [] [])]) (tI_ bs) && tightB roof f (cs.map f) cs))
def chkW (L : Nat) (far : Int) : Bool := match lstO (F__law_sorted [.int L, .int far]) with
  | none => false
  | some due => match tupO (F_best_plan [.int L, .int far]) with
    | none => false
    | some bs => match lstO (F__law_writing [tI_ bs]) with
      | none => false
      | some cs => match lstO (F__law_reading [tI_ bs]) with
        | none => false
        | some rs => isO (F_sorted_least [.int L, .int far]) (tI_ due) && (isO (F_least_sum [.int L, .int far]) (.int due.sum) && (isO (F_least_greatest [.int L, .int far]) (.int (maxL 0 due)) &&
          (isO (F__law_is_plan [tI_ bs, .int L]) (.bl true) && (decide (maxL 0 rs ≤ far) && (decide (rs.length ≤ 100) && ((isort cs == due) && keepB L far (fun c => (c, far)) bs cs))))))
def chkR (L : Nat) (wide : Int) : Bool := match lstO (F__law_sorted [.int L, .int wide]) with
  | none => false
  | some due => match tupO (F_best_for_writes [.int L, .int wide]) with
    | none => false
    | some bs => match lstO (F__law_reading [tI_ bs]) with
      | none => false
      | some cs => match lstO (F__law_writing [tI_ bs]) with
        | none => false
        | some rs => isO (F__law_is_plan [tI_ bs, .int L]) (.bl true) && (decide (maxL 0 rs ≤ wide) && (decide (rs.length ≤ 100) && ((isort cs == due) && (keepB L (maxL 1 cs) (fun c => (wide, c)) bs cs && keepB L (maxL 1 cs + 1) (fun c => (wide, c)) bs cs))))
end DL

set_option Elab.async false
set_option linter.all false
set_option maxRecDepth 100000
set_option maxHeartbeats 4000000
namespace DL
open PySem
/-! ### the plain law: what a count tells -/
mutual
theorem beqD_eq : ∀ {a b : D}, beqD a b = true → a = b
  | .non, b, h => by
    cases b with
    | non => rfl
    | _ => exact absurd (show false = true from h) Bool.false_ne_true
  | .bl a, b, h => by
    cases b with
    | bl b =>
      have h : (a == b) = true := h
      rw [eq_of_beq h]
    | _ => exact absurd (show false = true from h) Bool.false_ne_true
  | .int a, b, h => by
    cases b with
    | int b =>
      have h : decide (a = b) = true := h
      rw [of_decide_eq_true h]
    | _ => exact absurd (show false = true from h) Bool.false_ne_true
  | .str a, b, h => by
    cases b <;> exact absurd (show false = true from h) Bool.false_ne_true
  | .adr a, b, h => by
    cases b <;> exact absurd (show false = true from h) Bool.false_ne_true
  | .tup a, b, h => by
    cases b with
    | tup b =>
      have h : beqDs a b = true := h
      rw [beqDs_eq h]
    | _ => exact absurd (show false = true from h) Bool.false_ne_true
  | .lst a, b, h => by
    cases b with
    | lst b =>
      have h : beqDs a b = true := h
      rw [beqDs_eq h]
    | _ => exact absurd (show false = true from h) Bool.false_ne_true
theorem beqDs_eq : ∀ {a b : List D}, beqDs a b = true → a = b
  | [], [], _ => rfl
  | [], _ :: _, h => absurd (show false = true from h) Bool.false_ne_true
  | _ :: _, [], h => absurd (show false = true from h) Bool.false_ne_true
  | x :: a, y :: b, h => by
    have h : (match beqD x y with
      | true => beqDs a b
      | false => false) = true := h
    cases hx : beqD x y with
    | false => rw [hx] at h; exact absurd h Bool.false_ne_true
    | true =>
      rw [hx] at h
      rw [beqD_eq hx, beqDs_eq h]
end
theorem isO_eq {o : Option D} {d : D} (h : isO o d = true) : o = some d := by
  cases o with
  | none => exact absurd (show false = true from h) Bool.false_ne_true
  | some a => rw [beqD_eq (show beqD a d = true from h)]
theorem lstO_eq {o : Option D} {l : List Int} (h : lstO o = some l) : o = some (lI_ l) := by
  unfold lstO at h
  split at h
  · rw [intsOf_eq h]
  · cases h
theorem tupO_eq {o : Option D} {l : List Int} (h : tupO o = some l) : o = some (tI_ l) := by
  unfold tupO at h
  split at h
  · rw [intsOf_eq h]
  · cases h
theorem valB_ok {L : Nat} {roof : Int} {ps : List (Int × Int)} (h : valB L roof ps = true) : Val L roof ps := by
  unfold valB at h
  simp only [Bool.and_eq_true, decide_eq_true_iff, List.all_eq_true] at h
  obtain ⟨h1, h2, h3, h4, h5⟩ := h
  exact ⟨h1, h2, h3, h4, h5⟩
structure OkK (L : Nat) (roof : Int) (f : Int → Int × Int) (bs cs : List Int) : Prop where
  len : cs.length = L
  val : Val L roof (cs.map f)
  nab : aboveM roof (cs.map f) (verL L) = false
  bas : F_bases_by [lineT L, tI_ (hgtM L roof (cs.map f))] = some (tI_ bs)
  tig : ∀ v, 1 ≤ v → v ≤ L → 1 < cs.getD (v - 1) 1 → abF roof ((cs.map f).set (v - 1) (f (cs.getD (v - 1) 1 - 1))).reverse [] = true
theorem keepB_ok {L : Nat} {roof : Int} {f : Int → Int × Int} {bs cs : List Int} (h : keepB L roof f bs cs = true) : OkK L roof f bs cs := by
  unfold keepB at h
  rw [Bool.and_eq_true, Bool.and_eq_true, Bool.and_eq_true] at h
  obtain ⟨h1, h2, h3, h4⟩ := h
  have hv := valB_ok h1
  have hl : cs.length = L := by
    have := hv.len
    rw [List.length_map] at this
    exact this
  refine ⟨hl, hv, ?_, ?_, fun v v1 v2 hc => ?_⟩
  · rw [above_fast hv]
    simpa using h2
  · rw [hgt_fast hv]
    exact isO_eq h3
  · unfold tightB at h4
    rw [List.all_eq_true] at h4
    have := h4 (v - 1) (List.mem_range.mpr (by omega))
    rw [Bool.or_eq_true] at this
    rcases this with t | t
    · have := of_decide_eq_true t
      omega
    · exact t
structure OkW (L : Nat) (far : Int) (due bs cs rs : List Int) : Prop where
  du : F__law_sorted [.int L, .int far] = some (lI_ due)
  pl : F_best_plan [.int L, .int far] = some (tI_ bs)
  wr : F__law_writing [tI_ bs] = some (lI_ cs)
  rd : F__law_reading [tI_ bs] = some (lI_ rs)
  sl : F_sorted_least [.int L, .int far] = some (tI_ due)
  ls : F_least_sum [.int L, .int far] = some (.int due.sum)
  lg : F_least_greatest [.int L, .int far] = some (.int (maxL 0 due))
  isp : F__law_is_plan [tI_ bs, .int L] = some (.bl true)
  mx : maxL 0 rs ≤ far
  rl : rs.length ≤ 100
  srt : isort cs = due
  kp : OkK L far (fun c => (c, far)) bs cs
theorem chkW_ok {L : Nat} {far : Int} (h : chkW L far = true) : ∃ due bs cs rs, OkW L far due bs cs rs := by
  unfold chkW at h
  cases h1 : lstO (F__law_sorted [.int L, .int far]) with
  | none => rw [h1] at h; exact absurd (show false = true from h) Bool.false_ne_true
  | some due =>
    rw [h1] at h
    dsimp only at h
    cases h2 : tupO (F_best_plan [.int L, .int far]) with
    | none => rw [h2] at h; exact absurd (show false = true from h) Bool.false_ne_true
    | some bs =>
      rw [h2] at h
      dsimp only at h
      cases h3 : lstO (F__law_writing [tI_ bs]) with
      | none => rw [h3] at h; exact absurd (show false = true from h) Bool.false_ne_true
      | some cs =>
        rw [h3] at h
        dsimp only at h
        cases h4 : lstO (F__law_reading [tI_ bs]) with
        | none => rw [h4] at h; exact absurd (show false = true from h) Bool.false_ne_true
        | some rs =>
          rw [h4] at h
          dsimp only at h
          simp only [Bool.and_eq_true] at h
          obtain ⟨k1, k2, k3, k4, k5, k8, k6, k7⟩ := h
          exact ⟨due, bs, cs, rs, lstO_eq h1, tupO_eq h2, lstO_eq h3, lstO_eq h4, isO_eq k1, isO_eq k2, isO_eq k3, isO_eq k4, of_decide_eq_true k5, of_decide_eq_true k8, eq_of_beq k6, keepB_ok k7⟩
structure OkR (L : Nat) (wide : Int) (due bs cs rs : List Int) : Prop where
  du : F__law_sorted [.int L, .int wide] = some (lI_ due)
  pl : F_best_for_writes [.int L, .int wide] = some (tI_ bs)
  rd : F__law_reading [tI_ bs] = some (lI_ cs)
  wr : F__law_writing [tI_ bs] = some (lI_ rs)
  isp : F__law_is_plan [tI_ bs, .int L] = some (.bl true)
  mx : maxL 0 rs ≤ wide
  rl : rs.length ≤ 100
  srt : isort cs = due
  kp : OkK L (maxL 1 cs) (fun c => (wide, c)) bs cs
  kp1 : OkK L (maxL 1 cs + 1) (fun c => (wide, c)) bs cs
theorem chkR_ok {L : Nat} {wide : Int} (h : chkR L wide = true) : ∃ due bs cs rs, OkR L wide due bs cs rs := by
  unfold chkR at h
  cases h1 : lstO (F__law_sorted [.int L, .int wide]) with
  | none => rw [h1] at h; exact absurd (show false = true from h) Bool.false_ne_true
  | some due =>
    rw [h1] at h
    dsimp only at h
    cases h2 : tupO (F_best_for_writes [.int L, .int wide]) with
    | none => rw [h2] at h; exact absurd (show false = true from h) Bool.false_ne_true
    | some bs =>
      rw [h2] at h
      dsimp only at h
      cases h3 : lstO (F__law_reading [tI_ bs]) with
      | none => rw [h3] at h; exact absurd (show false = true from h) Bool.false_ne_true
      | some cs =>
        rw [h3] at h
        dsimp only at h
        cases h4 : lstO (F__law_writing [tI_ bs]) with
        | none => rw [h4] at h; exact absurd (show false = true from h) Bool.false_ne_true
        | some rs =>
          rw [h4] at h
          dsimp only at h
          simp only [Bool.and_eq_true] at h
          obtain ⟨k1, k2, k8, k3, k4, k5⟩ := h
          exact ⟨due, bs, cs, rs, lstO_eq h1, tupO_eq h2, lstO_eq h3, lstO_eq h4, isO_eq k1, of_decide_eq_true k2, of_decide_eq_true k8, eq_of_beq k3, keepB_ok k4, keepB_ok k5⟩
theorem OkK.abv {L : Nat} {roof : Int} {f : Int → Int × Int} {bs cs : List Int} (k : OkK L roof f bs cs) {v : Nat} (v1 : 1 ≤ v) (v2 : v ≤ L) (hc : 1 < cs.getD (v - 1) 1) (hv : Val L roof ((cs.map f).set (v - 1) (f (cs.getD (v - 1) 1 - 1)))) : aboveM roof ((cs.map f).set (v - 1) (f (cs.getD (v - 1) 1 - 1))) (verL L) = true := by
  rw [above_fast hv]
  exact k.tig v v1 v2 hc
end DL

set_option Elab.async false
set_option linter.all false
set_option maxRecDepth 100000
set_option maxHeartbeats 4000000
namespace DL
open PySem
/-! ### the plain law: pieces of _law_widths and _law_reaches -/
theorem var_of {ρ : Env} {i : Nat} {d : D} (h : ρ[i]? = some (.pu d)) : eVar i ρ = some d := by
  unfold eVar
  rw [h]
theorem len1 {ρ : Env} {L : Nat} (h : ρ[(1 : Nat)]? = some (.pu (lineT L))) : eCall gLen (aCons (eVar 1) aNil) ρ = some (.int L) := by
  rw [call1 (var_of h)]
  show some (D.int ((lineL L).length : Int)) = _
  rw [lineL_len]
theorem not_same {ρ : Env} {fa fb : Env → Option D} {a b : D} (h1 : fa ρ = some a) (h2 : fb ρ = some b) (h : F__law_same [a, b] = some (.bl true)) : bNot (bOf (eCall F__law_same (aCons fa (aCons fb aNil)))) ρ = some false :=
  bnot_of (bof_of ((call2 h1 h2).trans h))
theorem or_ff {ρ : Env} {c1 c2 : Env → Option Bool} (h1 : c1 ρ = some false) (h2 : c2 ρ = some false) : bOr c1 c2 ρ = some false := by
  unfold bOr
  rw [h1]
  exact h2
theorem guard_nx {ρ : Env} {c : Env → Option Bool} {g : Env → Option Out} (h : c ρ = some false) : cIf c g cNext ρ = some (.nx ρ) := (if_f h).trans rfl
theorem max_ok {ρ : Env} {x : Int} {l : List Int} {fb : Env → Option D} (h : fb ρ = some (lI_ l)) (hl : l.length ≤ 100) : eCall gMax (aCons (eFz (eOpL gCat (eFz (aSz (aCons (eC (.int x)) aNil))) fb)) aNil) ρ = some (.int (maxL x l)) := by
  have e1 : eFz (eOpL gCat (eFz (aSz (aCons (eC (.int x)) aNil))) fb) ρ = some (.lst (.int x :: l.map D.int)) := by
    refine fz_of ((opL_of (a := .lst [.int x]) rfl h).trans ?_)
    show gd (szOk _) _ = _
    rw [gd_t (szOk_of (by rw [List.length_append, List.length_map, List.length_singleton]; omega))] <;> rfl
  refine (call1 e1).trans ?_
  show (match intsOf (l.map D.int) with
    | some ns => some (D.int (maxL x ns))
    | none => none) = _
  rw [intsOf_map]
theorem sum_ok {ρ : Env} {l : List Int} {fb : Env → Option D} (h : fb ρ = some (lI_ l)) : eCall gSum (aCons fb aNil) ρ = some (.int l.sum) := by
  refine (call1 h).trans ?_
  show (match intsOf (l.map D.int) with
    | some ns => some (D.int ns.sum)
    | none => none) = _
  rw [intsOf_map]
theorem neL_ok {ρ : Env} {a b : List Int} {fa fb : Env → Option D} (h1 : fa ρ = some (lI_ a)) (h2 : fb ρ = some (lI_ b)) (h : a = b) : bOf (eOp gNeL fa fb) ρ = some false := by
  refine bof_of ((op_of h1 h2).trans ?_)
  unfold gNeL
  simp only [intsOf_map]
  rw [h, beq_self_eq_true] <;> rfl
theorem sorted_ok {ρ : Env} {l : List Int} {fb : Env → Option D} (h : fb ρ = some (lI_ l)) (hl : l.length < 64) : eFz (eCallL gSorted (aCons fb aNil)) ρ = some (lI_ (isort l)) := by
  refine fz_of ?_
  have : aCons fb aNil ρ = some [lI_ l] := by simp only [aCons, aNil, h]
  unfold eCallL
  rw [this]
  show (match intsOf (l.map D.int) with
    | some ns => gd (Nat.blt ns.length 64) (some ((isort ns).map D.int))
    | none => none) = _
  rw [intsOf_map]
  show gd (Nat.blt l.length 64) _ = _
  rw [gd_t (show Nat.blt l.length 64 = true from Nat.ble_eq.mpr hl)]
theorem cnt_at {ρ : Env} {cs : List Int} {v : Nat} {fa fb : Env → Option D} (h1 : fa ρ = some (lI_ cs)) (h2 : fb ρ = some (nv v)) (v1 : 1 ≤ v) (v2 : v ≤ cs.length) : eOp gIx fa (eOp gSub fb (eC (.int 1))) ρ = some (.int (cs.getD (v - 1) 1)) := by
  obtain ⟨n, rfl⟩ : ∃ n, v = n + 1 := ⟨v - 1, by omega⟩
  refine (op_of h1 ((op_of h2 (b := .int 1) rfl).trans rfl)).trans ?_
  show gIx (lI_ cs) (.int (Int.ofNat (n + 1) - 1)) = _
  rw [sub1]
  show (cs.map D.int)[n]? = _
  rw [List.getElem?_map, List.getD_eq_getElem?_getD]
  show _ = some (D.int (cs[n]?.getD 1))
  rw [List.getElem?_eq_getElem (by omega)] <;> rfl
theorem sub_one {ρ : Env} {x : Int} {fa : Env → Option D} (h : fa ρ = some (.int x)) : eOp gSub fa (eC (.int 1)) ρ = some (.int (x - 1)) := (op_of h (b := .int 1) rfl).trans rfl
theorem tup2 {ρ : Env} {fa fb : Env → Option D} {a b : D} (h1 : fa ρ = some a) (h2 : fb ρ = some b) : eTup (aSz (aCons fa (aCons fb aNil))) ρ = some (.tup [a, b]) := by
  have : aCons fa (aCons fb aNil) ρ = some [a, b] := by simp only [aCons, aNil, h1, h2]
  unfold eTup aSz
  rw [this] <;> rfl
theorem lst1 {ρ : Env} {fa : Env → Option D} {a : D} (h1 : fa ρ = some a) : eFz (aSz (aCons fa aNil)) ρ = some (.lst [a]) := fz_of (sz1 h1)
theorem bd_of {ρ : Env} {fa fb : Env → Option D} {roof : Int} {ps : List (Int × Int)} (h1 : fa ρ = some (.int roof)) (h2 : fb ρ = some (.lst (prs ps))) : eTup (aSz (aCons fa (aCons (eCall gTupl (aCons fb aNil)) aNil))) ρ = some (bd roof ps) :=
  tup2 h1 ((call1 h2).trans rfl)
theorem pairs_of {ρ : Env} {i j : Nat} {cs : List Int} {el : Env → Option D} {f : Int → Int × Int} (h1 : ρ[j]? = some (.pu (lI_ cs))) (hl : cs.length ≤ 100) (he : ∀ c : Int, el ((wipeE ρ [i]).set i (.pu (.int c))) = some (.tup [.int (f c).1, .int (f c).2])) (ht : ∀ c : Int, (Tg.one i).put (.int c) (wipeE ρ [i]) = some ((wipeE ρ [i]).set i (.pu (.int c)))) :
    eFz (fLc (iLstD (eVar j)) (.one i) [i] bYes el) ρ = some (.lst (prs (cs.map f))) := by
  refine fz_of ?_
  have e1 : iLstD (eVar j) ρ = some (cs.map D.int) := by
    unfold iLstD
    rw [var_of h1]
  unfold fLc
  rw [e1]
  show gd (szOk _) (lcL _ _ _ _ _) = _
  rw [gd_t (szOk_of (by rw [List.length_map]; omega)), lc_all D.int (fun c => .tup [.int (f c).1, .int (f c).2]) cs fun c _ => ⟨_, ht c, he c⟩]
  unfold prs
  rw [List.map_map] <;> rfl
theorem cutL_to {ρ : Env} {l : List D} {v : Nat} {fa fb : Env → Option D} (h1 : fa ρ = some (.lst l)) (h2 : fb ρ = some (nv v)) (v1 : 1 ≤ v) (v2 : v ≤ l.length) : lSl fa oNo (oYes (eOp gSub fb (eC (.int 1)))) ρ = some (l.take (v - 1)) := by
  obtain ⟨n, rfl⟩ : ∃ n, v = n + 1 := ⟨v - 1, by omega⟩
  have e : oYes (eOp gSub fb (eC (.int 1))) ρ = some (some (n : Int)) := by
    unfold oYes
    have : eOp gSub fb (eC (.int 1)) ρ = some (.int (Int.ofNat (n + 1) - 1)) := (op_of h2 (b := .int 1) rfl).trans rfl
    rw [this, sub1] <;> rfl
  unfold lSl
  rw [h1]
  show (match oNo ρ with
    | some a => match oYes (eOp gSub fb (eC (.int 1))) ρ with
      | some b => some (cutD l a b)
      | none => none
    | none => none) = _
  rw [e]
  exact congrArg some (cut_to (by omega))
theorem cutL_from {ρ : Env} {l : List D} {v : Nat} {fa fb : Env → Option D} (h1 : fa ρ = some (.lst l)) (h2 : fb ρ = some (nv v)) (v2 : v ≤ l.length) : lSl fa (oYes fb) oNo ρ = some (l.drop v) := by
  have e : oYes fb ρ = some (some (v : Int)) := by
    unfold oYes
    rw [h2] <;> rfl
  unfold lSl
  rw [h1]
  show (match oYes fb ρ with
    | some a => match oNo ρ with
      | some b => some (cutD l a b)
      | none => none
    | none => none) = _
  rw [e]
  exact congrArg some (cut_from v2)
theorem tight_of {ρ : Env} {roof : Int} {ps : List (Int × Int)} {v : Nat} {q : Int × Int} {fr fp fv fq : Env → Option D} (hr : fr ρ = some (.int roof)) (hp : fp ρ = some (.lst (prs ps))) (hv : fv ρ = some (nv v)) (hq : fq ρ = some (.tup [.int q.1, .int q.2])) (v1 : 1 ≤ v) (v2 : v ≤ ps.length) (hl : ps.length ≤ 100) :
    eTup (aSz (aCons fr (aCons (eCall gTupl (aCons (eFz (eOpL gCat (eFz (eOpL gCat (eFz (lSl fp oNo (oYes (eOp gSub fv (eC (.int 1)))))) (eFz (aSz (aCons fq aNil))))) (eFz (lSl fp (oYes fv) oNo)))) aNil)) aNil))) ρ = some (bd roof (ps.set (v - 1) q)) := by
  refine bd_of hr (fz_of ?_)
  have pl : (prs ps).length = ps.length := prs_len ps
  have e1 := fz_of (cutL_to hp hv v1 (by omega))
  have e2 := fz_of (cutL_from hp hv (by omega))
  have e3 : eOpL gCat (eFz (lSl fp oNo (oYes (eOp gSub fv (eC (.int 1)))))) (eFz (aSz (aCons fq aNil))) ρ = some ((prs ps).take (v - 1) ++ [.tup [.int q.1, .int q.2]]) := by
    refine (opL_of e1 (lst1 hq)).trans ?_
    show gd (szOk _) _ = _
    rw [gd_t (szOk_of (by rw [List.length_append, List.length_take, List.length_singleton]; omega))]
  refine (opL_of (fz_of e3) e2).trans ?_
  show gd (szOk _) _ = _
  rw [gd_t (szOk_of (by rw [List.length_append, List.length_append, List.length_take, List.length_drop, List.length_singleton]; omega))]
  have e4 := set_cut (prs ps) (v - 1) (.tup [.int q.1, .int q.2]) (by omega)
  rw [show v - 1 + 1 = v by omega] at e4
  rw [e4]
  unfold prs
  rw [List.map_set]
theorem and_tt {ρ : Env} {fa fb : Env → Option D} (h1 : fa ρ = some (.bl true)) (h2 : fb ρ = some (.bl true)) : eAnd fa fb ρ = some (.bl true) := by
  unfold eAnd
  rw [h1]
  exact h2
theorem pair_map {cs : List Int} {f : Int → Int × Int} {v : Nat} (v1 : 1 ≤ v) (v2 : v ≤ cs.length) : pairAt (cs.map f) v = f (cs.getD (v - 1) 1) := by
  unfold pairAt
  rw [List.getD_eq_getElem?_getD, List.getD_eq_getElem?_getD, List.getElem?_map, List.getElem?_eq_getElem (by omega)] <;> rfl
theorem ne_zero {v : Nat} (v1 : 1 ≤ v) : decide (Int.ofNat v = 0) = false := decide_eq_false fun h => by
  have h : ((v : Nat) : Int) = 0 := h
  omega
theorem set_back {ps : List (Int × Int)} {v : Nat} {q : Int × Int} (v1 : 1 ≤ v) (v2 : v ≤ ps.length) : (ps.set (v - 1) q).set (v - 1) (pairAt ps v) = ps := by
  rw [List.set_set, set_id v1 v2]
end DL

set_option Elab.async false
set_option linter.all false
set_option maxRecDepth 100000
set_option maxHeartbeats 4000000
namespace DL
open PySem
/-! ### the plain law: _law_widths -/
theorem widths_ok {L : Nat} {far : Int} {due bs cs rs : List Int} {K : D → Prop} (o : OkW L far due bs cs rs) (hK : K (.bl true)) : F__law_widths [lineT L, .int far] K := by
  have hL := o.kp.val.l
  have hcl := o.kp.len
  have hdl : due.length ≤ 20 := by rw [← o.srt, (isort_perm cs).length_eq]; omega
  generalize hps : cs.map (fun c => (c, far)) = ps
  have hv : Val L far ps := by rw [← hps]; exact o.kp.val
  have hna : aboveM far ps (verL L) = false := by rw [← hps]; exact o.kp.nab
  have hbas : F_bases_by [lineT L, tI_ (hgtM L far ps)] = some (tI_ bs) := by rw [← hps]; exact o.kp.bas
  have hpl := hv.len
  have hrs := o.rl
  refine ⟨rfl, fun p => ?_⟩
  -- due
  refine ⟨_, set_of (i := 3) ((call2 (len1 rfl) rfl).trans o.du), ?_⟩
  refine ⟨_, guard_nx (or_ff (not_same (a := tI_ due) ((call2 (len1 rfl) rfl).trans o.sl) rfl (same_tI (n := 3) (by omega))) (not_same (a := .int due.sum) ((call2 (len1 rfl) rfl).trans o.ls) (sum_ok rfl) (same_ii 4 _))), ?_⟩
  refine ⟨_, guard_nx (not_same (a := .int (maxL 0 due)) ((call2 (len1 rfl) rfl).trans o.lg) (max_ok rfl (by omega)) (same_ii 4 _)), ?_⟩
  -- bases
  refine ⟨_, set_of (i := 4) ((call2 (len1 rfl) rfl).trans o.pl), ?_⟩
  refine ⟨_, guard_nx (or_ff (bnot_of (bof_of ((call2 (a := tI_ bs) rfl (len1 rfl)).trans o.isp))) (bof_of ((op_of (max_ok ((call1 (a := tI_ bs) rfl).trans o.rd) hrs) (b := .int far) rfl).trans (show some (D.bl (decide (far < maxL 0 rs))) = some (.bl false) by rw [decide_eq_false (by have := o.mx; omega)])))), ?_⟩
  -- counts
  refine ⟨_, set_of (i := 5) ((call1 (a := tI_ bs) rfl).trans o.wr), ?_⟩
  refine ⟨_, guard_nx (neL_ok (sorted_ok (l := cs) rfl (by omega)) (b := due) rfl o.srt), ?_⟩
  refine ⟨_, set_of (i := 6) (pairs_of (f := fun c => (c, far)) rfl (by omega) (fun c => rfl) (fun c => rfl)), ?_⟩
  rw [hps]
  refine ⟨_, set_of (i := 7) (bd_of (roof := far) (ps := ps) rfl rfl), ?_⟩
  refine ⟨_, guard_nx (or_ff (not_same (a := .bl true) ((call2 (a := lineT L) (b := bd far ps) rfl rfl).trans ((ck_ok hv).trans (by rw [hna] <;> rfl))) rfl (same_bl 4 true true)) (not_same (a := .int (topM L far ps)) ((call2 (a := lineT L) (b := bd far ps) rfl rfl).trans (top_ok hv)) ((call2 (a := lineT L) (b := bd far ps) rfl rfl).trans ((ltops_ok hv).trans (by rw [top_eq hv]))) (same_ii 4 _))), ?_⟩
  -- found
  refine ⟨_, set_of (i := 8) ((call2 (a := lineT L) (b := bd far ps) rfl rfl).trans (plan_ok hv hna hbas)), ?_⟩
  refine ⟨_, guard_nx (or_ff (bnot_of (bof_of ((call2 (a := tI_ bs) rfl (len1 rfl)).trans o.isp))) (neL_ok ((call1 (a := tI_ bs) rfl).trans o.wr) (b := cs) rfl rfl)), ?_⟩
  refine ⟨false, (bof_of ((op_of (max_ok ((call1 (a := tI_ bs) rfl).trans o.rd) hrs) (b := .int far) rfl).trans (show some (D.bl (decide (far < maxL 0 rs))) = some (.bl false) by rw [decide_eq_false (by have := o.mx; omega)]))), (fun h => by cases h), fun _ => ?_⟩
  refine ⟨rfl, lineT L, rfl, .int far, rfl, .lst (prs ps), rfl, about_ok hv ⟨true, rfl, (fun h => by cases h), fun _ => ?_⟩⟩
  refine ⟨_, rfl, ?_⟩
  -- drawn
  refine ⟨rfl, lI_ cs, rfl, drawn_ok (by omega) ?_ fun v v1 v2 hc => ?_⟩
  · exact ⟨.rt (.bl true), rfl, hK⟩
  have hpa := pairAt_ok hv v1 (by omega)
  have hvl : v ≤ ps.length := by omega
  have hpm : pairAt ps v = (cs.getD (v - 1) 1, far) := by rw [← hps, pair_map v1 v2]
  have hab := o.kp.abv v1 (by omega) hc
  rw [hps] at hab
  rw [hpm] at hpa
  obtain ⟨c, hce⟩ : ∃ c, c = cs.getD (v - 1) 1 := ⟨_, rfl⟩
  rw [← hce] at hc hpm hab hpa
  obtain ⟨p1, p2, p3, p4⟩ := hpa
  have p2 : c ≤ 999 := p2
  have p3 : 1 ≤ far := p3
  have hv2 : Val L far (ps.set (v - 1) (c - 1, far)) := val_set hv (by omega) (by omega) p3 (Int.le_refl _)
  have hab := hab hv2
  have hp2 : pairAt (ps.set (v - 1) (c - 1, far)) v = (c - 1, far) := by rw [pair_set v1 hvl v1, if_pos rfl]
  have hsb : (ps.set (v - 1) (c - 1, far)).set (v - 1) (c, far) = ps := by
    have := set_back (q := (c - 1, far)) v1 hvl
    rw [hpm] at this
    exact this
  have lw := lw_ok hv2 v1 (by omega) hp2 p2 hab (by rw [hsb]; exact hna)
  refine ⟨_, guard_nx (bof_of ((op_of (a := nv v) (b := .int 0) rfl rfl).trans (show some (D.bl (decide (Int.ofNat v = 0))) = some (.bl false) by rw [ne_zero v1]))), ?_⟩
  have cnt : ∀ ρ : Env, ρ[(5 : Nat)]? = some (.pu (lI_ cs)) → ρ[(9 : Nat)]? = some (.pu (nv v)) → eOp gIx (eVar 5) (eOp gSub (eVar 9) (eC (.int 1))) ρ = some (.int c) := fun ρ h1 h2 => by
    rw [hce]
    exact cnt_at (var_of h1) (var_of h2) v1 v2
  refine ⟨_, set_of (i := 10) ((call5 (a := lineT L) (b := bd far ps) (c := nv v) (d := .int (c - 1)) (e := .int far) rfl rfl rfl (sub_one (cnt _ rfl rfl)) rfl).trans (one_ok hv v1 (by omega) (by omega) (by omega) p3 (Int.le_refl _))), ?_⟩
  refine ⟨_, guard_nx (not_same (a := bd far (ps.set (v - 1) (c - 1, far))) rfl (tight_of (roof := far) (ps := ps) (v := v) (q := (c - 1, far)) rfl rfl rfl (tup2 (sub_one (cnt _ rfl rfl)) rfl) v1 hvl (by omega)) (same_bd (by rw [List.length_set]; omega))), ?_⟩
  refine ⟨_, ret_of (and_tt ((call2 (a := lineT L) (b := bd far (ps.set (v - 1) (c - 1, far))) rfl rfl).trans (refused_ok hv2 (by omega) hab)) ((call2 ((call3 (a := lineT L) (b := bd far (ps.set (v - 1) (c - 1, far))) (c := nv v) rfl rfl rfl).trans lw) (cnt _ rfl rfl)).trans (same_ii 4 c))), hK⟩
end DL

set_option Elab.async false
set_option linter.all false
set_option maxRecDepth 100000
set_option maxHeartbeats 4000000
namespace DL
open PySem
/-! ### the plain law: _law_reaches -/
theorem reaches_ok {L : Nat} {wide : Int} {due bs cs rs : List Int} {K : D → Prop} (o : OkR L wide due bs cs rs) (hK : K (.bl true)) : F__law_reaches [lineT L, .int wide] K := by
  have hL := o.kp.val.l
  have hcl := o.kp.len
  have hdl : due.length ≤ 20 := by rw [← o.srt, (isort_perm cs).length_eq]; omega
  have hrs := o.rl
  refine ⟨rfl, fun p => ?_⟩
  -- due, bases
  refine ⟨_, set_of (i := 3) ((call2 (len1 rfl) rfl).trans o.du), ?_⟩
  refine ⟨_, set_of (i := 4) ((call2 (len1 rfl) rfl).trans o.pl), ?_⟩
  refine ⟨_, guard_nx (or_ff (bnot_of (bof_of ((call2 (a := tI_ bs) rfl (len1 rfl)).trans o.isp))) (bof_of ((op_of (max_ok ((call1 (a := tI_ bs) rfl).trans o.wr) hrs) (b := .int wide) rfl).trans (show some (D.bl (decide (wide < maxL 0 rs))) = some (.bl false) by rw [decide_eq_false (by have := o.mx; omega)])))), ?_⟩
  -- counts
  refine ⟨_, set_of (i := 5) ((call1 (a := tI_ bs) rfl).trans o.rd), ?_⟩
  refine ⟨_, guard_nx (neL_ok (sorted_ok (l := cs) rfl (by omega)) (b := due) rfl o.srt), ?_⟩
  -- roof
  refine ⟨_, max_ok (x := 1) (l := cs) rfl (by omega), rfl, .int 2, rfl, 2, rfl, by decide, by decide, fun i i1 i2 => ⟨.int (maxL 1 cs + i), rfl, ?_⟩⟩
  have hk : OkK L (maxL 1 cs + i) (fun c => (wide, c)) bs cs := by
    have : i = 0 ∨ i = 1 := by omega
    rcases this with e | e
    · rw [e, Int.add_zero]; exact o.kp
    · rw [e]; exact o.kp1
  generalize maxL 1 cs + i = roof at hk
  generalize hps : cs.map (fun c => (wide, c)) = ps
  have hv : Val L roof ps := by rw [← hps]; exact hk.val
  have hna : aboveM roof ps (verL L) = false := by rw [← hps]; exact hk.nab
  have hbas : F_bases_by [lineT L, tI_ (hgtM L roof ps)] = some (tI_ bs) := by rw [← hps]; exact hk.bas
  have hpl := hv.len
  refine ⟨_, set_of (i := 7) (pairs_of (f := fun c => (wide, c)) rfl (by omega) (fun c => rfl) (fun c => rfl)), ?_⟩
  rw [hps]
  refine ⟨_, set_of (i := 8) (bd_of (roof := roof) (ps := ps) rfl rfl), ?_⟩
  refine ⟨_, guard_nx (or_ff (not_same (a := .bl true) ((call2 (a := lineT L) (b := bd roof ps) rfl rfl).trans ((ck_ok hv).trans (by rw [hna] <;> rfl))) rfl (same_bl 4 true true)) (not_same (a := .int (topM L roof ps)) ((call2 (a := lineT L) (b := bd roof ps) rfl rfl).trans (top_ok hv)) ((call2 (a := lineT L) (b := bd roof ps) rfl rfl).trans ((ltops_ok hv).trans (by rw [top_eq hv]))) (same_ii 4 _))), ?_⟩
  -- found
  refine ⟨_, set_of (i := 9) ((call2 (a := lineT L) (b := bd roof ps) rfl rfl).trans (plan_ok hv hna hbas)), ?_⟩
  refine ⟨_, guard_nx (or_ff (bnot_of (bof_of ((call2 (a := tI_ bs) rfl (len1 rfl)).trans o.isp))) (neL_ok ((call1 (a := tI_ bs) rfl).trans o.rd) (b := cs) rfl rfl)), ?_⟩
  refine ⟨false, (bof_of ((op_of (max_ok ((call1 (a := tI_ bs) rfl).trans o.wr) hrs) (b := .int wide) rfl).trans (show some (D.bl (decide (wide < maxL 0 rs))) = some (.bl false) by rw [decide_eq_false (by have := o.mx; omega)]))), (fun h => by cases h), fun _ => ?_⟩
  refine ⟨rfl, lineT L, rfl, .int roof, rfl, .lst (prs ps), rfl, about_ok hv ⟨true, rfl, (fun h => by cases h), fun _ => ?_⟩⟩
  refine ⟨_, rfl, ?_⟩
  -- drawn
  refine ⟨rfl, lI_ cs, rfl, drawn_ok (by omega) ?_ fun v v1 v2 hc => ?_⟩
  · exact ⟨.rt (.bl true), rfl, hK⟩
  have hpa := pairAt_ok hv v1 (by omega)
  have hvl : v ≤ ps.length := by omega
  have hpm : pairAt ps v = (wide, cs.getD (v - 1) 1) := by rw [← hps, pair_map v1 v2]
  have hab := hk.abv v1 (by omega) hc
  rw [hps] at hab
  rw [hpm] at hpa
  obtain ⟨c, hce⟩ : ∃ c, c = cs.getD (v - 1) 1 := ⟨_, rfl⟩
  rw [← hce] at hc hpm hab hpa
  obtain ⟨p1, p2, p3, p4⟩ := hpa
  have p1 : 1 ≤ wide := p1
  have p2 : wide ≤ 999 := p2
  have p4 : c ≤ roof := p4
  have hv2 : Val L roof (ps.set (v - 1) (wide, c - 1)) := val_set hv p1 p2 (by omega) (by omega)
  have hab := hab hv2
  have hp2 : pairAt (ps.set (v - 1) (wide, c - 1)) v = (wide, c - 1) := by rw [pair_set v1 hvl v1, if_pos rfl]
  have hsb : (ps.set (v - 1) (wide, c - 1)).set (v - 1) (wide, c) = ps := by
    have := set_back (q := (wide, c - 1)) v1 hvl
    rw [hpm] at this
    exact this
  have lw := lr_ok hv2 v1 (by omega) hp2 p4 hab (by rw [hsb]; exact hna)
  refine ⟨_, guard_nx (bof_of ((op_of (a := nv v) (b := .int 0) rfl rfl).trans (show some (D.bl (decide (Int.ofNat v = 0))) = some (.bl false) by rw [ne_zero v1]))), ?_⟩
  have cnt : ∀ ρ : Env, ρ[(5 : Nat)]? = some (.pu (lI_ cs)) → ρ[(10 : Nat)]? = some (.pu (nv v)) → eOp gIx (eVar 5) (eOp gSub (eVar 10) (eC (.int 1))) ρ = some (.int c) := fun ρ h1 h2 => by
    rw [hce]
    exact cnt_at (var_of h1) (var_of h2) v1 v2
  refine ⟨_, set_of (i := 11) ((call5 (a := lineT L) (b := bd roof ps) (c := nv v) (d := .int wide) (e := .int (c - 1)) rfl rfl rfl rfl (sub_one (cnt _ rfl rfl))).trans (one_ok hv v1 (by omega) p1 p2 (by omega) (by omega))), ?_⟩
  refine ⟨_, guard_nx (not_same (a := bd roof (ps.set (v - 1) (wide, c - 1))) rfl (tight_of (roof := roof) (ps := ps) (v := v) (q := (wide, c - 1)) rfl rfl rfl (tup2 rfl (sub_one (cnt _ rfl rfl))) v1 hvl (by omega)) (same_bd (by rw [List.length_set]; omega))), ?_⟩
  refine ⟨_, ret_of (and_tt ((call2 (a := lineT L) (b := bd roof (ps.set (v - 1) (wide, c - 1))) rfl rfl).trans (refused_ok hv2 (by omega) hab)) ((call2 ((call3 (a := lineT L) (b := bd roof (ps.set (v - 1) (wide, c - 1))) (c := nv v) rfl rfl rfl).trans lw) (cnt _ rfl rfl)).trans (same_ii 4 c))), hK⟩
end DL

set_option Elab.async false
set_option linter.all false
set_option maxRecDepth 100000
set_option maxHeartbeats 4000000
namespace DL
open PySem
theorem W_at_20 : ([1, 2, 3, 4, 5, 6, 7, 8, 9, 10, 11, 12] : List Int).all (chkW 20) = true := by decide +kernel
theorem R_at_20 : ([1, 2, 3, 4, 5, 6, 7, 8, 9, 10, 11, 12] : List Int).all (chkR 20) = true := by decide +kernel
end DL

set_option Elab.async false
set_option linter.all false
set_option maxRecDepth 100000
set_option maxHeartbeats 4000000
namespace DL
open PySem
theorem W_at_0 : ([1, 2, 3, 4, 5, 6, 7, 8, 9, 10, 11, 12] : List Int).all (chkW 0) = true := by decide +kernel
theorem R_at_0 : ([1, 2, 3, 4, 5, 6, 7, 8, 9, 10, 11, 12] : List Int).all (chkR 0) = true := by decide +kernel
theorem W_at_1 : ([1, 2, 3, 4, 5, 6, 7, 8, 9, 10, 11, 12] : List Int).all (chkW 1) = true := by decide +kernel
theorem R_at_1 : ([1, 2, 3, 4, 5, 6, 7, 8, 9, 10, 11, 12] : List Int).all (chkR 1) = true := by decide +kernel
theorem W_at_2 : ([1, 2, 3, 4, 5, 6, 7, 8, 9, 10, 11, 12] : List Int).all (chkW 2) = true := by decide +kernel
theorem R_at_2 : ([1, 2, 3, 4, 5, 6, 7, 8, 9, 10, 11, 12] : List Int).all (chkR 2) = true := by decide +kernel
theorem W_at_3 : ([1, 2, 3, 4, 5, 6, 7, 8, 9, 10, 11, 12] : List Int).all (chkW 3) = true := by decide +kernel
theorem R_at_3 : ([1, 2, 3, 4, 5, 6, 7, 8, 9, 10, 11, 12] : List Int).all (chkR 3) = true := by decide +kernel
theorem W_at_4 : ([1, 2, 3, 4, 5, 6, 7, 8, 9, 10, 11, 12] : List Int).all (chkW 4) = true := by decide +kernel
theorem R_at_4 : ([1, 2, 3, 4, 5, 6, 7, 8, 9, 10, 11, 12] : List Int).all (chkR 4) = true := by decide +kernel
theorem W_at_5 : ([1, 2, 3, 4, 5, 6, 7, 8, 9, 10, 11, 12] : List Int).all (chkW 5) = true := by decide +kernel
theorem R_at_5 : ([1, 2, 3, 4, 5, 6, 7, 8, 9, 10, 11, 12] : List Int).all (chkR 5) = true := by decide +kernel
theorem W_at_6 : ([1, 2, 3, 4, 5, 6, 7, 8, 9, 10, 11, 12] : List Int).all (chkW 6) = true := by decide +kernel
theorem R_at_6 : ([1, 2, 3, 4, 5, 6, 7, 8, 9, 10, 11, 12] : List Int).all (chkR 6) = true := by decide +kernel
theorem W_at_7 : ([1, 2, 3, 4, 5, 6, 7, 8, 9, 10, 11, 12] : List Int).all (chkW 7) = true := by decide +kernel
theorem R_at_7 : ([1, 2, 3, 4, 5, 6, 7, 8, 9, 10, 11, 12] : List Int).all (chkR 7) = true := by decide +kernel
theorem W_at_8 : ([1, 2, 3, 4, 5, 6, 7, 8, 9, 10, 11, 12] : List Int).all (chkW 8) = true := by decide +kernel
theorem R_at_8 : ([1, 2, 3, 4, 5, 6, 7, 8, 9, 10, 11, 12] : List Int).all (chkR 8) = true := by decide +kernel
theorem W_at_9 : ([1, 2, 3, 4, 5, 6, 7, 8, 9, 10, 11, 12] : List Int).all (chkW 9) = true := by decide +kernel
theorem R_at_9 : ([1, 2, 3, 4, 5, 6, 7, 8, 9, 10, 11, 12] : List Int).all (chkR 9) = true := by decide +kernel
theorem W_at_10 : ([1, 2, 3, 4, 5, 6, 7, 8, 9, 10, 11, 12] : List Int).all (chkW 10) = true := by decide +kernel
theorem R_at_10 : ([1, 2, 3, 4, 5, 6, 7, 8, 9, 10, 11, 12] : List Int).all (chkR 10) = true := by decide +kernel
theorem W_at_11 : ([1, 2, 3, 4, 5, 6, 7, 8, 9, 10, 11, 12] : List Int).all (chkW 11) = true := by decide +kernel
theorem R_at_11 : ([1, 2, 3, 4, 5, 6, 7, 8, 9, 10, 11, 12] : List Int).all (chkR 11) = true := by decide +kernel
theorem W_at_12 : ([1, 2, 3, 4, 5, 6, 7, 8, 9, 10, 11, 12] : List Int).all (chkW 12) = true := by decide +kernel
theorem R_at_12 : ([1, 2, 3, 4, 5, 6, 7, 8, 9, 10, 11, 12] : List Int).all (chkR 12) = true := by decide +kernel
end DL

set_option Elab.async false
set_option linter.all false
set_option maxRecDepth 100000
set_option maxHeartbeats 4000000
namespace DL
open PySem
/-! ### the plain law -/
theorem limit_ok {K : D → Prop} (h : ∀ far : Int, 1 ≤ far → far ≤ 12 → K (.int far)) : F__law_limit [] K := by
  refine ⟨rfl, fun p => ?_⟩
  refine ⟨rfl, .int 8, rfl, 8, rfl, by decide, by decide, fun i _ _ => ⟨.int 3, rfl, .bl (decide (i = 3)), rfl, _, rfl, fun _ => ?_, fun _ => ?_⟩⟩
  · exact ⟨.int 1, rfl, rfl, .int 12, rfl, 12, rfl, by decide, by decide, fun j j1 j2 => ⟨.int (1 + j), rfl, h _ (by omega) (by omega)⟩⟩
  · exact ⟨_, rfl, .int 1, rfl, rfl, .int 4, rfl, 4, rfl, by decide, by decide, fun j j1 j2 => ⟨.int (1 + j), rfl, h _ (by omega) (by omega)⟩⟩
theorem tree_ok {ρ : Env} {L : Nat} (h : ρ[(2 : Nat)]? = some (.pu (.int L))) (hL : L ≤ 20) : eCall gTupl (aCons (eFz (iRg1 (eVar 2))) aNil) ρ = some (lineT L) := by
  have e : iRg1 (eVar 2) ρ = some (lineL L) := by
    unfold iRg1
    rw [var_of h]
    show gd (smI (L : Int)) (some (rgD 0 ((L : Int)).toNat)) = _
    rw [gd_t (sm_nat (by omega)), Int.toNat_natCast]
    have := rgD_nv L 0
    have e0 : (List.range L).map (fun i => i + 0) = List.range L := List.map_id' _
    rw [e0] at this
    exact congrArg some this
  exact (call1 (fz_of e)).trans rfl
theorem mem12 {far : Int} (h1 : 1 ≤ far) (h2 : far ≤ 12) : far ∈ ([1, 2, 3, 4, 5, 6, 7, 8, 9, 10, 11, 12] : List Int) := by
  simp only [List.mem_cons, List.mem_nil_iff, or_false]
  omega
theorem allW {L : Nat} (h : L ≤ 12 ∨ L = 20) {far : Int} (h1 : 1 ≤ far) (h2 : far ≤ 12) : chkW L far = true := by
  have t : ([1, 2, 3, 4, 5, 6, 7, 8, 9, 10, 11, 12] : List Int).all (chkW L) = true := by
    rcases h with h | h
    · match L, h with
      | 0, _ => exact W_at_0
      | 1, _ => exact W_at_1
      | 2, _ => exact W_at_2
      | 3, _ => exact W_at_3
      | 4, _ => exact W_at_4
      | 5, _ => exact W_at_5
      | 6, _ => exact W_at_6
      | 7, _ => exact W_at_7
      | 8, _ => exact W_at_8
      | 9, _ => exact W_at_9
      | 10, _ => exact W_at_10
      | 11, _ => exact W_at_11
      | 12, _ => exact W_at_12
      | n + 13, h => exact absurd h (by omega)
    · rw [h]; exact W_at_20
  exact List.all_eq_true.mp t far (mem12 h1 h2)
theorem allR {L : Nat} (h : L ≤ 12 ∨ L = 20) {far : Int} (h1 : 1 ≤ far) (h2 : far ≤ 12) : chkR L far = true := by
  have t : ([1, 2, 3, 4, 5, 6, 7, 8, 9, 10, 11, 12] : List Int).all (chkR L) = true := by
    rcases h with h | h
    · match L, h with
      | 0, _ => exact R_at_0
      | 1, _ => exact R_at_1
      | 2, _ => exact R_at_2
      | 3, _ => exact R_at_3
      | 4, _ => exact R_at_4
      | 5, _ => exact R_at_5
      | 6, _ => exact R_at_6
      | 7, _ => exact R_at_7
      | 8, _ => exact R_at_8
      | 9, _ => exact R_at_9
      | 10, _ => exact R_at_10
      | 11, _ => exact R_at_11
      | 12, _ => exact R_at_12
      | n + 13, h => exact absurd h (by omega)
    · rw [h]; exact R_at_20
  exact List.all_eq_true.mp t far (mem12 h1 h2)
theorem wid_all {L : Nat} (h : L ≤ 12 ∨ L = 20) {far : Int} (h1 : 1 ≤ far) (h2 : far ≤ 12) {K : D → Prop} (hK : K (.bl true)) : F__law_widths [lineT L, .int far] K := by
  obtain ⟨_, _, _, _, o⟩ := chkW_ok (allW h h1 h2)
  exact widths_ok o hK
theorem rea_all {L : Nat} (h : L ≤ 12 ∨ L = 20) {far : Int} (h1 : 1 ≤ far) (h2 : far ≤ 12) {K : D → Prop} (hK : K (.bl true)) : F__law_reaches [lineT L, .int far] K := by
  obtain ⟨_, _, _, _, o⟩ := chkR_ok (allR h h1 h2)
  exact reaches_ok o hK
abbrev qTail (p : Addr) : Env → (Out → Prop) → Prop := qSeq (qS (cSet 3 (eCall gTupl (aCons (eFz (iRg1 (eVar 2))) aNil))))
  (qSeq (qIf (qNot (qBOf (qCallAt 1 p F__law_widths (qCons (qE (eVar 3)) (qCons (qCallAt 1 p F__law_limit qNil) qNil))))) (qS (cRet (eC (.bl false)))) (qS cNext))
  (qRet (qCallAt 1 p F__law_reaches (qCons (qE (eVar 3)) (qCons (qCallAt 1 p F__law_limit qNil) qNil)))))
theorem tail_all {p : Addr} {L : Nat} (h : L ≤ 12 ∨ L = 20) : qTail p [.no, .pu (.adr p), .pu (.int L), .no] (fun o => o = .rt (.bl true)) := by
  refine ⟨_, set_of (i := 3) (tree_ok rfl (by omega)), ?_⟩
  refine ⟨rfl, lineT L, rfl, rfl, limit_ok fun far h1 h2 => wid_all h h1 h2 ⟨true, rfl, (fun h => by cases h), fun _ => ⟨_, rfl, ?_⟩⟩⟩
  exact ⟨rfl, lineT L, rfl, rfl, limit_ok fun far h1 h2 => rea_all h h1 h2 rfl⟩
theorem plain : ∀ p, g_law p [.no, .pu (.adr p), .no, .no] (fun o => o = .rt (.bl true)) := fun p => by
  refine ⟨rfl, .int 13, rfl, 13, rfl, by decide, by decide, fun i i1 i2 => ?_⟩
  obtain ⟨L, rfl⟩ := Int.eq_ofNat_of_zero_le i1
  refine ⟨rfl, .int 16, rfl, 16, rfl, by decide, by decide, fun j _ _ => ⟨.int 9, rfl, .bl (decide (j = 9)), rfl, _, rfl, fun _ => ?_, fun _ => ?_⟩⟩
  · exact ⟨_, rfl, tail_all (L := 20) (.inr rfl)⟩
  · exact ⟨_, rfl, tail_all (L := L) (.inl (by omega))⟩
end DL


set_option Elab.async false
open PySem PySem.W PyProof.Rows
set_option maxRecDepth 100000 in
set_option maxHeartbeats 0 in
set_option pp.maxSteps 60 in
theorem PySem.Challenge.cw_sincemarks_k70_whole_sorted_counts_as_bo_holds : PySem.Challenge.rw_sincemarks_k70_whole_sorted_counts_as_bo.Holds := by
  w_on; o_law; k_head; (case hw => w_witness2)
  k_fill
  refine LamX.walk_ofTs (l := PySem.Challenge.rw_sincemarks_k70_whole_sorted_counts_as_bo) (n := 63) (k := 61) (x := "_law_script") (CX := fun _ => L2.CX0) rfl (by decide) rfl ⟨rfl, by decide, by decide⟩ (fun w h Y => PySem.W.km_in_of Y) ?F (fun _ _ _ _ _ z => z)
  case F =>
    intro w mg fa h Y KX G hmg
    have hts := PySem.W.km_tabs_of Y
    refine' DL.all_mk (PR := 388) (PW := 395) DL.plain KX G hmg ?d_is_integer ?d_is_number ?d_is_natural ?d_choose ?d_is_nested ?d_need_plan ?d_need_number ?d_need_natural ?d_last_full ?d_ahead_and_behind ?d_put_beside ?d_sorted_least ?d_least_sum ?d_least_greatest ?d__built ?d_track_of ?d_mirrored ?d__shaped ?d_best_plan ?d_best_for_writes ?d_up_to ?d_is_pair ?d_bound_fault ?d_need_bounds ?d_need_version ?d_all_versions ?d_falling ?d_row_after ?d_step_of ?d_near_elder ?d_walked ?d_goes_above ?d_one_bound ?d_is_heights ?d_bases_by ?d_wall_in ?d_rows_of ?d_walk_heights ?d_top_of ?d_can_keep ?d_plan_for ?d_margin_of ?d__law_same ?d__law_step ?d__law_rows ?d__law_high ?d__law_above ?d__law_struck ?d__law_choose ?d__law_is_plan ?d__law_reading ?d__law_writing ?d__law_sorted ?d__law_tops ?d__law_refused ?d__least_good ?d_lifted_reach ?d_lifted_width ?d__law_hand ?d__law_take ?d__law_drawn ?d__law_about ?d__law_widths ?d__law_reaches ?d__law_limit ?d_law ?z_isinstance ?z_int ?z_bool ?z_tuple ?z_str ?z_len ?z_range ?z_enumerate ?z_zip ?z_sorted ?z_max ?z_min ?z_sum ?z_any ?z_all ?z_list ?z_reversed ?z_abs ?z_comb ?z_gb (by decide) (hts _ (by simp)) (hts _ (by simp)) ?nR ?nW ?gR ?gW
    (case d_is_integer => (refine' DL.defIx_mk ?a ?l ?c ?k; (case a => k_is); (case l => k_is); (case c => k_is); (case k => k_is)))
    (case d_is_number => (refine' DL.defIx_mk ?a ?l ?c ?k; (case a => k_is); (case l => k_is); (case c => k_is); (case k => k_is)))
    (case d_is_natural => (refine' DL.defIx_mk ?a ?l ?c ?k; (case a => k_is); (case l => k_is); (case c => k_is); (case k => k_is)))
    (case d_choose => (refine' DL.defIx_mk ?a ?l ?c ?k; (case a => k_is); (case l => k_is); (case c => k_is); (case k => k_is)))
    (case d_is_nested => (refine' DL.defIx_mk ?a ?l ?c ?k; (case a => k_is); (case l => k_is); (case c => k_is); (case k => k_is)))
    (case d_need_plan => (refine' DL.defIx_mk ?a ?l ?c ?k; (case a => k_is); (case l => k_is); (case c => k_is); (case k => k_is)))
    (case d_need_number => (refine' DL.defIx_mk ?a ?l ?c ?k; (case a => k_is); (case l => k_is); (case c => k_is); (case k => k_is)))
    (case d_need_natural => (refine' DL.defIx_mk ?a ?l ?c ?k; (case a => k_is); (case l => k_is); (case c => k_is); (case k => k_is)))
    (case d_last_full => (refine' DL.defIx_mk ?a ?l ?c ?k; (case a => k_is); (case l => k_is); (case c => k_is); (case k => k_is)))
    (case d_ahead_and_behind => (refine' DL.defIx_mk ?a ?l ?c ?k; (case a => k_is); (case l => k_is); (case c => k_is); (case k => k_is)))
    (case d_put_beside => (refine' DL.defIx_mk ?a ?l ?c ?k; (case a => k_is); (case l => k_is); (case c => k_is); (case k => k_is)))
    (case d_sorted_least => (refine' DL.defIx_mk ?a ?l ?c ?k; (case a => k_is); (case l => k_is); (case c => k_is); (case k => k_is)))
    (case d_least_sum => (refine' DL.defIx_mk ?a ?l ?c ?k; (case a => k_is); (case l => k_is); (case c => k_is); (case k => k_is)))
    (case d_least_greatest => (refine' DL.defIx_mk ?a ?l ?c ?k; (case a => k_is); (case l => k_is); (case c => k_is); (case k => k_is)))
    (case d__built => (refine' DL.defIx_mk ?a ?l ?c ?k; (case a => k_is); (case l => k_is); (case c => k_is); (case k => k_is)))
    (case d_track_of => (refine' DL.defIx_mk ?a ?l ?c ?k; (case a => k_is); (case l => k_is); (case c => k_is); (case k => k_is)))
    (case d_mirrored => (refine' DL.defIx_mk ?a ?l ?c ?k; (case a => k_is); (case l => k_is); (case c => k_is); (case k => k_is)))
    (case d__shaped => (refine' DL.defIx_mk ?a ?l ?c ?k; (case a => k_is); (case l => k_is); (case c => k_is); (case k => k_is)))
    (case d_best_plan => (refine' DL.defIx_mk ?a ?l ?c ?k; (case a => k_is); (case l => k_is); (case c => k_is); (case k => k_is)))
    (case d_best_for_writes => (refine' DL.defIx_mk ?a ?l ?c ?k; (case a => k_is); (case l => k_is); (case c => k_is); (case k => k_is)))
    (case d_up_to => (refine' DL.defIx_mk ?a ?l ?c ?k; (case a => k_is); (case l => k_is); (case c => k_is); (case k => k_is)))
    (case d_is_pair => (refine' DL.defIx_mk ?a ?l ?c ?k; (case a => k_is); (case l => k_is); (case c => k_is); (case k => k_is)))
    (case d_bound_fault => (refine' DL.defIx_mk ?a ?l ?c ?k; (case a => k_is); (case l => k_is); (case c => k_is); (case k => k_is)))
    (case d_need_bounds => (refine' DL.defIx_mk ?a ?l ?c ?k; (case a => k_is); (case l => k_is); (case c => k_is); (case k => k_is)))
    (case d_need_version => (refine' DL.defIx_mk ?a ?l ?c ?k; (case a => k_is); (case l => k_is); (case c => k_is); (case k => k_is)))
    (case d_all_versions => (refine' DL.defIx_mk ?a ?l ?c ?k; (case a => k_is); (case l => k_is); (case c => k_is); (case k => k_is)))
    (case d_falling => (refine' DL.defIx_mk ?a ?l ?c ?k; (case a => k_is); (case l => k_is); (case c => k_is); (case k => k_is)))
    (case d_row_after => (refine' DL.defIx_mk ?a ?l ?c ?k; (case a => k_is); (case l => k_is); (case c => k_is); (case k => k_is)))
    (case d_step_of => (refine' DL.defIx_mk ?a ?l ?c ?k; (case a => k_is); (case l => k_is); (case c => k_is); (case k => k_is)))
    (case d_near_elder => (refine' DL.defIx_mk ?a ?l ?c ?k; (case a => k_is); (case l => k_is); (case c => k_is); (case k => k_is)))
    (case d_walked => (refine' DL.defIx_mk ?a ?l ?c ?k; (case a => k_is); (case l => k_is); (case c => k_is); (case k => k_is)))
    (case d_goes_above => (refine' DL.defIx_mk ?a ?l ?c ?k; (case a => k_is); (case l => k_is); (case c => k_is); (case k => k_is)))
    (case d_one_bound => (refine' DL.defIx_mk ?a ?l ?c ?k; (case a => k_is); (case l => k_is); (case c => k_is); (case k => k_is)))
    (case d_is_heights => (refine' DL.defIx_mk ?a ?l ?c ?k; (case a => k_is); (case l => k_is); (case c => k_is); (case k => k_is)))
    (case d_bases_by => (refine' DL.defIx_mk ?a ?l ?c ?k; (case a => k_is); (case l => k_is); (case c => k_is); (case k => k_is)))
    (case d_wall_in => (refine' DL.defIx_mk ?a ?l ?c ?k; (case a => k_is); (case l => k_is); (case c => k_is); (case k => k_is)))
    (case d_rows_of => (refine' DL.defIx_mk ?a ?l ?c ?k; (case a => k_is); (case l => k_is); (case c => k_is); (case k => k_is)))
    (case d_walk_heights => (refine' DL.defIx_mk ?a ?l ?c ?k; (case a => k_is); (case l => k_is); (case c => k_is); (case k => k_is)))
    (case d_top_of => (refine' DL.defIx_mk ?a ?l ?c ?k; (case a => k_is); (case l => k_is); (case c => k_is); (case k => k_is)))
    (case d_can_keep => (refine' DL.defIx_mk ?a ?l ?c ?k; (case a => k_is); (case l => k_is); (case c => k_is); (case k => k_is)))
    (case d_plan_for => (refine' DL.defIx_mk ?a ?l ?c ?k; (case a => k_is); (case l => k_is); (case c => k_is); (case k => k_is)))
    (case d_margin_of => (refine' DL.defIx_mk ?a ?l ?c ?k; (case a => k_is); (case l => k_is); (case c => k_is); (case k => k_is)))
    (case d__law_same => (refine' DL.defIx_mk ?a ?l ?c ?k; (case a => k_is); (case l => k_is); (case c => k_is); (case k => k_is)))
    (case d__law_step => (refine' DL.defIx_mk ?a ?l ?c ?k; (case a => k_is); (case l => k_is); (case c => k_is); (case k => k_is)))
    (case d__law_rows => (refine' DL.defIx_mk ?a ?l ?c ?k; (case a => k_is); (case l => k_is); (case c => k_is); (case k => k_is)))
    (case d__law_high => (refine' DL.defIx_mk ?a ?l ?c ?k; (case a => k_is); (case l => k_is); (case c => k_is); (case k => k_is)))
    (case d__law_above => (refine' DL.defIx_mk ?a ?l ?c ?k; (case a => k_is); (case l => k_is); (case c => k_is); (case k => k_is)))
    (case d__law_struck => (refine' DL.defIx_mk ?a ?l ?c ?k; (case a => k_is); (case l => k_is); (case c => k_is); (case k => k_is)))
    (case d__law_choose => (refine' DL.defIx_mk ?a ?l ?c ?k; (case a => k_is); (case l => k_is); (case c => k_is); (case k => k_is)))
    (case d__law_is_plan => (refine' DL.defIx_mk ?a ?l ?c ?k; (case a => k_is); (case l => k_is); (case c => k_is); (case k => k_is)))
    (case d__law_reading => (refine' DL.defIx_mk ?a ?l ?c ?k; (case a => k_is); (case l => k_is); (case c => k_is); (case k => k_is)))
    (case d__law_writing => (refine' DL.defIx_mk ?a ?l ?c ?k; (case a => k_is); (case l => k_is); (case c => k_is); (case k => k_is)))
    (case d__law_sorted => (refine' DL.defIx_mk ?a ?l ?c ?k; (case a => k_is); (case l => k_is); (case c => k_is); (case k => k_is)))
    (case d__law_tops => (refine' DL.defIx_mk ?a ?l ?c ?k; (case a => k_is); (case l => k_is); (case c => k_is); (case k => k_is)))
    (case d__law_refused => (refine' DL.defIx_mk ?a ?l ?c ?k; (case a => k_is); (case l => k_is); (case c => k_is); (case k => k_is)))
    (case d__least_good => (refine' DL.defIx_mk ?a ?l ?c ?k; (case a => k_is); (case l => k_is); (case c => k_is); (case k => k_is)))
    (case d_lifted_reach => (refine' DL.defIn_mk ?a ?l ?c ?k; (case a => k_is); (case l => k_is); (case c => k_is); (case k => k_is)))
    (case d_lifted_width => (refine' DL.defIn_mk ?a ?l ?c ?k; (case a => k_is); (case l => k_is); (case c => k_is); (case k => k_is)))
    (case d__law_hand => (refine' DL.defIx_mk ?a ?l ?c ?k; (case a => k_is); (case l => k_is); (case c => k_is); (case k => k_is)))
    (case d__law_take => (refine' DL.defIx_mk ?a ?l ?c ?k; (case a => k_is); (case l => k_is); (case c => k_is); (case k => k_is)))
    (case d__law_drawn => (refine' DL.defIx_mk ?a ?l ?c ?k; (case a => k_is); (case l => k_is); (case c => k_is); (case k => k_is)))
    (case d__law_about => (refine' DL.defIx_mk ?a ?l ?c ?k; (case a => k_is); (case l => k_is); (case c => k_is); (case k => k_is)))
    (case d__law_widths => (refine' DL.defIx_mk ?a ?l ?c ?k; (case a => k_is); (case l => k_is); (case c => k_is); (case k => k_is)))
    (case d__law_reaches => (refine' DL.defIx_mk ?a ?l ?c ?k; (case a => k_is); (case l => k_is); (case c => k_is); (case k => k_is)))
    (case d__law_limit => (refine' DL.defIx_mk ?a ?l ?c ?k; (case a => k_is); (case l => k_is); (case c => k_is); (case k => k_is)))
    (case d_law => (refine' DL.defIx_mk ?a ?l ?c ?k; (case a => k_is); (case l => k_is); (case c => k_is); (case k => k_is)))
    (case z_isinstance => k_is)
    (case z_int => k_is)
    (case z_bool => k_is)
    (case z_tuple => k_is)
    (case z_str => k_is)
    (case z_len => k_is)
    (case z_range => k_is)
    (case z_enumerate => k_is)
    (case z_zip => k_is)
    (case z_sorted => k_is)
    (case z_max => k_is)
    (case z_min => k_is)
    (case z_sum => k_is)
    (case z_any => k_is)
    (case z_all => k_is)
    (case z_list => k_is)
    (case z_reversed => k_is)
    (case z_abs => k_is)
    (case z_comb => k_is); (case z_gb => k_is)
    (case nR => rfl); (case nW => rfl); (case gR => first | kernel_rfl | rfl | decide +kernel); (case gW => first | kernel_rfl | rfl | decide +kernel)

