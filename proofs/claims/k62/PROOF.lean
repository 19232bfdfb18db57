import PyProof.Rows.All
import Wide.All
import OpenK.AllK
import Wide.FinOn
import HandS.ForMost
import HandS.Codes
import HandS.TupAny
import HandS.TupSets
import HandS.SetFor
import HandS.Strs
import HandS.DictComp
import HandS.Style
import HandS.Zip
import HandS.WideBits
import HandS.IsInst
import HandS.SortRule
import HandS.SortInts
import HandS.Conv
import HandS.RaiseMore
import HandS.Small
import HandS.EndTab
import HandS.Lambda
import KE.KSortKeySt
import PySem.Challenge.RW_ripewaves_k62_whole_fewest_freest_fulles
import HandS.Walk
import KE.GoesEnum
set_option Elab.async false
set_option linter.all false
set_option maxRecDepth 100000
set_option maxHeartbeats 4000000
/-! Own layer over HandS for the law k62: frames, data, small rules. -/
namespace Rw
open PySem PySem.Spec PyProof.Rows L2

/-! ### the text by places -/
abbrev Pg : Program := PySem.Challenge.pw_ripewaves_k62_whole_fewest_freest_fulles
def topS (i : Nat) : Stmt := Pg.main.body.getD i (.Pass ⟨0, 0, 0, 0⟩)

/-! ### heaps: what a step may change -/
/-- the one table of code objects, and the lambda's name -/
abbrev tP : Addr := 243
abbrev tQ : Str := "by_count.<locals>.<lambda>"
def TS (H : Hp) : Prop := LamX.TabS H tP tQ
/-- nothing but a code table at b -/
def Fr (H : Hp) (b : Addr) : Prop := H b = none ∨ ∃ ps, H b = some (.tbl ps)
/-- plain: no table, no predicate -/
def Pl : HO → Prop
  | .tbl _ => False
  | .ext _ => False
  | _ => True
/-- from H to H' all stands but lists at the places of T, and code tables; the table tP stays good -/
structure Fz (T : Addr → Prop) (H H' : Hp) : Prop where
  keep : ∀ b o, H b = some o → (∀ ps, o ≠ .tbl ps) → (T b → ∀ xs, o ≠ .lst xs) → H' b = some o
  thr : ∀ b, Fr H' b → Fr H b
  tab : TS H → TS H'
abbrev N0 : Addr → Prop := fun _ => False
section
variable {T T' : Addr → Prop} {H H1 H2 : Hp} {a p : Addr} {o u : HO}
theorem Pl.nt (h : Pl o) : ∀ ps, o ≠ .tbl ps := fun ps z => by rw [z] at h; exact h
theorem Fr.of (h : H p = none) : Fr H p := .inl h
theorem Fr.no (h : Fr H p) (e : H p = some o) (q : Pl o) : False := by
  rcases h with h | ⟨ps, h⟩
  · rw [h] at e; cases e
  · rw [h] at e; cases e; exact q
theorem Fr.ne (h : Fr H p) (e : H a = some o) (q : Pl o := by trivial) : a ≠ p := fun z => by rw [z] at e; exact h.no e q
theorem Fr.ne' (h : Fr H p) (e : H a = some o) (q : Pl o := by trivial) : p ≠ a := fun z => h.ne e q z.symm
/-- a plain place, or a free one, may be written: the table stays good -/
theorem TS.upd (t : TS H) (h : H p = none ∨ ∃ u, H p = some u ∧ Pl u) : TS (upd H p o) := by
  obtain ⟨ps, h1, h2, h3⟩ := t
  have np : ∀ b x, H b = some x → ¬ Pl x → b ≠ p := fun b x e n z => by
    rw [z] at e
    rcases h with h | ⟨y, h, q⟩
    · rw [h] at e; cases e
    · rw [h] at e; cases e; exact n q
  refine ⟨ps, by rw [upd_ne (np _ _ h1 fun z => z)]; exact h1, h2, fun pos cv hc => ?_⟩
  obtain ⟨c, e1, e2⟩ := h3 pos cv hc
  exact ⟨c, e1, by rw [upd_ne (np _ _ e2 fun z => z)]; exact e2⟩
theorem Fz.refl : Fz T H H := ⟨fun _ _ e _ _ => e, fun _ e => e, fun t => t⟩
theorem Fz.trans (x : Fz T H H1) (y : Fz T H1 H2) : Fz T H H2 :=
  ⟨fun b o e n t => y.keep b o (x.keep b o e n t) n t, fun b e => x.thr b (y.thr b e), fun t => y.tab (x.tab t)⟩
theorem Fz.mono (x : Fz T H H1) (h : ∀ b, T b → T' b) : Fz T' H H1 :=
  ⟨fun b o e n t => x.keep b o e n fun z => t (h b z), x.thr, x.tab⟩
theorem Fz.up (x : Fz N0 H H1) : Fz T H H1 := x.mono fun _ z => z.elim
theorem Fz.at (x : Fz T H H1) (e : H a = some o) (n : ¬ T a) (q : Pl o := by trivial) : H1 a = some o := x.keep a o e q.nt fun z => (n z).elim
theorem Fz.tup (x : Fz T H H1) {xs : List V} (e : H a = some (.tup xs)) : H1 a = some (.tup xs) := x.keep a _ e (fun _ z => nomatch z) fun _ => (fun _ z => nomatch z)
theorem Fz.ins (x : Fz T H H1) {C dx : Addr} {fs : List (Str × V)} (e : H a = some (.ins C dx fs)) : H1 a = some (.ins C dx fs) := x.keep a _ e (fun _ z => nomatch z) fun _ => (fun _ z => nomatch z)
theorem Fz.dK (x : Fz T H H1) {kvs : List (Key × V)} (e : H a = some (.dK kvs)) : H1 a = some (.dK kvs) := x.keep a _ e (fun _ z => nomatch z) fun _ => (fun _ z => nomatch z)
theorem Fz.frz (x : Fz T H H1) {ob : Obj} {u : HO} (e : H a = some (.frz ob u)) : H1 a = some (.frz ob u) := x.keep a _ e (fun _ z => nomatch z) fun _ => (fun _ z => nomatch z)
theorem Fz.fr (x : Fz T H H1) (h : H1 p = none) : Fr H p := x.thr p (.inl h)
/-- what H did not know may be written: it is free or plain now -/
theorem Fz.mut' (x : Fz T H H1) (h : Fr H p) (h1 : H1 p = none ∨ ∃ u, H1 p = some u ∧ Pl u) : Fz T H (upd H1 p o) :=
  ⟨fun b u e n t => by
    by_cases hb : b = p
    · subst hb
      rcases h with h | ⟨ps, h⟩
      · rw [h] at e; cases e
      · rw [h] at e; cases e; exact absurd rfl (n ps)
    · rw [upd_ne hb]; exact x.keep b u e n t, fun b e => by
    by_cases hb : b = p
    · rw [hb]; exact h
    · exact x.thr b (e.elim (fun e => .inl (by rw [upd_ne hb] at e; exact e)) fun ⟨ps, e⟩ => .inr ⟨ps, by rw [upd_ne hb] at e; exact e⟩), fun t => (x.tab t).upd h1⟩
theorem Fz.mut (x : Fz T H H1) (h : Fr H p) (h1 : H1 p = some u) (q1 : Pl u := by trivial) : Fz T H (upd H1 p o) := x.mut' h (.inr ⟨_, h1, q1⟩)
theorem Fz.new (h : H p = none) : Fz T H (upd H p o) := Fz.refl.mut' (.inl h) (.inl h)
theorem Fz.snoc (x : Fz T H H1) (h : H1 p = none) : Fz T H (upd H1 p o) := x.trans (.new h)
/-- a place of T that holds a list may be written -/
theorem Fz.put (x : Fz T H H1) {xs ys : List V} (h : H p = some (.lst xs)) (h1 : H1 p = some (.lst ys)) (t : T p) (q : Pl o := by trivial) : Fz T H (upd H1 p o) :=
  ⟨fun b u e n z => by
    by_cases hb : b = p
    · subst hb; rw [h] at e; cases e; exact absurd rfl (z t xs)
    · rw [upd_ne hb]; exact x.keep b u e n z, fun b e => by
    by_cases hb : b = p
    · rw [hb] at e
      rcases e with e | ⟨ps, e⟩
      · rw [upd_same] at e; cases e
      · rw [upd_same] at e; cases e; exact q.elim
    · exact x.thr b (e.elim (fun e => .inl (by rw [upd_ne hb] at e; exact e)) fun ⟨ps, e⟩ => .inr ⟨ps, by rw [upd_ne hb] at e; exact e⟩), fun s => (x.tab s).upd (.inr ⟨_, h1, trivial⟩)⟩
theorem Fz.sqL {K : PySem.W.Frag} (x : Fz N0 H H1) {xs : List V} (h : SqL K H a xs) : SqL K H1 a xs := by
  rcases h with (h | ⟨o, h⟩) | h
  · exact .inl (.inl (x.at h fun z => z))
  · exact .inl (.inr ⟨o, x.at h fun z => z⟩)
  · exact .inr h
theorem Fz.same (x : Same H H1) (hf : ∀ b ps, H1 b = some (.tbl ps) → ∃ ps, H b = some (.tbl ps)) : Fz T H H1 := ⟨fun b o e _ _ => x b o e, fun b e => e.elim (fun e => .inl (x.free e)) fun ⟨ps, e⟩ => .inr (hf b ps e), fun t => t.ext fun b o e => x b o e⟩
/-- a new object: what follows is told the relation alone -/
theorem nw {Q : VK} (h : ∀ p H', Fz N0 H H' → H p = none → H' p = some o → Q (.ref p) H') : ∀ p, H p = none → Q (.ref p) (upd H p o) := fun p hp => h p _ (Fz.new hp) hp upd_same
end

/-! ### data -/
/-- a natural number as a value -/
abbrev vn (n : Nat) : V := .int (n : Int)
theorem vn_inj {n m : Nat} (h : vn n = vn m) : n = m := Int.ofNat.inj (V.int.inj h)
/-- what only tuples and numbers bear stays -/
def Pers {α : Type} (R : Hp → V → α → Prop) : Prop := ∀ (T : Addr → Prop) (H H' : Hp) (v : V) (x : α), Fz T H H' → R H v x → R H' v x
/-- the number n -/
def RN : Hp → V → Nat → Prop := fun _ v n => v = vn n
/-- a tuple of such -/
def RT {α : Type} (R : Hp → V → α → Prop) : Hp → V → List α → Prop := fun H v xs => ∃ a vs, v = .ref a ∧ H a = some (.tup vs) ∧ Paired (R H) vs xs
/-- a tuple of two -/
def RQ {α β : Type} (R : Hp → V → α → Prop) (S : Hp → V → β → Prop) : Hp → V → α × β → Prop := fun H v x => ∃ a u w, v = .ref a ∧ H a = some (.tup [u, w]) ∧ R H u x.1 ∧ S H w x.2
/-- a tuple of numbers, a pair of numbers, a log's entry, a log, a spec -/
abbrev TN : Hp → V → List Nat → Prop := RT RN
abbrev PN : Hp → V → Nat × Nat → Prop := RQ RN RN
abbrev EN : Hp → V → Nat × List Nat → Prop := RQ RN TN
abbrev LG : Hp → V → List (Nat × List Nat) → Prop := RT EN
abbrev NP : Hp → V → List (Nat × Nat) → Prop := RT PN
abbrev SP2 : Hp → V → List Nat × List (Nat × Nat) → Prop := RQ TN NP
/-- a list at p -/
def LL {α : Type} (R : Hp → V → α → Prop) (H : Hp) (p : Addr) (xs : List α) : Prop := ∃ vs, H p = some (.lst vs) ∧ Paired (R H) vs xs
section
variable {α β : Type} {R : Hp → V → α → Prop} {S : Hp → V → β → Prop} {T : Addr → Prop} {H H' : Hp}
theorem pRN : Pers RN := fun _ _ _ _ _ _ h => h
theorem pRT (p : Pers R) : Pers (RT R) := fun T H H' v xs f ⟨a, vs, e, h, q⟩ => ⟨a, vs, e, f.tup h, L2.Paired.mapP q fun v x r => p T H H' v x f r⟩
theorem pRQ (p : Pers R) (q : Pers S) : Pers (RQ R S) := fun T H H' v x f ⟨a, u, w, e, h, r, s⟩ => ⟨a, u, w, e, f.tup h, p T H H' _ _ f r, q T H H' _ _ f s⟩
theorem pTN : Pers TN := pRT pRN
theorem pPN : Pers PN := pRQ pRN pRN
theorem pEN : Pers EN := pRQ pRN pTN
theorem pLG : Pers LG := pRT pEN
theorem pNP : Pers NP := pRT pPN
theorem pSP2 : Pers SP2 := pRQ pTN pNP
theorem Pers.go (p : Pers R) {v : V} {x : α} (f : Fz T H H') (r : R H v x) : R H' v x := p T H H' v x f r
theorem Pers.all (p : Pers R) {vs : List V} {xs : List α} (f : Fz T H H') (r : Paired (R H) vs xs) : Paired (R H') vs xs := L2.Paired.mapP r fun v x q => p T H H' v x f q
end
section
variable {α β : Type} {F : α → β → Prop}
theorem pget : ∀ {l₁ : List α} {l₂ : List β}, Paired F l₁ l₂ → ∀ {i : Nat} {a : α}, l₁[i]? = some a → ∃ b, l₂[i]? = some b ∧ F a b
  | _, _, .nil, i, a, e => by simp at e
  | _, _, .cons h t, 0, a, e => by simp at e; subst e; exact ⟨_, rfl, h⟩
  | _, _, .cons h t, i + 1, a, e => by
    obtain ⟨b, h1, h2⟩ := pget t (i := i) (by simpa using e)
    exact ⟨b, by simpa using h1, h2⟩
theorem pget' : ∀ {l₁ : List α} {l₂ : List β}, Paired F l₁ l₂ → ∀ {i : Nat} {b : β}, l₂[i]? = some b → ∃ a, l₁[i]? = some a ∧ F a b
  | _, _, .nil, i, a, e => by simp at e
  | _, _, .cons h t, 0, a, e => by simp at e; subst e; exact ⟨_, rfl, h⟩
  | _, _, .cons h t, i + 1, a, e => by
    obtain ⟨b, h1, h2⟩ := pget' t (i := i) (by simpa using e)
    exact ⟨b, by simpa using h1, h2⟩
theorem papp : ∀ {l₁ m₁ : List α} {l₂ m₂ : List β}, Paired F l₁ l₂ → Paired F m₁ m₂ → Paired F (l₁ ++ m₁) (l₂ ++ m₂)
  | _, _, _, _, .nil, h => h
  | _, _, _, _, .cons h t, q => .cons h (papp t q)
theorem pset : ∀ {l₁ : List α} {l₂ : List β} (i : Nat) {a : α} {b : β}, Paired F l₁ l₂ → F a b → Paired F (l₁.set i a) (l₂.set i b)
  | _, _, _, _, _, .nil, _ => .nil
  | _, _, 0, _, _, .cons h t, q => .cons q t
  | _, _, i + 1, _, _, .cons h t, q => .cons h (pset i t q)
theorem ptake : ∀ {l₁ : List α} {l₂ : List β} (i : Nat), Paired F l₁ l₂ → Paired F (l₁.take i) (l₂.take i)
  | _, _, 0, _ => by simp; exact .nil
  | _, _, i + 1, .nil => by simp; exact .nil
  | _, _, i + 1, .cons h t => .cons h (ptake i t)
theorem pdrop : ∀ {l₁ : List α} {l₂ : List β} (i : Nat), Paired F l₁ l₂ → Paired F (l₁.drop i) (l₂.drop i)
  | _, _, 0, h => h
  | _, _, i + 1, .nil => .nil
  | _, _, i + 1, .cons h t => pdrop i t
theorem perase : ∀ {l₁ : List α} {l₂ : List β} (i : Nat), Paired F l₁ l₂ → Paired F (l₁.eraseIdx i) (l₂.eraseIdx i)
  | _, _, _, .nil => .nil
  | _, _, 0, .cons h t => t
  | _, _, i + 1, .cons h t => .cons h (perase i t)
theorem pdropLast : ∀ {l₁ : List α} {l₂ : List β}, Paired F l₁ l₂ → Paired F l₁.dropLast l₂.dropLast
  | _, _, .nil => .nil
  | _, _, .cons h .nil => .nil
  | _, _, .cons h (.cons h2 t) => .cons h (pdropLast (.cons h2 t))
end
/-- numbers alone -/
theorem prn : ∀ {H : Hp} {vs : List V} {ns : List Nat}, Paired (RN H) vs ns → vs = ns.map vn
  | _, _, _, .nil => rfl
  | H, _, _, .cons h t => by rw [List.map_cons, ← prn t]; rw [show _ = vn _ from h]
theorem prn' (H : Hp) : ∀ (ns : List Nat), Paired (RN H) (ns.map vn) ns
  | [] => .nil
  | n :: ns => .cons rfl (prn' H ns)
theorem tn_iff {H : Hp} {v : V} {ns : List Nat} : TN H v ns ↔ ∃ a, v = .ref a ∧ H a = some (.tup (ns.map vn)) :=
  ⟨fun ⟨a, vs, e, h, q⟩ => ⟨a, e, by rw [← prn q]; exact h⟩, fun ⟨a, e, h⟩ => ⟨a, _, e, h, prn' H ns⟩⟩
theorem ln_iff {H : Hp} {p : Addr} {ns : List Nat} : LL RN H p ns ↔ H p = some (.lst (ns.map vn)) :=
  ⟨fun ⟨vs, h, q⟩ => by rw [← prn q]; exact h, fun h => ⟨_, h, prn' H ns⟩⟩
theorem map_vn (ns : List Nat) : ns.map vn = (ns.map fun n : Nat => (n : Int)).map V.int := by
  rw [List.map_map]; rfl
theorem sz {n : Nat} (h : n ≤ 100000) : n ≤ sizeLine := Nat.le_trans h (by decide)
theorem szl {n : Nat} (h : n < 100000) : n < sizeLine := Nat.lt_of_lt_of_le h (by decide)
theorem vn_get {ns : List Nat} {i n : Nat} (h : ns[i]? = some n) : (ns.map vn)[i]? = some (vn n) := by rw [List.getElem?_map, h]; rfl
theorem vn_get' {ns : List Nat} {i : Nat} {v : V} (h : (ns.map vn)[i]? = some v) : ∃ n, ns[i]? = some n ∧ v = vn n := by
  rw [List.getElem?_map] at h
  cases e : ns[i]? with
  | none => rw [e] at h; cases h
  | some n => rw [e] at h; exact ⟨n, rfl, (Option.some.inj h).symm⟩
end Rw

/-! Own rules over HandS: items of lists stored by an operator, |=, extend by a tuple, isinstance, ranges as values, repr of data. -/
namespace Rw
open PySem PySem.Spec PyProof.Rows L2
section
variable {X : Cx}
/-! ### xs[k] read, ints or-ed in place -/
def rGetL : V → V → Hp → VK → Prop := fun x y H Q => ∃ p xs k v, x = .ref p ∧ y = vn k ∧ H p = some (.lst xs) ∧ xs[k]? = some v ∧ Q v H
theorem get_list : PGet X rGetL := by
  intro pins s σ H o i ov iv Q I ro ri h
  obtain ⟨p, xs, k, v, rfl, rfl, hp, hk, q⟩ := h
  cases ro
  obtain ⟨t, rfl⟩ := ri
  obtain ⟨its, r, pl, hz⟩ := I.list (SqL.of hp)
  obtain ⟨w, ew, rw'⟩ := r.get hk
  have hlt : k < xs.length := (List.getElem?_eq_some_iff.mp hk).1
  have hn := line63
  exact wpAny_getItem_list pl.isList (by omega) (by omega) (by simpa using ew) ⟨v, H, I, rw', q⟩
theorem bitOr_nat (a b : Nat) : Builtin.bitOr (a : Int) (b : Int) = ((a ||| b : Nat) : Int) := by
  rw [bitOr_nn (Int.natCast_nonneg _) (Int.natCast_nonneg _), Int.toNat_natCast, Int.toNat_natCast]
theorem bitAnd_nat (a b : Nat) : Builtin.bitAnd (a : Int) (b : Int) = ((a &&& b : Nat) : Int) := by
  rw [bitAnd_pp (Int.natCast_nonneg _) (Int.natCast_nonneg _), Int.toNat_natCast, Int.toNat_natCast]
/-- a & ~b -/
def nand (a b : Nat) : Nat := a - (a &&& b)
theorem bitAnd_not (a b : Nat) : Builtin.bitAnd (a : Int) (Builtin.bitNot (b : Int)) = ((nand a b : Nat) : Int) := by
  have h1 : ¬ 0 ≤ Builtin.bitNot (b : Int) := by
    show ¬ 0 ≤ -(b : Int) - 1
    omega
  have h2 : Builtin.bitNot (Builtin.bitNot (b : Int)) = (b : Int) := by
    show -(-(b : Int) - 1) - 1 = (b : Int)
    omega
  have hle : a &&& b ≤ a := Nat.and_le_left
  rw [bitAnd_pn (Int.natCast_nonneg _) h1, h2, Int.toNat_natCast, Int.toNat_natCast]
  unfold nand
  omega
theorem add_or : ∀ (x y : Nat), x &&& y = 0 → x + y = x ||| y := fun x => by
  induction x using Nat.strongRecOn with
  | _ x ih =>
    intro y h
    by_cases h0 : x = 0
    · subst h0; simp
    · have e1 : x / 2 &&& y / 2 = 0 := by rw [← Nat.and_div_two, h]
      have e2 := ih (x / 2) (by omega) (y / 2) e1
      rw [← Nat.or_div_two] at e2
      have m1 : (x ||| y) % 2 = 1 ↔ x % 2 = 1 ∨ y % 2 = 1 := Nat.or_mod_two_eq_one
      have m2 : (x &&& y) % 2 = 1 ↔ x % 2 = 1 ∧ y % 2 = 1 := Nat.and_mod_two_eq_one
      rw [h] at m2
      omega
theorem nand_eq (a b : Nat) : nand a b = Nat.bitwise (fun x y => x && !y) a b := by
  have h : a = (a &&& b) + Nat.bitwise (fun x y => x && !y) a b := by
    have e : a = (a &&& b) ||| Nat.bitwise (fun x y => x && !y) a b := by
      apply Nat.eq_of_testBit_eq
      intro i
      rw [Nat.testBit_or, Nat.testBit_and, Nat.testBit_bitwise (by rfl)]
      cases a.testBit i <;> cases b.testBit i <;> rfl
    have d : (a &&& b) &&& Nat.bitwise (fun x y => x && !y) a b = 0 := by
      apply Nat.eq_of_testBit_eq
      intro i
      rw [Nat.testBit_and, Nat.testBit_and, Nat.testBit_bitwise (by rfl), Nat.zero_testBit]
      cases a.testBit i <;> cases b.testBit i <;> rfl
    have s := add_or (a &&& b) (Nat.bitwise (fun x y => x && !y) a b) d
    omega
  unfold nand
  omega
theorem nand_bit (a b i : Nat) : (nand a b).testBit i = (a.testBit i && !b.testBit i) := by
  rw [nand_eq, Nat.testBit_bitwise (by rfl)]
def rOrN : R2 := fun x y H Q => ∃ a b : Nat, x = vn a ∧ y = vn b ∧ Q (vn (a ||| b)) H
def rAndN : R2 := fun x y H Q => ∃ a b : Nat, x = vn a ∧ y = vn b ∧ Q (vn (a &&& b)) H
/-- a & ~b: the right one as ~ left it -/
def rAndX : R2 := fun x y H Q => ∃ a b : Nat, x = vn a ∧ y = .int (Builtin.bitNot (b : Int)) ∧ Q (vn (nand a b)) H
def rShl1 : R2 := fun x y H Q => ∃ k : Nat, x = .int 1 ∧ y = vn k ∧ k ≤ 1000 ∧ Q (vn (2 ^ k)) H
def rShrN : R2 := fun x y H Q => ∃ a k : Nat, x = vn a ∧ y = vn k ∧ Q (vn (a >>> k)) H
theorem op_orN : OpR X (binaryOp .BitOr) rOrN := by
  intro pins s σ H x y v u Q I rx ry h
  obtain ⟨a, b, e1, e2, q⟩ := h
  exact op_or pins s σ H x y v u Q I rx ry ⟨a, b, e1, e2, by
    show Q (.int (Builtin.bitOr (a : Int) (b : Int))) H
    rw [bitOr_nat]; exact q⟩
theorem op_andN : OpR X (binaryOp .BitAnd) rAndN := by
  intro pins s σ H x y v u Q I rx ry h
  obtain ⟨a, b, e1, e2, q⟩ := h
  exact op_and pins s σ H x y v u Q I rx ry ⟨a, b, e1, e2, by
    show Q (.int (Builtin.bitAnd (a : Int) (b : Int))) H
    rw [bitAnd_nat]; exact q⟩
theorem op_andX : OpR X (binaryOp .BitAnd) rAndX := by
  intro pins s σ H x y v u Q I rx ry h
  obtain ⟨a, b, e1, e2, q⟩ := h
  exact op_and pins s σ H x y v u Q I rx ry ⟨a, _, e1, e2, by
    show Q (.int (Builtin.bitAnd (a : Int) (Builtin.bitNot (b : Int)))) H
    rw [bitAnd_not]; exact q⟩
theorem op_shl1 : OpR X (binaryOp .LShift) rShl1 := by
  intro pins s σ H x y v u Q I rx ry h
  obtain ⟨k, e1, e2, hk, q⟩ := h
  exact op_oneShl pins s σ H x y v u Q I rx ry ⟨k, e1, e2, by omega, by
    have e : ((2 : Int) ^ k) = ((2 ^ k : Nat) : Int) := by rw [Int.natCast_pow]; rfl
    rw [e]; exact q⟩
theorem op_shrNN : OpR X (binaryOp .RShift) rShrN := by
  intro pins s σ H x y v u Q I rx ry h
  obtain ⟨a, k, e1, e2, q⟩ := h
  exact op_shrN pins s σ H x y v u Q I rx ry ⟨a, k, e1, e2, by
    have e : (a : Int) / 2 ^ k = ((a >>> k : Nat) : Int) := by rw [Nat.shiftRight_eq_div_pow, Int.natCast_ediv, Int.natCast_pow]; rfl
    rw [e]; exact q⟩
theorem iop_orN : OpR X (inplaceOp .BitOr) rOrN := by
  intro pins s σ H x y v u Q I rx ry h
  obtain ⟨a, b, e1, e2, q⟩ := h
  exact iop_or pins s σ H x y v u Q I rx ry ⟨a, b, e1, e2, by
    show Q (.int (Builtin.bitOr (a : Int) (b : Int))) H
    rw [bitOr_nat]; exact q⟩
theorem ip_or : PIp X .BitOr rOrN := fun pins s σ H x y v u Q I rx ry h => iop_orN pins s σ H x y v u Q I rx ry h
theorem in_or : InOp X .BitOr rOrN := fun pins s σ H x y v u Q I rx ry h => iop_orN pins s σ H x y v u Q I rx ry h
theorem ip_subN : PIp X .Sub (fun x y H Q => ∃ a b : Nat, x = vn a ∧ y = vn b ∧ b ≤ a ∧ Q (vn (a - b)) H) := fun pins s σ H x y v u Q I rx ry ⟨a, b, e1, e2, hle, q⟩ =>
  ip_sub pins s σ H x y v u Q I rx ry ⟨a, b, e1, e2, by
    have e : (a : Int) - (b : Int) = ((a - b : Nat) : Int) := by omega
    show Q (.int ((a : Int) - (b : Int))) H
    rw [e]; exact q⟩
theorem testBit_shr (a k : Nat) : (a >>> k &&& 1 = 1) ↔ a.testBit k = true := by
  unfold Nat.testBit
  rw [Nat.and_comm]
  rcases Nat.mod_two_eq_zero_or_one (a >>> k) with h | h
  · rw [Nat.and_comm, Nat.and_one_is_mod, h]; simp [h, Nat.and_comm]
  · rw [Nat.and_comm, Nat.and_one_is_mod, h]; simp [h, Nat.and_comm]

/-! ### xs.extend(t), t a tuple -/
theorem ext_tup (l : Addr) (items : Array Value) (n : Nat) (b : Addr) (items2 : Array Value) (n2 : Nat) (dd : Option Addr) (sl : Array (Option Value)) (h0 : ¬(!items.isEmpty && Builtin.List.listTooLong (items.size + items2.size)) = true)
    (h1 : items.size ≤ sizeLine) (h2 : items.size + items2.size ≤ sizeLine + 1) :
    Meets (Builtin.«list.extend» ⟨[.ref l, .ref b], []⟩) (fun _ R s => s.heap.get? l = some { cls := .type "list", dict := none, data := .seq items n, slots := #[] } ∧
      s.heap.get? b = some { cls := .type "tuple", dict := dd, data := .seq items2 n2, slots := sl } ∧ R (.ok (.ret Value.none)) { s with heap := s.heap.update l (Obj.mapSeq fun x => x ++ items2), toks := s.toks }) :=
  .of_wp fun prog w A R s h => by
    obtain ⟨hp, g, d, tk, os⟩ := s
    obtain ⟨hl, hb, h⟩ := h
    have f1 := PySem.AutoSeq1.idx_int
    have f2 := PySem.AutoSeq1.sub_tuple_tuple
    have f3 := PySem.AutoSeq1.sub_list_list
    have f4 := PySem.AutoSeq1.sub_tuple_list
    have f5 := PySem.AutoSeq1.sub_list_tuple
    have hz' : (items ++ items2).size ≤ sizeLine + 1 := by
      rw [Array.size_append]
      exact h2
    wp_walk using (wpAny_updateSeq hl rfl (hz := h1) (_hz' := hz')), wpAny_loadPart' hl, wpAny_loadPart' hb
    exact ⟨_, rfl, h⟩
end
end Rw

/-! Own rules over HandS, further: extend by a tuple, isinstance, a range as a value, repr of data, enumerate of a tuple. -/
namespace Rw
open PySem PySem.Spec PyProof.Rows L2
section
variable {X : Cx}
def rExtT : V → List V → Hp → VK → Prop := fun x vs H Q => ∃ l b xs zs, x = .ref l ∧ vs = [.ref b] ∧ H l = some (.lst xs) ∧ H b = some (.tup zs) ∧ xs.length + zs.length ≤ sizeLine ∧ Q .non (upd H l (.lst (xs ++ zs)))
theorem mt_extT : MtM X "list.extend" rExtT := by
  intro pins s σ H x vs v us Q I rx rv h
  obtain ⟨l, b, xs, zs, rfl, rfl, hH, hB, hz, q⟩ := h
  cases rx
  obtain ⟨u, rfl, ru⟩ := rv.one
  cases ru
  obtain ⟨z, its, n, r, hl, e⟩ := I.lstM hH
  obtain ⟨its2, r2, ht, z2⟩ := I.tuple (SqT.of hB)
  obtain ⟨⟨c2, dd, dt, sl⟩, ho, hc, n2, hd⟩ := ht
  simp only at hc hd
  subst hc; subst hd
  have hl2 := r2.length
  have hsz : its.toArray.size + its2.toArray.size ≤ sizeLine := by
    rw [List.size_toArray, List.size_toArray]
    omega
  have hlong : ¬(!its.toArray.isEmpty && Builtin.List.listTooLong (its.toArray.size + its2.toArray.size)) = true := by
    rw [notLongL hsz, Bool.and_false]
    exact Bool.false_ne_true
  have hs1 : its.toArray.size ≤ sizeLine := by
    rw [List.size_toArray]
    omega
  refine call_meets F.slot_list_extend ⟨_, e, rfl⟩ F.entry_list_extend (F.args_list_extend_2 _ _) (ext_tup l its.toArray n b its2.toArray n2 dd sl hlong hs1 (Nat.le_succ_of_le hsz)) ⟨e, ho, ?_⟩
  refine ⟨.non, _, I.lset (its' := its ++ its2) hH e (by simp) (r.append r2) ?_, rfl, q⟩
  rw [List.length_append]
  exact hz

/-! ### isinstance of numbers and tuples -/
inductive IsA (H : Hp) : V → String → Bool → Prop
  | ii (i : Int) : IsA H (.int i) "int" true
  | ib (i : Int) : IsA H (.int i) "bool" false
  | tt {a : Addr} {xs : List V} (e : H a = some (.tup xs)) : IsA H (.ref a) "tuple" true
def rIs : List V → Hp → VK → Prop := fun xs H Q => ∃ x c b, xs = [x, .ty c] ∧ IsA H x c b ∧ Q (.bl b) H
theorem call_is : CallR X (.builtin "isinstance") rIs := by
  intro pins s σ H xs us Q I r h
  obtain ⟨x, c, b, rfl, t, q⟩ := h
  cases t with
  | ii i => exact call_isi pins s σ H _ us Q I r ⟨_, _, _, _, _, rfl, .ty "int", .base (.int i), kit_ty (by decide +kernel), q⟩
  | ib i => exact call_isi pins s σ H _ us Q I r ⟨_, _, _, _, _, rfl, .ty "bool", .base (.int i), kit_ty (by decide +kernel), q⟩
  | tt e => exact call_isi pins s σ H _ us Q I r ⟨_, _, _, _, _, rfl, .ty "tuple", .base (.tup e), kit_ty (by decide +kernel), q⟩

/-! ### range(n) as a value, walked -/
theorem cr_range1 : CallR X (.type "range") (fun vs H Q => ∃ j : Int, vs = [V.int j] ∧ ∀ p, H p = none → Q (.ref p) (upd H p (.rng 0 j))) := by
  intro pins s σ H vs us Q I r h
  obtain ⟨j, rfl, q⟩ := h
  obtain ⟨u, rfl, t, rfl⟩ := vals1 r
  refine call_range_1 ⟨.ref s.heap.objs.size, upd H s.heap.objs.size (.rng 0 j), I.laid (t' := s.toks + 2) (fun b o e => Heap.get?_push_of_some _ e) (Nat.le_refl _) ?_, rfl, q _ (I.hok.fresh (Nat.le_refl _))⟩
  exact ⟨_, _, _, Heap.get?_push_size _ rfl⟩
def iRngV (te : TE) : TI := fun σ H R => te σ H fun v H1 => ∃ (a : Addr) (n : Nat), v = .ref a ∧ H1 a = some (.rng 0 (n : Int)) ∧ n ≤ 1000000 ∧ R (Itr 0 n) H1
theorem pi_rng {tg e : Expr} {te : TE} (he : PE X e te) : PI X tg e (iRngV te) := by
  refine ⟨fun pins s σ H R I h => thn (he.run pins s σ H _ I h) fun u s1 ⟨v, H1, I1, r1, q1⟩ => ?_⟩
  obtain ⟨a, n, rfl, ha, hn, q⟩ := q1
  cases r1
  obtain ⟨t, u, w, ho⟩ := I1.hok a _ ha
  refine wpAny_pyIter_range (r := a) (a := 0) (b := (n : Int)) (c := 1) (t := t) (u := u) (v := w) ho (small_one (by omega) (by omega) (by omega) (by omega)) ?_
  have I2 : Inv X pins σ H1 { s1 with heap := s1.heap.push { cls := .type "range_iterator", data := .fields #[rawInt 0, rawInt (Builtin.Range.rangeSize 0 (n : Int) 1), rawInt 1] } } := I1.kept (t' := s1.toks) fun b o e => Heap.get?_push_of_some _ e
  refine ⟨s1.heap.objs.size, [s1.heap.objs.size], _, _, H1, rfl, I2, turn_range _ 0 n, ?_, fun b hb => ?_, q⟩
  · have e1 : (0 : Int) + ((0 : Nat) : Int) * 1 = 0 := by simp
    have e2 : ((n : Nat) : Int) - ((0 : Nat) : Int) = Builtin.Range.rangeSize 0 (n : Int) 1 := by
      rw [rangeSize_one]
      split <;> omega
    show IsRangeIter _ _ ((0 : Int) + ((0 : Nat) : Int) * 1) ((n : Int) - ((0 : Nat) : Int)) 1
    rw [e1, e2]
    exact Heap.get?_push_size _ rfl
  · have e : b = s1.heap.objs.size := by simpa using hb
    subst e
    exact I1.fpOk (Nat.le_refl _) (I1.hok.fresh (Nat.le_refl _))

/-! ### repr of tuples and numbers, nothing else being shown -/
def rRepr (K : PySem.W.Frag) : List V → Hp → VK → Prop := fun xs H Q => ∃ a d, xs = [.ref a] ∧ Dp K H (.ref a) d ∧ d.showable = true ∧ d.hasDict = false ∧ d.depth ≤ 40 ∧ d.shown.length ≤ sizeLine ∧ Q (.str d.shown) H
theorem cr_reprD (hg : X.A.guards = some []) (hu : X.A.units + 64 < cLine) : CallR X (.builtin "repr") (rRepr X.K) := by
  intro pins s σ H xs us Q I r h
  obtain ⟨a, d, rfl, hd, h1, h2, h3, h4, q⟩ := h
  obtain rfl := Vals.ref1 r
  obtain ⟨as, rd⟩ := Dp.reads I d (.ref a) (.ref a) hd rfl
  exact repr_of_reads' rd h1 (PyData.noDict_hsm h2) hg (by omega) (fun _ _ e => e) (fun h' u tk hk => ⟨.str d.shown, H, I.kept hk, ⟨_, rfl⟩, q⟩) h4

/-! ### enumerate(t), t a tuple -/
theorem new_enum {v : Value} {o : Obj} {H : Heap → Prop} (B : Begins v o H) :
    Meets (Builtin.«enumerate.__new__» ⟨[.type "enumerate", v], []⟩) (fun _ R s => H s.heap ∧
      R (.ok (.ret (.ref (s.heap.push o).objs.size))) { s with heap := (s.heap.push o).push { cls := .type "enumerate", data := .fields #[.none, .bool false, .ref s.heap.objs.size, rawInt 0, .none, .none] } }) :=
  .of_wp fun prog w A R s h => by
    obtain ⟨hp, g, d, tk, os⟩ := s
    obtain ⟨h1, h⟩ := h
    have hsub := sub_enumerate
    have q1 : ∀ {A' : Around} {E : Value → Shared → Prop} {Q : Value → Shared → Prop}, Q (.ref hp.objs.size) ⟨hp.push o, g, d, tk, os⟩ → wpAny (model prog w) A' (pyIter v) Q E ⟨hp, g, d, tk, os⟩ :=
      fun q => B.iter prog w _ _ ⟨hp, g, d, tk, os⟩ _ h1 q
    wp_walk using q1
    refine wpAny_stack_any fun st => wpAny_pure ?_
    split
    · rename_i c _ _ _ _ _
      cases (c == Value.type "enumerate")
      all_goals (wp_walk using q1; exact ⟨_, rfl, h⟩)
    · wp_walk using q1
      exact ⟨_, rfl, h⟩
theorem call_enumT {prog : Program} {w : World} {A : Around} {E : Value → Shared → Prop} {s : Shared} {t : Addr} {items : Array Value} {Q : Value → Shared → Prop} (ht : s.heap.IsTuple t items)
    (h : ∀ h', IsEnum h' (s.heap.objs.size + 1) s.heap.objs.size 0 .none → h'.IsTupleIter s.heap.objs.size t 0 → h'.objs.size = s.heap.objs.size + 2 →
      (∀ b o, s.heap.get? b = some o → h'.get? b = some o) → Q (.ref (s.heap.objs.size + 1)) { s with heap := h' }) :
    wpAny (model prog w) A (call (.type "enumerate") [.ref t]) Q E s := by
  refine callType_new F.called_enumerate (by decide) (F.typeCall_enumerate_1 _) (F.newCall_enumerate_1 _) (fun obj => F.args_object_init_2 obj _) F.entry_enumerate_new (new_enum (begins_tuple t items)) ⟨ht, ?_⟩
  have hz : (s.heap.push { cls := .type "tuple_iterator", data := .fields #[.ref t, .int 0 0] }).objs.size = s.heap.objs.size + 1 := Heap.size_push ..
  show _ ∧ _
  rw [hz]
  have he : IsEnum ((s.heap.push { cls := .type "tuple_iterator", data := .fields #[.ref t, .int 0 0] }).push { cls := .type "enumerate", data := .fields #[.none, .bool false, .ref s.heap.objs.size, rawInt 0, .none, .none] }) (s.heap.objs.size + 1) s.heap.objs.size 0 .none := by
    have k := Heap.get?_push_size (s.heap.push { cls := .type "tuple_iterator", data := .fields #[.ref t, .int 0 0] }) (o := { cls := .type "enumerate", data := .fields #[.none, .bool false, .ref s.heap.objs.size, rawInt 0, .none, .none] }) rfl
    rw [hz] at k
    exact k
  exact ⟨⟨_, he, rfl⟩, h _ he ⟨_, Heap.get?_push_of_some _ (Heap.get?_push_size _ rfl), rfl, rfl⟩ (by rw [Heap.size_push, hz]) fun b o x => Heap.get?_push_of_some _ (Heap.get?_push_of_some _ x)⟩
/-- the pairs (i, the i-th item) of a tuple -/
def IteT (K : PySem.W.Frag) (a : Addr) : It :=
  ⟨fun i H => ∃ (xs : List V) (x : V), SqT K H a xs ∧ xs[i]? = some x, fun i H v H' => ∃ T x, v = .ref T ∧ H T = none ∧ H' = upd H T (.tup [.int (i : Nat), x]) ∧ ∀ xs, SqT K H a xs → xs[i]? = some x, fun i H => ∃ xs : List V, SqT K H a xs ∧ xs.length ≤ i⟩
theorem turn_enumT {P : Program} {w : World} {K : PySem.W.Frag} {elts : List Expr} {kk : Nat} {tpos : Pos} (a e it : Addr) (hai : a ≠ it) (hae : a ≠ e) :
    Turn P w K (.Tuple elts kk tpos) (IteT K a) [e, it] e (fun i h => (∃ old, IsEnum h e it ((i : Nat) : Int) old) ∧ h.IsTupleIter it a i ∧ e ≠ it) where
  mem := by simp
  obj := fun i h st b hb => by
    obtain ⟨⟨old, he⟩, ⟨o, ho, hc, hd⟩, _⟩ := st
    rcases (show b = e ∨ b = it by simpa using hb) with z | z
    · rw [z]
      exact ⟨_, he, fun v q => nomatch q⟩
    · rw [z]
      exact ⟨o, ho, fun v q => by
        rw [hd] at q
        cases q⟩
  keep := fun i h h' st k => let ⟨⟨old, he⟩, hi, hne⟩ := st; ⟨⟨old, k e (by simp) _ he⟩, hi.at fun o q => k it (by simp) o q, hne⟩
  item := by
    intro X hP hw hK hc i pins s σ H E I hf st hg
    subst hP hw hK
    obtain ⟨⟨old, he⟩, hit, hne⟩ := st
    obtain ⟨xs, x, hq, hx⟩ := hg
    obtain ⟨its, rv, p, hz⟩ := I.tuple hq
    obtain ⟨u, hu, ru⟩ := rv.get hx
    have hel : e < s.heap.objs.size := Heap.lt_size he
    have hil : it < s.heap.objs.size := by
      obtain ⟨_, q, _⟩ := hit
      exact Heap.lt_size q
    have hlt : i < its.toArray.size := by
      have := (List.getElem?_eq_some_iff.mp hu).1
      simpa using this
    have hh : X.A.in1.handled = none := I.ok.hd hc
    refine wpAny_pyNext_enum_itemD (Draws.tuple hh it a hai its.toArray) he ⟨hit, p⟩ hlt hne (by simp only [List.mem_cons, List.not_mem_nil, or_false, not_or]; exact ⟨hne, fun z => hae z.symm⟩) fun x' h' tk hP ho hst hT hsz hk => ?_
    have ex : x' = u := by
      have q1 : its[i]? = some x' := by simpa using hP
      rw [hu] at q1
      exact (Option.some.inj q1).symm
    subst ex
    refine ⟨_, rfl, wpAny_letOwnedTupleGo_enum (s := { s with heap := h', toks := tk + 1 }) ho fun h'' he' sb => ?_⟩
    have hT2 : h''.get? s.heap.objs.size = some { cls := .type "tuple", data := .seq #[.int i tk, x'] } := (sb.2 _ (Nat.ne_of_gt hel)).trans hT
    have new : ObjOk X.prog X.w (upd H s.heap.objs.size (.tup [.int (i : Nat), x])) h'' s.heap.objs.size (.tup [.int (i : Nat), x]) :=
      ⟨by show 2 ≤ sizeLine; decide, [.int i tk, x'], .cons ⟨_, rfl⟩ (.cons ru .nil), ⟨_, hT2, rfl, _, rfl⟩⟩
    have I1 : Inv X pins σ (upd H s.heap.objs.size (.tup [.int (i : Nat), x])) { s with heap := h'', toks := tk + 1 } :=
      I.turnedNew (ch := [e, it]) (fun b ob hb q => (sb.2 b (fun z => hb (by simp [z]))).trans (hk b ob (fun z => hb (by simp [z])) (fun z => hb (by simp [z])) q)) hf (Nat.le_refl _) new
    refine ⟨.ref s.heap.objs.size, _, I1, rfl, ⟨_, x, rfl, I.hok.fresh (Nat.le_refl _), rfl, fun ys hy => by rw [I.tuple_inj hy hq]; exact hx⟩, ⟨⟨x', ?_⟩, hst.1.at fun o q => (sb.2 it (Ne.symm hne)).trans q, hne⟩, fun b hb => ?_⟩
    · have e1 : ((i + 1 : Nat) : Int) = (i : Int) + 1 := by omega
      rw [e1]
      exact he'
    · have hb' : b < s.heap.objs.size := by
        rcases (show b = e ∨ b = it by simpa using hb) with z | z
        · rw [z]
          exact hel
        · rw [z]
          exact hil
      rw [upd_ne (Nat.ne_of_lt hb')]
      exact (hf b hb).1
  done := by
    intro X hP hw hK hc i pins s σ H E I hf st hg
    subst hP hw hK
    obtain ⟨⟨old, he⟩, hit, hne⟩ := st
    obtain ⟨xs, hq, hx⟩ := hg
    obtain ⟨its, rv, p, hz⟩ := I.tuple hq
    obtain ⟨f0, f1, f2, f3, f4, f5⟩ := hf it (by simp)
    have hl := rv.length
    have hT : s.TypeIs (.ref e) "enumerate" := ⟨_, he, rfl⟩
    unfold pyNext
    refine wpAny_bind (wpAny_attempt (wpAny_callSpecial?_slot (name := Str.ofString "__next__") hT F.slot_enumerate_next (wpAny_call_entry F.slot_enumerate_next hT F.entry_enumerate_next ?_ (F.args_enumerate_next_1 _))))
    show wpAny _ _ (field (.ref e) 2 >>= _) _ _ _
    refine wpAny_bind (wpAny_field he rfl (x := .ref it) rfl ?_)
    refine wpAny_bind (wpAny_nextOf_tuple_end (I.ok.hd hc) hit p (by simp; omega) fun h' x he' hx' => ?_)
    obtain ⟨o, ho, hco⟩ := hx'
    refine wpAny_bind (wpAny_isInstance (T := "StopIteration") (b := true) ⟨o, ho, hco⟩ isSubtype_stop ?_)
    exact wpAny_pure ⟨rfl, I.turned (t' := s.toks) (fun b o hb q => he' b o hb q) f0 f1 f3 f4 f5⟩
  self := fun A i s Q E st h => let ⟨⟨_, he⟩, _⟩ := st; wpAny_pyIter_enum he h
def iEnumT (K : PySem.W.Frag) (ta : TA) : TI := fun σ H R => ta σ H fun vs H1 => ∃ a xs, vs = [.ref a] ∧ SqT K H1 a xs ∧ R (IteT K a) H1
theorem pi_enumT {e : Expr} {ta : TA} {p pos tpos : Pos} {elts : List Expr} {kk : Nat} (hg : Gl X "enumerate") (hm : X.mg "enumerate" = none) (ha : PA X [e] ta) (hs : starEach [e] X.env = [(false, eval e X.env)] := by rfl) :
    PI X (.Tuple elts kk tpos) (.Call (.Name "enumerate" p) [e] [] pos) (iEnumT X.K ta) := by
  refine ⟨fun pins s σ H R I h => ?_⟩
  refine Call_ (ld_blt I hg hm boot_enumerate (PyProof.Rows.callWith_type1 (thn (ha.run pos pins s σ H _ I h) fun us s1 ⟨vs, H1, I1, r1, q1⟩ => ?_) hs rfl))
  obtain ⟨a, xs, rfl, hq, q⟩ := q1
  obtain rfl := Vals.ref1 r1
  obtain ⟨its, rv, p', hz⟩ := I1.tuple hq
  have hal : a < s1.heap.objs.size := p'.lt
  refine call_enumT (items := its.toArray) p' fun h' he hit hsz hk => wpAny_pyIter_enum he ?_
  have I2 : Inv X pins σ H1 { s1 with heap := h' } := I1.kept (t' := s1.toks) hk
  refine ⟨s1.heap.objs.size + 1, [s1.heap.objs.size + 1, s1.heap.objs.size], _, _, H1, rfl, I2, turn_enumT a (s1.heap.objs.size + 1) s1.heap.objs.size (Nat.ne_of_lt hal) (Nat.ne_of_lt (Nat.lt_succ_of_lt hal)), ⟨⟨.none, he⟩, hit, Nat.succ_ne_self _⟩, fun b hb => ?_, q⟩
  have hle : s1.heap.objs.size ≤ b := by
    rcases (show b = s1.heap.objs.size + 1 ∨ b = s1.heap.objs.size by simpa using hb) with z | z
    · rw [z]
      exact Nat.le_add_right _ _
    · rw [z]
      exact Nat.le_refl _
  exact I1.fpOk hle (I1.hok.fresh hle)
theorem walk_enumT {K : PySem.W.Frag} {a : Addr} {xs : List V} : Walk (IteT K a) xs.length (fun H => SqT K H a xs) (YPair (fun i => some (.int (i : Nat))) (fun i => xs[i]?)) := by
  refine ⟨fun i _ hi q => ⟨xs, xs[i], q, by simp [hi]⟩, fun _ q => ⟨xs, q, Nat.le_refl _⟩, fun i H v H' _ q y => ?_⟩
  obtain ⟨T, x, h1, h2, h3, h4⟩ := y
  exact ⟨T, .int (i : Nat), x, h1, h2, h3, rfl, h4 xs q⟩
theorem walk_zipT {K : PySem.W.Frag} {a b : Addr} {xs ys : List V} {n : Nat} (hn : n = min xs.length ys.length) : Walk (RZ.ItzT K a b) n (fun H => SqT K H a xs ∧ SqT K H b ys) (YPair (fun i => xs[i]?) (fun i => ys[i]?)) := by
  subst hn
  refine ⟨fun i _ hi q => ?_, fun _ q => ⟨xs, ys, q.1, q.2, by omega⟩, fun i H v H' _ q y => ?_⟩
  · have h1 : i < xs.length := by omega
    have h2 : i < ys.length := by omega
    exact ⟨xs, ys, xs[i], ys[i], q.1, q.2, by simp [h1], by simp [h2]⟩
  · obtain ⟨T, x, z, h1, h2, h3, h4, h5⟩ := y
    exact ⟨T, x, z, h1, h2, h3, h4 xs q.1, h5 ys q.2⟩
end
end Rw

/-! set(xs) of lists and tuples of numbers, of lists of pairs; sorted of such sets. -/
namespace Rw
open PySem PySem.Spec PyProof.Rows L2
abbrev setO (w : World) : Obj := { cls := .type "set", dict := none, data := .set #[] 0 (.fresh 0 0 (!w.params.followText "set-order")) }
abbrev lit (l : Addr) : Obj := { cls := .type "list_iterator", data := .fields #[.ref l, .int 0 0] }
abbrev tit (l : Addr) : Obj := { cls := .type "tuple_iterator", data := .fields #[.ref l, .int 0 0] }
section
variable {P : Program} {w : World} {A : Around} {E : Value → Shared → Prop} {s : Shared}
set_option maxHeartbeats 8000000 in
/-- set(xs), xs a list: the loop is given -/
theorem set_ofL {l : Addr} {items : Array Value} {Z : Heap → Prop} {Q : Value → Shared → Prop} (hl : s.heap.IsList l items)
    (loop : ∀ R : Result → Shared → Prop, (∀ h' tk, Z h' → (∀ b o, s.heap.get? b = some o → h'.get? b = some o) → R (.ok (.ret .none)) { s with heap := h', toks := tk }) →
      codeAny (model P w) A.in1.in1 (.builtin "set.update.loop" ⟨[.ref s.heap.objs.size, .ref (s.heap.push (setO w)).objs.size], []⟩) R { s with heap := (s.heap.push (setO w)).push (lit l) })
    (h : ∀ h' tk, Z h' → (∀ b o, s.heap.get? b = some o → h'.get? b = some o) → Q (.ref s.heap.objs.size) { s with heap := h', toks := tk }) :
    wpAny (model P w) A (call (.type "set") [.ref l]) Q E s := by
  obtain ⟨c, tl, hmro⟩ := F.called_set.mro
  have hmade := F.called_set.made
  have hsub := F.called_set.sub
  refine wpAny_call (codeAny_of_tree ?_)
  show wpAny _ _ (callAny (.type "set") _) _ _ _
  refine wpAny_pure ⟨Code.quiet_builtin _ (by decide +kernel), codeAny_builtin F.entry_type_call ?_⟩
  rw [Around.under_plain (weight_type_call_type "set" [.ref l] []) rfl]
  have k1 := F.called_set.notType
  have k2 := F.called_set.canCreate
  have k3 := F.typeCall_set_1 (.ref l)
  repeat (any_goals (first | assumption | wp_step))
  refine codeAny_mono (code_set_led1 (.ref l) (E := E) (Q₁ := fun obj s₁ => obj = .ref s.heap.objs.size ∧ s₁ = { s with heap := s.heap.push (setO w) }) ⟨rfl, rfl⟩) fun r s₁ hr => ?_
  cases r with
  | error e => exact hr
  | ok fl =>
    cases fl with
    | ret obj =>
      obtain ⟨rfl, rfl⟩ := hr
      have hS : (s.heap.push (setO w)).get? s.heap.objs.size = some (setO w) := Heap.get?_push_size _ rfl
      have hT : Shared.TypeIs { s with heap := s.heap.push (setO w) } (.ref s.heap.objs.size) "set" := ⟨_, hS, rfl⟩
      have hli := F.called_set.init.lookup
      have hbi := F.called_set.init.bind (.ref s.heap.objs.size)
      repeat (any_goals (first | assumption | wp_step))
      refine codeAny_mono (codeAny_call_builtin (R := wants (fun r s₂ => r = .none ∧ ∃ h' tk, s₂ = { s with heap := h', toks := tk } ∧ Z h' ∧ (∀ b o, s.heap.get? b = some o → h'.get? b = some o)) E) F.called_set.init.plain F.entry_set_init (check_set_init_1 hT ?_)) fun r₂ s₂ hr₂ => ?_
      · obtain ⟨⟨oc, od, odt, osl⟩, hol, hcl, nl, hdl⟩ := hl
        simp only at hcl hdl
        subst hcl; subst hdl
        have hol' : (s.heap.push (setO w)).get? l = some { cls := .type "list", dict := od, data := .seq items nl, slots := osl } := Heap.get?_push_of_some _ hol
        have f1 := F.sub_list_set
        have f2 := F.sub_list_frozenset
        have f3 : (Value.type "list" == Value.type "dict") = false := by decide
        have hl1 : (s.heap.push (setO w)).IsList l items := ⟨_, hol', rfl, nl, rfl⟩
        unfold Builtin.«set.__init__» noKeywords Builtin.Frozenset.updateFrom
        generalize hPI : pyIter = PI
        wp_walk
        subst hPI
        refine wpAny_pyIter_list hl1 ?_
        refine wpAny_bind (wpAny_runValue ?_)
        refine loop _ fun h' tk z k => ?_
        show wpAny _ _ _ _ _ _
        refine wpAny_pure ?_
        show wpAny _ _ (ret Value.none) _ _ _
        exact wpAny_pure ⟨rfl, h', tk, rfl, z, k⟩
      · cases r₂ with
        | error e => exact hr₂
        | ok fl₂ =>
          cases fl₂ with
          | ret r =>
            obtain ⟨rfl, h', tk, rfl, z, k⟩ := hr₂
            repeat (any_goals (first | assumption | wp_step))
            exact h _ _ z k
          | _ => exact hr₂.elim
    | _ => exact hr.elim
/-- set(xs) of a list of numbers -/
theorem set_intsL {l : Addr} {items : Array Value} (ns : List Int) {Q : Value → Shared → Prop} (hh : A.handled = none) (hl : s.heap.IsList l items) (hit : IntsAre items.toList ns) (hb : ns.length + 1 < scanBound)
    (h : ∀ (h' : Heap) (tk c : Nat), SetR w h' s.heap.objs.size (fun j => decide (j ∈ ns)) c → c ≤ ns.length → (∀ b o, s.heap.get? b = some o → h'.get? b = some o) → Q (.ref s.heap.objs.size) { s with heap := h', toks := tk }) :
    wpAny (model P w) A (call (.type "set") [.ref l]) Q E s := by
  have hisz : items.size = ns.length := by
    have q := IntsAre.length hit
    rw [Array.length_toList] at q
    exact q
  have hlS : l < s.heap.objs.size := by
    obtain ⟨o, ho, _⟩ := hl
    exact Heap.lt_size ho
  refine set_ofL (Z := fun h' => ∃ c, SetR w h' s.heap.objs.size (fun j => decide (j ∈ ns)) c ∧ c ≤ ns.length) hl (fun R hR => ?_) fun h' tk ⟨c, z, hc⟩ k => h h' tk c z hc k
  have hh3 : A.in1.in1.in1.handled = none := by simp [hh]
  have e1 : (s.heap.push (setO w)).objs.size = s.heap.objs.size + 1 := Heap.size_push ..
  have hneI : l ≠ (s.heap.push (setO w)).objs.size := by
    rw [e1]
    exact Nat.ne_of_lt (Nat.lt_succ_of_lt hlS)
  have hSf : s.heap.objs.size ∉ [(s.heap.push (setO w)).objs.size, l] := by
    rw [e1]
    simp only [List.mem_cons, List.not_mem_nil, or_false, not_or]
    exact ⟨Nat.ne_of_lt (Nat.lt_succ_self _), Nat.ne_of_gt hlS⟩
  have hval : ∀ (i : Nat) (v : Value), items[i]? = some v → ∃ k t, ns[i]? = some k ∧ v = .int k t := fun i v hv => by
    have hi : i < ns.length := by
      rw [← hisz]
      exact (Array.getElem?_eq_some_iff.mp hv).1
    obtain ⟨t, e⟩ := PyProof.Rows.IntsAre.int_at hit i v (by rw [Array.getElem?_toList]; exact hv)
    refine ⟨ns[i], t, List.getElem?_eq_getElem hi, ?_⟩
    rw [e, List.getD_eq_getElem?_getD, List.getElem?_eq_getElem hi] <;> rfl
  have hl1 : (s.heap.push (setO w)).IsList l items := hl.push _
  have hg : ((s.heap.push (setO w)).push (lit l)).get? s.heap.objs.size = some (setO w) := Heap.get?_push_of_some _ (Heap.get?_push_size _ rfl)
  refine set_update_ints ((Walks.list hh3 _ l hneI items).toS) s.heap.objs.size hSf ns hisz hb hval (items.size - 0) 0 _ (by omega) (Nat.zero_le _) ⟨⟨_, Heap.get?_push_size _ rfl, rfl, rfl⟩, hl1.push _⟩ ⟨0, Nat.le_refl 0, setR_new_at hg⟩ fun s' c' hm hc' hS' => ?_
  obtain ⟨h', g2, d', tk', os'⟩ := s'
  obtain rfl : g2 = s.gens := hm.gens
  obtain rfl : d' = s.drawn := hm.drawn
  obtain rfl : os' = s.os := hm.os
  rw [hisz] at hc'
  refine hR h' tk' ⟨c', hS', hc'⟩ fun b o e => ?_
  have hb0 : b < s.heap.objs.size := Heap.lt_size e
  refine hm.heap b o ?_ (Heap.get?_push_of_some _ (Heap.get?_push_of_some _ e))
  rw [e1]
  simp only [List.mem_cons, List.not_mem_nil, or_false, not_or]
  exact ⟨Nat.ne_of_lt hb0, Nat.ne_of_lt (Nat.lt_succ_of_lt hb0)⟩
end
section
variable {X : Cx}
/-- set(xs), xs a list or a tuple of numbers -/
def rSetI (K : PySem.W.Frag) (w : World) : List V → Hp → VK → Prop := fun xs H Q => ∃ (l : Addr) (ns : List Int), xs = [V.ref l] ∧ (SqL K H l (ns.map V.int) ∨ SqT K H l (ns.map V.int)) ∧ ns.length ≤ 1000 ∧
  ∀ a c, H a = none → c ≤ ns.length → Q (.ref a) (upd H a (SetO w a (fun j => decide (j ∈ ns)) c))
theorem cr_setI (hc : X.calm = true) : CallR X (.type "set") (rSetI X.K X.w) := by
  intro pins s σ H xs us Q I r h
  obtain ⟨l, ns, rfl, hl, hz, q⟩ := h
  obtain rfl := Vals.ref1 r
  have hn : H s.heap.objs.size = none := I.hok.fresh (Nat.le_refl _)
  rcases hl with hl | hl
  · obtain ⟨its, rv, pl, _⟩ := I.list hl
    refine set_intsL ns (I.ok.hd hc) pl.isList (by simpa using rv.ints) (by unfold scanBound; omega) fun h' tk c R hcn k => ?_
    exact ⟨.ref s.heap.objs.size, upd H s.heap.objs.size (SetO X.w s.heap.objs.size (fun j => decide (j ∈ ns)) c), I.laid (t' := tk) k (Nat.le_refl _) (setO_new R), rfl, q _ c hn hcn⟩
  · obtain ⟨its, rv, pt, _⟩ := I.tuple hl
    refine call_set_tupI ns (I.ok.hd hc) (show s.heap.IsTuple l its.toArray from pt) (by simpa using rv.ints) (by unfold scanBound; omega) fun h' tk c R hcn k => ?_
    exact ⟨.ref s.heap.objs.size, upd H s.heap.objs.size (SetO X.w s.heap.objs.size (fun j => decide (j ∈ ns)) c), I.laid (t' := tk) k (Nat.le_refl _) (setO_new R), rfl, q _ c hn hcn⟩
end
end Rw

namespace Rw
open PySem PySem.Spec PyProof.Rows L2
section
variable {P : Program} {w : World} {A : Around} {E : Value → Shared → Prop} {s : Shared}
/-- the loop of set.update over tuples of numbers, few of them unlike -/
theorem upd_tups {I : Addr} {fp wr : List Addr} {G : Array GenState → Array GenState → Prop} {n : Nat} {Pv : Nat → Value → Prop} {St : Nat → Shared → Prop} {R : Result → Shared → Prop}
    (W : WalksS P w A.in1 I fp wr G n Pv St) (S : Addr) (hSf : S ∉ fp) (ks : List (Addr × List Int)) (hn : n = ks.length) (hfew : ∀ L : List (Addr × List Int), (L.map (·.2)).Nodup → (∀ p ∈ L, p ∈ ks) → L.length + 1 < 64)
    (hval : ∀ i v, Pv i v → ∃ p, ks[i]? = some p ∧ v = .ref p.1) (g0 : Heap) (hk : ∀ p ∈ ks, IsT P w g0 p.2 p.1) (hS0 : g0.get? S = none) (hw0 : ∀ b ∈ wr, g0.get? b = none) (hu : A.in1.units < cLine) :
    ∀ (k i : Nat) (s : Shared), n - i = k → i ≤ n → St i s → (∀ b o, g0.get? b = some o → s.heap.get? b = some o) → (∃ L es ep t, SetTR P w s.heap S L es ep t ∧ Got ks i L) →
      (∀ s' L es ep t, Moved (S :: wr) G s s' → SetTR P w s'.heap S L es ep t → Got ks n L → (∀ b o, g0.get? b = some o → s'.heap.get? b = some o) → R (.ok (.ret .none)) s') →
      codeAny (model P w) A (.builtin "set.update.loop" ⟨[.ref S, .ref I], []⟩) R s := by
  have nS : S ∉ wr := fun z => hSf (W.sub _ z)
  have up : ∀ b ∈ wr, b ∈ S :: wr := fun b z => List.mem_cons_of_mem _ z
  have stay : ∀ {s s' : Shared}, Moved wr G s s' → (∀ b o, g0.get? b = some o → s.heap.get? b = some o) → ∀ b o, g0.get? b = some o → s'.heap.get? b = some o := fun m z b o e =>
    m.heap b o (fun q => by
      rw [hw0 b q] at e
      cases e) (z b o e)
  intro k
  induction k with
  | zero =>
    intro i s e1 hi st z ⟨L, es, ep, t, hS, g⟩ fin
    obtain rfl : i = n := by omega
    refine codeAny_builtin F.entry_set_update_loop ?_
    rw [Around.under_plainId F.plain_set_update_loop _]
    show wpAny _ A.in1 (pyNext (.ref I) >>= _) _ _ s
    refine wpAny_bind (W.done s _ _ st fun s' m => ?_)
    show wpAny _ A.in1 (ret Value.none) _ _ s'
    have z' := stay m z
    have sub : ∀ p ∈ L, p ∈ ks := fun p q => List.mem_of_mem_take (g.sub p q)
    exact wpAny_pure (fin s' L es ep t (m.mono up) (hS.keep (fun o e => m.heap S o nS e) fun p q => isT_keep (hk p (sub p q)) z') g z')
  | succ k ih =>
    intro i s e1 hi st z ⟨L, es, ep, t, hS, g⟩ fin
    have hlt : i < n := by omega
    refine codeAny_builtin F.entry_set_update_loop ?_
    rw [Around.under_plainId F.plain_set_update_loop _]
    show wpAny _ A.in1 (pyNext (.ref I) >>= _) _ _ s
    refine wpAny_bind (W.item i s _ _ hlt st fun v s' hP st' m => ?_)
    obtain ⟨p, hp, rfl⟩ := hval i v hP
    have z' := stay m z
    have sub : ∀ p ∈ L, p ∈ ks := fun p q => List.mem_of_mem_take (g.sub p q)
    have hS' : SetTR P w s'.heap S L es ep t := hS.keep (fun o e => m.heap S o nS e) fun q r => isT_keep (hk q (sub q r)) z'
    have hx : IsT P w s'.heap p.2 p.1 := isT_keep (hk p (List.mem_of_getElem? hp)) z'
    show wpAny _ A.in1 (holding [Value.ref p.1] (setAdd S (.ref p.1)) >>= _) _ _ s'
    refine wpAny_bind (wpAny_holding ?_)
    unfold setAdd
    refine wpAny_holding ?_
    refine wpAny_bind (wpAny_pyHash_tuple hu hx ?_)
    refine add_at (s := { s' with toks := s'.toks + (p.2.length + 1) }) hS' hx hu (hfew L hS'.nd sub) fun b h' L' es' ep' t' sb hS2 c1 c2 => ?_
    have g' : Got ks (i + 1) L' := by
      by_cases c : p.2 ∈ L.map (·.2)
      · rw [c1 c]
        exact g.same hp c
      · exact g.more hp (c2 c)
    have z2 : ∀ b o, g0.get? b = some o → h'.get? b = some o := fun b o e => (sb.2 b (fun q => by
      rw [q, hS0] at e
      cases e)).trans (z' b o e)
    refine wpAny_pure ⟨plainId_quiet F.plain_set_update_loop _, ih (i + 1) _ (by omega) hlt (W.frame _ s' _ _ st' (Nat.le_add_right _ _) fun b hb o e => ?_) z2 ⟨L', es', ep', t', hS2, g'⟩ fun s2 L2 es2 ep2 t2 m2 hS3 g2 z3 => ?_⟩
    · rw [sb.2 b (fun q : b = S => hSf (by rw [← q]; exact hb))]
      exact e
    · refine fin s2 L2 es2 ep2 t2 (Moved.trans W.gtrans ((m.mono up).then_heap (Nat.le_add_right _ _) fun b o hb e => ?_) m2) hS3 g2 z3
      rw [sb.2 b (fun q : b = S => hb (by rw [q]; exact List.mem_cons_self))]
      exact e
/-- set(xs) of a list of tuples of numbers -/
theorem set_tupsL {l : Addr} {items : Array Value} (ks : List (Addr × List Int)) {Q : Value → Shared → Prop} (hh : A.handled = none) (hl : s.heap.IsList l items) (hit : items.toList = ks.map fun p => Value.ref p.1)
    (hk : ∀ p ∈ ks, IsT P w s.heap p.2 p.1) (hfew : ∀ L : List (Addr × List Int), (L.map (·.2)).Nodup → (∀ p ∈ L, p ∈ ks) → L.length + 1 < 64) (hu : A.units + 3 < cLine)
    (h : ∀ (h' : Heap) (tk : Nat) L es ep t, SetTR P w h' s.heap.objs.size L es ep t → Got ks ks.length L → (∀ b o, s.heap.get? b = some o → h'.get? b = some o) → Q (.ref s.heap.objs.size) { s with heap := h', toks := tk }) :
    wpAny (model P w) A (call (.type "set") [.ref l]) Q E s := by
  have hisz : items.size = ks.length := by
    have q := congrArg List.length hit
    rw [Array.length_toList, List.length_map] at q
    exact q
  have hlS : l < s.heap.objs.size := by
    obtain ⟨o, ho, _⟩ := hl
    exact Heap.lt_size ho
  refine set_ofL (Z := fun h' => ∃ L es ep t, SetTR P w h' s.heap.objs.size L es ep t ∧ Got ks ks.length L) hl (fun R hR => ?_) fun h' tk ⟨L, es, ep, t, z, g⟩ k => h h' tk L es ep t z g k
  have hh3 : A.in1.in1.in1.handled = none := by simp [hh]
  have e1 : (s.heap.push (setO w)).objs.size = s.heap.objs.size + 1 := Heap.size_push ..
  have hneI : l ≠ (s.heap.push (setO w)).objs.size := by
    rw [e1]
    exact Nat.ne_of_lt (Nat.lt_succ_of_lt hlS)
  have hSf : s.heap.objs.size ∉ [(s.heap.push (setO w)).objs.size, l] := by
    rw [e1]
    simp only [List.mem_cons, List.not_mem_nil, or_false, not_or]
    exact ⟨Nat.ne_of_lt (Nat.lt_succ_self _), Nat.ne_of_gt hlS⟩
  have hval : ∀ (i : Nat) (v : Value), items[i]? = some v → ∃ p, ks[i]? = some p ∧ v = .ref p.1 := fun i v hv => by
    have q : items.toList[i]? = some v := by
      rw [Array.getElem?_toList]
      exact hv
    rw [hit, List.getElem?_map] at q
    cases hq : ks[i]? with
    | none =>
      rw [hq] at q
      cases q
    | some p =>
      rw [hq] at q
      exact ⟨p, rfl, (Option.some.inj q).symm⟩
  have none_of : ∀ b, s.heap.objs.size ≤ b → s.heap.get? b = none := fun b hb => by
    cases q : s.heap.get? b with
    | none => rfl
    | some o => exact absurd (Nat.lt_of_lt_of_le (Heap.lt_size q) hb) (Nat.lt_irrefl _)
  have hl1 : (s.heap.push (setO w)).IsList l items := hl.push _
  have hg : ((s.heap.push (setO w)).push (lit l)).get? s.heap.objs.size = some (setO w) := Heap.get?_push_of_some _ (Heap.get?_push_size _ rfl)
  refine upd_tups ((Walks.list hh3 _ l hneI items).toS) s.heap.objs.size hSf ks hisz hfew hval s.heap hk (none_of _ (Nat.le_refl _)) (fun b hb => none_of b (by
      rw [List.mem_singleton.mp hb, e1]
      exact Nat.le_succ _)) (by show A.units + 1 + 1 + 1 < cLine; omega) (items.size - 0) 0 _ (by omega) (Nat.zero_le _)
    ⟨⟨_, Heap.get?_push_size _ rfl, rfl, rfl⟩, hl1.push _⟩ (fun b o e => Heap.get?_push_of_some _ (Heap.get?_push_of_some _ e)) ⟨[], #[], 0, _, setTR_fresh hg, Got.zero ks⟩ fun s' L es ep t m z g k => ?_
  obtain ⟨h', g2, d', tk', os'⟩ := s'
  obtain rfl : g2 = s.gens := m.gens
  obtain rfl : d' = s.drawn := m.drawn
  obtain rfl : os' = s.os := m.os
  rw [hisz] at g
  exact hR h' tk' ⟨L, es, ep, t, z, g⟩ k
end
section
variable {X : Cx}
/-- set(xs), xs a list of tuples of numbers, few of them unlike -/
def rSetT (K : PySem.W.Frag) (P : Program) (w : World) : List V → Hp → VK → Prop := fun xs H Q => ∃ (l : Addr) (ks : List (Addr × List Int)), xs = [V.ref l] ∧ SqL K H l (ks.map fun p => V.ref p.1) ∧ (∀ p ∈ ks, SqT K H p.1 (p.2.map V.int)) ∧
  (∀ L : List (Addr × List Int), (L.map (·.2)).Nodup → (∀ p ∈ L, p ∈ ks) → L.length + 1 < 64) ∧ ∀ a L, H a = none → (∀ p ∈ L, p ∈ ks) → (∀ p ∈ ks, p.2 ∈ L.map (·.2)) → Q (.ref a) (upd H a (SetTO P w a L))
theorem cr_setT (hc : X.calm = true) (hu : X.A.units + 64 < cLine) : CallR X (.type "set") (rSetT X.K X.prog X.w) := by
  intro pins s σ H xs us Q I r h
  obtain ⟨l, ks, rfl, hl, hk, hf, q⟩ := h
  rw [Vals.ref1 r]
  obtain ⟨its, rv, pl, hz⟩ := I.list hl
  have hn : H s.heap.objs.size = none := I.hok.fresh (Nat.le_refl _)
  refine set_tupsL (P := X.prog) (w := X.w) ks (I.ok.hd hc) pl.isList (by simpa using refs_of_vals rv) (fun p hp => I.isT (hk p hp)) hf (by omega) fun h' tk L es ep t R g k => ?_
  refine ⟨.ref s.heap.objs.size, upd H s.heap.objs.size (SetTO X.prog X.w s.heap.objs.size L), I.laid (t' := tk) k (Nat.le_refl _) (setTO_new R.t0), rfl, q _ L hn (fun p hp => ?_) fun p hp => ?_⟩
  · exact List.mem_of_mem_take (g.sub p hp)
  · exact g.all p (by
      rw [List.take_length]
      exact hp)
end
end Rw

/-! Defs called while nothing is being shown (repr wants it), and the end of the law's row for them, with one table of code objects. -/
namespace Rw
open PySem PySem.Spec PyProof.Rows L2
/-- as FnOk, where nothing is being shown and nothing raises -/
structure FnG (P : Program) (w : World) (K : PySem.W.Frag) (mg : Str → Option Value) (base : Heap) (k : Nat) (f : Addr) (fd : FuncData) (ps : List Str) (sp : Sp) : Prop where
  len : ∀ vs H Q E, sp vs H Q E → vs.length = ps.length
  run : ∀ (A : Around) (outer : List Env) (s : Shared) (H : Hp) (args : Args) (us : List Value) (vs : List V) (Q : VK) (E : XK), Room k A → A.guards = some [] → Env0 P w K mg base A outer s H → BindsTo s fd args (ps.zip us) → Vals vs us →
    sp vs H Q E → codeAny (model P w) A (.call (.ref f) args) (CR C8.CX0 outer P w H s Q E) s
section
variable {P : Program} {w : World} {K : PySem.W.Frag} {mg : Str → Option Value} {base : Heap}
theorem FnG.of {k : Nat} {f : Addr} {fd : FuncData} {ps : List Str} {sp : Sp} (F : FnOk P w K mg base C8.CX0 k f fd ps sp) : FnG P w K mg base k f fd ps sp :=
  ⟨F.len, fun A outer s H args us vs Q E hr _ => F.run A outer s H args us vs Q E hr⟩
/-- a def by its body -/
theorem fnG {x qual : Str} {st : Stmt} {f : Addr} {fd : FuncData} {N ps : List Str} {k : Nat} {sp : Sp} (F : C8.Fun K x qual st f fd) (S : FnScope N ps (C8.fnScope st)) (len : ∀ vs H Q E, sp vs H Q E → vs.length = ps.length)
    (hbody : ∀ (cdv : Value) (A : Around) (outer : List Env) (s : Shared) (H : Hp) (vs : List V) (Q : VK) (E : XK), Room k (A.deeper (envOfC qual (C8.fnScope st) s.heap.objs.size f cdv)) → A.guards = some [] → sp vs H Q E →
      ∃ t, PSs (cxOf C8.CX0 P w K mg base N qual (C8.fnScope st) f cdv A outer s H E).nox (C8.fnBody st) t ∧ t { nx := fun _ H' => Q .non H', rt := Q } (start N vs) H) : FnG P w K mg base (k + 1) f fd ps sp := by
  obtain ⟨oc, od, dV, kV, doc, pm, an, cdv, ct, osl, rfl, lk, hcd⟩ := F.ex
  refine ⟨len, fun A outer s H args us vs Q E hr hgd e0 hb rv hs => ?_⟩
  have nl := len _ _ _ _ hs
  have kept : ∀ b o, base.get? b = some o → s.heap.get? b = some o := fun b o e => (e0.bs b o e).1
  have KX : K.In s.heap := e0.mod.kin.keeps kept
  have kinds : ∀ y ∈ ps.zip us, (C8.fnScope st).names.lookup y.1 = some .local ∨ ((C8.fnScope st).names.lookup y.1 = some .cell ∧ ((cellsFrom (s.heap.objs.size + 1) (C8.fnScope st).names []).lookup y.1).isSome = true) := fun y hy => by
    obtain ⟨n, v⟩ := y
    rcases S.par n (List.of_mem_zip hy).1 with q | q
    · exact Or.inl q
    · exact Or.inr ⟨q, PySem.W.cellsFrom_some _ _ _ (Or.inl q)⟩
  refine codeAny_call_function hr.depth (KX _ _ lk) rfl S.co S.gen rfl (PySem.W.codeRec_of KX hcd) (hb _ _ _ _ ?_)
  refine wpAny_newFunctionEnv_cells S.kind kinds fun env he s1 y => ?_
  subst he
  refine ⟨(e0.mod.nolimit.keeps kept).keeps y.toInCall.keep, codeAny_func ?_⟩
  obtain ⟨t, ht, hq⟩ := hbody cdv A outer s H vs Q E (hr.deeper _) hgd hs
  have I : Inv (cxOf C8.CX0 P w K mg base N qual (C8.fnScope st) f cdv A outer s H E) [] (start N vs) H s1 := inv_start S hr.hd e0 nl rv y
  refine wpAny_mono (ht.nox.run [] s1 (start N vs) H _ I hq) (fun fl s' z => ?_) fun e s' z => z
  cases fl with
  | ret u =>
    obtain ⟨v, σ', H', J, r, q⟩ := z
    exact ⟨v, H', J.os, J.bare, J.base, J.hok, r, q⟩
  | next =>
    obtain ⟨σ', H', J, q⟩ := z
    exact ⟨V.non, H', J.os, J.bare, J.base, J.hok, (rfl : RelV V.non Value.none), q⟩
  | brk =>
    obtain ⟨_, _, _, q⟩ := z
    exact q.elim
  | cont =>
    obtain ⟨_, _, _, q⟩ := z
    exact q.elim
/-- a def that may be called by its name -/
structure CalG (P : Program) (w : World) (K : PySem.W.Frag) (mg : Str → Option Value) (base : Heap) (k : Nat) (x : Str) (sp : Sp) : Prop where
  ex : ∃ (f : Addr) (fd : FuncData) (ps : List Str), FnG P w K mg base k f fd ps sp ∧ mg x = some (.ref f) ∧ PySem.W.keepIn K (.ref f) = true ∧ Binds K fd ps []
end
section
variable {X : Cx} {k j : Nat} {x : Str} {sp : Sp} {p pos : Pos} {e : Expr} {es : List Expr} {t : TA}
theorem pe_cG (c : CalG X.prog X.w X.K X.mg X.base k x sp) (hr : Room j X.A) (hk : k ≤ j) (hgd : X.A.guards = some []) (hg : Gl X x) (ha : PA X (e :: es) t)
    (hdb : (x == ("__debug__" : Str)) = false := by decide) (he : starEach (e :: es) X.env = (false, eval e X.env) :: starEach es X.env := by rfl) (hpl : (backTo pos (starEach es X.env)).any (·.1) = false := by rfl) :
    PE X (.Call (.Name x p) (e :: es) [] pos) (tCall sp [] C8.E0 t) := by
  obtain ⟨f, fd, ps, F, hm, kp, hb⟩ := c.ex
  refine ⟨fun pins s σ H Q I h => ?_⟩
  refine wpAny_Call_Name_kw (ld_glob I hg hm ?_ hdb)
  refine PySem.W.callWith_K (h₀ := X.base) I.ok.mod.kin kp (thn (ha.run pos pins s σ H _ I h) fun us s1 ⟨vs, H1, I1, r, q⟩ => ⟨I1.kIn, ?_⟩) he hpl
  have q' : sp vs H1 Q C8.E0 := by
    have q2 : sp (vs ++ []) H1 Q C8.E0 := q
    rw [List.append_nil] at q2
    exact q2
  have hl : (us ++ []).length = ps.length := by
    rw [List.append_nil, ← r.length]
    exact F.len _ _ _ _ q'
  have hb' := hb s1 us I1.kIn hl
  rw [List.append_nil] at hb'
  refine wpAny_call (codeAny_mono (F.run X.A X.stack s1 H1 ⟨us, []⟩ us vs Q C8.E0 (hr.mono hk) hgd I1.env0 hb' r q') fun r s' z => ?_)
  cases r with
  | error e => exact (show False from z).elim
  | ok fl =>
    cases fl with
    | ret u => exact I1.after z
    | next => exact (show False from z).elim
    | brk => exact (show False from z).elim
    | cont => exact (show False from z).elim
end

/-! ### the end of the row -/
/-- the law's own call: nothing is tracked but the script and one table -/
theorem callG {P : Program} {w : World} {K : PySem.W.Frag} {mg mb : Str → Option Value} {k : Nat} {fa a c tp : Addr} {fd : FuncData} {x : Str} {sp : Sp} {s₁ : Shared} {vs : List Value} {ns : List Int}
    (KX : K.In s₁.heap) (hns : s₁.heap.Ns mainGlobals mg) (hb : s₁.heap.Ns builtinsNs mb) (hbb : ∀ x : Str, x ≠ "__name__" → mb x = bootBuiltins x) (hlim : s₁.heap.NoLimit) (hg : s₁.gens = #[])
    (hT : s₁.heap.get? tp = some { cls := .none, data := .fields #[] }) (nT : K.lookup tp = none) (C : PySem.W.CodeHd s₁.heap c tp)
    (hbm : ∃ (bm : Addr) (ob : Obj), mg "__builtins__" = some (.ref bm) ∧ bm ≠ builtinsNs ∧ s₁.heap.get? bm = some ob ∧ ob.cls = .type "module" ∧ ob.dict = some builtinsNs ∧ ob.data = .plain)
    (ha : s₁.heap.get? a = some { cls := .type "list", data := .seq vs.toArray }) (hi : IntsAre vs ns) (hl : ns.length ≤ sizeLine) (hr : Room k callerA)
    (F : ∀ base : Heap, K.In base → base.Ns mainGlobals mg → LamX.TabB base mg c tp → FnG P w K mg base k fa fd [x] sp) (hbind : ∀ (s : Shared) (u : Value), BindsTo s fd ⟨[u], []⟩ [(x, u)])
    (hsp : ∀ H : Hp, H tp = some (.tbl #[]) → SqL K H a (ns.map V.int) → sp [.ref a] H (fun v _ => v = .bl true) fun _ _ _ => False) :
    codeAny (model P w) callerA (.call (.ref fa) ⟨[.ref a], []⟩) (fun r s' => r = .ok (.ret (.bool true)) ∧ OldK s₁.heap s'.heap ∧ s'.os = s₁.os ∧ AllBare s'.gens) s₁ := by
  have rv : Vals (ns.map V.int) vs := vals_ints hi
  have lv := hi.length
  have nat : a ≠ tp := fun z => by
    rw [z, hT] at ha
    have z' : Data.fields #[] = Data.seq vs.toArray _ := congrArg Obj.data (Option.some.inj ha)
    cases z'
  -- what is tracked, T telling whether the script is
  have core : ∀ H : Hp, H tp = some (.tbl #[]) → (H a = none ∨ (H a = some (.frz { cls := .type "list", data := .seq vs.toArray } (.lst (ns.map V.int))) ∧ K.lookup a = none)) → (∀ b, b ≠ a → b ≠ tp → H b = none) → SqL K H a (ns.map V.int) →
      codeAny (model P w) callerA (.call (.ref fa) ⟨[.ref a], []⟩) (fun r s' => r = .ok (.ret (.bool true)) ∧ OldK s₁.heap s'.heap ∧ s'.os = s₁.os ∧ AllBare s'.gens) s₁ := by
    intro H h1 h2 h3 hS
    have hok : HOk P w H s₁.heap := fun b o e => by
      by_cases e1 : b = tp
      · subst e1
        rw [h1] at e
        cases e
        exact hT
      · by_cases e2 : b = a
        · subst e2
          rcases h2 with h2 | ⟨h2, _⟩
          · rw [h2] at e
            cases e
          · rw [h2] at e
            cases e
            exact ⟨ha, by rw [List.length_map]; exact hl, vs, _, rv, ha⟩
        · rw [h3 b e2 e1] at e
          cases e
    -- what is neither list nor table stands in the base
    have free : ∀ {b : Addr} {o : Obj}, s₁.heap.get? b = some o → (∀ us n, o.data ≠ .seq us n) → o.data ≠ .fields #[] → H b = none := fun {b o} e n1 n2 => by
      by_cases e1 : b = tp
      · subst e1
        rw [hT] at e
        cases e
        exact (n2 rfl).elim
      · by_cases e2 : b = a
        · subst e2
          rw [ha] at e
          cases e
          exact (n1 _ _ rfl).elim
        · exact h3 b e2 e1
    have into : ∀ {b : Addr} {o : Obj}, s₁.heap.get? b = some o → H b = none → (hidT s₁.heap H).get? b = some o := fun e n => hidT_get e n
    have ns1 : ∀ {b : Addr} {m : Str → Option Value}, s₁.heap.Ns b m → (hidT s₁.heap H).Ns b m := fun {b m} ⟨o, es, ep, e, d, r⟩ => ⟨o, es, ep, into e (free e (fun us n z => by rw [d] at z; cases z) fun z => by rw [d] at z; cases z), d, r⟩
    have kb : K.In (hidT s₁.heap H) := fun b o e => into (KX b o e) (by
      by_cases e1 : b = tp
      · subst e1
        rw [nT] at e
        cases e
      · by_cases e2 : b = a
        · subst e2
          rcases h2 with h2 | ⟨_, h2⟩
          · exact h2
          · rw [h2] at e
            cases e
        · exact h3 b e2 e1)
    have md : Mod K mg (hidT s₁.heap H) := ⟨kb, ns1 hns, ⟨mb, ns1 hb, hbb⟩, let ⟨mc, x1, x2⟩ := hlim; ⟨mc, ns1 x1, x2⟩⟩
    have TB : LamX.TabB (hidT s₁.heap H) mg c tp := by
      refine ⟨?_, ?_, fun z => ?_⟩
      · obtain ⟨o, us, file, tf, flags, tg, inF, text, tt, e1, r1, r2, r3, rest⟩ := C
        refine ⟨o, us, file, tf, flags, tg, inF, text, tt, into e1 (free e1 (fun us n z => ?_) fun z => ?_), r1, r2, r3, rest⟩
        · rw [r2] at z
          cases z
        · rw [r2] at z
          cases z
          simp at r3
      · obtain ⟨bm, ob, b1, b2, b3, b4, b5, b6⟩ := hbm
        refine ⟨bm, ob, b1, b2, fun q => ?_, fun q => ?_, into b3 (free b3 (fun us n z => ?_) fun z => ?_), b4, b5, b6⟩
        · obtain ⟨o, es, ep, e, d, _⟩ := hns
          rw [q, e] at b3
          cases b3
          rw [d] at b6
          cases b6
        · rw [q, hT] at b3
          cases b3
          cases b6
        · rw [b6] at z
          cases z
        · rw [b6] at z
          cases z
      · obtain ⟨o, es, ep, e, d, _⟩ := hns
        rw [z, hT] at e
        cases e
        cases d
    have e0 : Env0 P w K mg (hidT s₁.heap H) callerA [] s₁ H := ⟨rfl, md, fun b o e => of_hidT e, Nat.le_of_eq (hidT_size _ _), trivial, fun b z => (nomatch (show b ∈ ([] : List Addr) from z)), hok, .of_eq hg⟩
    refine codeAny_mono ((F _ kb (ns1 hns) TB).run callerA [] s₁ H ⟨[.ref a], []⟩ [.ref a] [.ref a] _ _ hr rfl e0 (hbind s₁ (.ref a)) (.cons rfl .nil) (hsp H h1 hS)) fun r s' z => ?_
    cases r with
    | error e => exact (show False from z).elim
    | ok fl =>
      cases fl with
      | next => exact (show False from z).elim
      | brk => exact (show False from z).elim
      | cont => exact (show False from z).elim
      | ret u =>
        obtain ⟨v, H', os, bare, un, hok', r', q⟩ := z
        obtain rfl : v = .bl true := q
        obtain rfl : u = Value.bool true := r'
        obtain ⟨more, g1⟩ := un.tbls tp #[] h1
        have g2 : s'.heap.get? tp = some { cls := .none, data := .fields (#[] ++ more) } := hok' tp _ g1
        have old : ∀ b o, b ≠ tp → s₁.heap.get? b = some o → s'.heap.get? b = some o := fun b o nb e => by
          by_cases e2 : b = a
          · subst e2
            rcases h2 with h2 | ⟨h2, _⟩
            · exact un.keep b o e h2 (fun z => (nomatch (show b ∈ ([] : List Addr) from z))) (by simp)
            · have z2 := un.frzs b _ _ h2
              obtain ⟨e3, _⟩ := hok' b _ z2
              rw [ha] at e
              cases e
              exact e3
          · exact un.keep b o e (h3 b e2 nb) (fun z => (nomatch (show b ∈ ([] : List Addr) from z))) (by simp)
        refine ⟨rfl, ⟨fun b o e => ?_, fun b o e => ?_⟩, os, bare⟩
        · by_cases e1 : b = tp
          · subst e1
            rw [hT] at e
            cases e
            exact .inr (.inl ⟨(C.tab hT).isCodeTable, rfl, #[], more, rfl, g2⟩)
          · exact .inl (old b o e1 e)
        · by_cases e1 : b = tp
          · rw [e1]
            exact ⟨_, g2⟩
          · exact ⟨o, old b o e1 e⟩
  cases hk : K.lookup a with
  | some o =>
    have e := KX a o hk
    rw [ha] at e
    cases e
    exact core (fun b => if b = tp then some (.tbl #[]) else none) (if_pos rfl) (.inl (if_neg nat)) (fun b _ n => if_neg n)
      (.inr ⟨_, vs.toArray, _, hk, rfl, rfl, rfl, by rw [List.size_toArray, lv]; exact hl, by simpa using rv⟩)
  | none =>
    have e1 : (fun b => if b = tp then some (HO.tbl #[]) else if b = a then some (HO.frz { cls := .type "list", data := .seq vs.toArray } (.lst (ns.map V.int))) else none) a = some (.frz { cls := .type "list", data := .seq vs.toArray } (.lst (ns.map V.int))) :=
      (if_neg nat).trans (if_pos rfl)
    exact core (fun b => if b = tp then some (.tbl #[]) else if b = a then some (.frz { cls := .type "list", data := .seq vs.toArray } (.lst (ns.map V.int))) else none) (if_pos rfl) (.inr ⟨e1, hk⟩) (fun b n1 n2 => (if_neg n2).trans (if_neg n1))
      (.inl (.inr ⟨_, e1⟩))
/-- the walk that k_head leaves -/
theorem walkG {l : PySem.W.OpenLaw} {n k : Nat} {q : Program} {loose : List Str} {XP : (Str → Option Value) → Heap → Prop} {YP : World → Heap → Prop} {d : DefRec} {K : Params → PySem.W.Frag} {x : Str}
    (hn : l.most = some n) (hn2 : n ≤ sizeLine) (hdf : d.params.defaults = []) (hr : Room k callerA) (hY : ∀ (w : World) (h : Heap), YP w h → (K w.params).In h)
    (F : ∀ (w : World) (mg : Str → Option Value) (fa : Addr) (h : Heap), YP w h → (K w.params).In h → h.Ns mainGlobals mg → mg d.name = some (.ref fa) →
      ∃ (fd : FuncData) (c tp : Addr) (sp : Sp), h.get? tp = some { cls := .none, data := .fields #[] } ∧ (K w.params).lookup tp = none ∧ PySem.W.CodeHd h c tp ∧ (∀ (s : Shared) (u : Value), BindsTo s fd ⟨[u], []⟩ [(x, u)]) ∧
        (∀ (H : Hp) (a : Addr) (ns : List Int), ns.length ≤ n → (∀ z ∈ ns, Builtin.Int.intBits z ≤ 1048576) → H tp = some (.tbl #[]) → SqL (K w.params) H a (ns.map V.int) → sp [.ref a] H (fun v _ => v = .bl true) fun _ _ _ => False) ∧
        ∀ base : Heap, (K w.params).In base → base.Ns mainGlobals mg → LamX.TabB base mg c tp → FnG l.prog w (K w.params) mg base k fa fd [x] sp) :
    PySem.W.WalkO q loose XP YP l.row.toRowW d [] (fun f vs => PySem.call f vs) := by
  refine Att.attach_callB hn hdf fun w s₀ s₁ mg mb fa o pm cd doc a vs ns G Y ho hd hcd hmg hobj hints hlen hbits hg => ?_
  have KX := hY w _ Y
  obtain ⟨fd, c, tp, sp, hT, nT, C, hb, hsp, hF⟩ := F w mg fa _ Y KX G.T.g hmg
  exact callG KX G.T.g G.T.b G.T.builtins G.T.nolimit hg hT nT C G.T.bmain hobj hints (Nat.le_trans hlen hn2) hr hF hb fun H h1 hS => hsp H a ns hlen hbits h1 hS
end Rw

/-! sorted(d, key=lambda x: ..) of a dict whose keys are numbers. -/
namespace Rw
open PySem PySem.Spec PyProof.Rows L2
/-- a lambda of one parameter, no captured names, called -/
theorem lam_run {P : Program} {w : World} {K : PySem.W.Frag} {mg : Str → Option Value} {base : Heap} {A : Around} {outer : List Env} {s : Shared} {H : Hp} {f c' : Addr} {pm ctv : Value} {qual x : Str} {params : Arguments} {body : Expr} {scope : Scope} {u : Value} {v : V} {Q : VK} {k : Nat} {tb : TE}
    (S : FnScope [x] [x] scope) (hbind : ∀ u : Value, bindArgs (PySem.W.kla_fn "<lambda>" qual params body scope [] pm (.ref c') ctv) ⟨[u], []⟩ = pure [(x, u)])
    (e0 : Env0 P w K mg base A outer s H) (hr : Room (k + 1) A) (hf : s.heap.get? f = some (PySem.W.kla_obj "<lambda>" qual params body scope [] pm c' ctv)) (hc : H c' = some (LamX.CodeO c' qual)) (r : RelV v u)
    (hb : PE (cxOf C8.CX0 P w K mg base [x] qual scope f (.ref c') A outer s H C8.E0).nox body tb) (h : tb (start [x] [v]) H Q) :
    codeAny (model P w) A (.call (.ref f) ⟨[u], []⟩) (CR C8.CX0 outer P w H s Q C8.E0) s := by
  obtain ⟨⟨oc, us, t, hoc, hdc, hvc⟩, _, _⟩ := e0.hok c' _ hc
  have kept : ∀ b o, base.get? b = some o → s.heap.get? b = some o := fun b o e => (e0.bs b o e).1
  have kinds : ∀ y ∈ [x].zip [u], scope.names.lookup y.1 = some .local ∨ (scope.names.lookup y.1 = some .cell ∧ ((cellsFrom (s.heap.objs.size + 1) scope.names []).lookup y.1).isSome = true) := fun y hy => by
    obtain ⟨n, v⟩ := y
    rcases S.par n (List.of_mem_zip hy).1 with q | q
    · exact Or.inl q
    · exact Or.inr ⟨q, PySem.W.cellsFrom_some _ _ _ (Or.inl q)⟩
  refine PySem.W.kla_callFunE hr.depth hf rfl S.co S.gen rfl ⟨c', oc, us, t, rfl, hoc, hdc, hvc⟩ ?_
  rw [hbind]
  refine wpAny_pure (wpAny_newFunctionEnv_cells S.kind kinds fun env he s1 y => ?_)
  subst he
  refine ⟨(e0.mod.nolimit.keeps kept).keeps y.toInCall.keep, ?_⟩
  have I : Inv (cxOf C8.CX0 P w K mg base [x] qual scope f (.ref c') A outer s H C8.E0) [] (start [x] [v]) H s1 := inv_start S hr.hd e0 rfl (.cons r .nil) y
  refine PySem.W.kla_codeExpr (wpAny_mono (hb.nox.run [] s1 (start [x] [v]) H Q I h) (fun z s' q => ?_) fun e s' q => q)
  obtain ⟨w', H', J, rz, q⟩ := q
  exact ⟨w', H', J.os, J.bare, J.base, J.hok, rz, q⟩
section
variable {X : Cx}
/-- untracked records of ours: they may be pinned -/
structure Own (X : Cx) (pins : List (Addr × Obj)) (H : Hp) (b : Addr) : Prop where
  h : H b = none
  l : b ≠ X.env.locals
  f : b ∉ X.fs
  s : X.s_0.heap.objs.size ≤ b
  c : ∀ x c, X.env.cells.lookup x = some c → c ≠ b
  p : ∀ p ∈ X.pn ++ pins, p.1 ≠ b
theorem Own.fp {pins : List (Addr × Obj)} {H : Hp} {b : Addr} (o : Own X pins H b) : FpOk X pins H b := ⟨o.h, o.l, o.f, .inr o.s, o.c, o.p⟩
theorem own_new {pins : List (Addr × Obj)} {σ : L2.St} {H H' : Hp} {s : Shared} {b : Addr} (I : Inv X pins σ H s) (hb : s.heap.objs.size ≤ b) (n : H' b = none) : Own X pins H' b := by
  obtain ⟨f0, f1, f2, f3, f4, f5⟩ := I.fpOk hb n
  refine ⟨f0, f1, f2, ?_, f4, f5⟩
  have h0 : X.s_0.heap.objs.size ≤ X.env.locals := I.ok.above
  have h1 := I.lt
  exact Nat.le_trans h0 (Nat.le_trans (Nat.le_of_lt h1) hb)
theorem Own.to {pins : List (Addr × Obj)} {H H' : Hp} {b : Addr} (o : Own X pins H b) (n : H' b = none) : Own X pins H' b := ⟨n, o.l, o.f, o.s, o.c, o.p⟩
/-- the turns: each item's key by the call of f; J is kept -/
theorem rest_lam {pins : List (Addr × Obj)} {σ : L2.St} {A : Around} {f a kS : Addr} {fo : Obj} {e1 : Nat} {b : Bool} {vs : List Value} {kz : List Int} {J : Hp → Prop} {E : Value → Shared → Prop} {R : PySem.Fin → Shared → Prop} {H0 : Hp}
    (ok : Own X pins H0 kS) (n1 : kS ≠ a) (n2 : kS ≠ f) (hlen : kz.length = vs.length) (hZ : vs.length ≤ 100000)
    (turn : ∀ (i : Nat) (v : Value) (k : Int) (H : Hp) (s : Shared) (ps : List (Addr × Obj)), vs[i]? = some v → kz[i]? = some k → J H → Inv X ps σ H s → s.heap.get? f = some fo →
      wpAny (model X.prog X.w) A (call (.ref f) [v]) (fun u s' => ∃ H' t, Inv X ps σ H' s' ∧ u = .int k t ∧ J H') (fun _ _ => False) s)
    {H : Hp} {s : Shared} (I : Inv X (pins ++ [(f, fo), (kS, seqObj "list" #[] 0), (a, seqObj "list" #[] e1)]) σ H s) (j : J H)
    (done : ∀ (H' : Hp) (s' : Shared) (kA : Array Value) (e : Nat), Inv X (pins ++ [(f, fo), (kS, seqObj "list" kA e), (a, seqObj "list" #[] e1)]) σ H' s' → J H' → IntsAre kA.toList kz →
      wpAny (model X.prog X.w) A (ksk_end a b vs.toArray e1 (.ref kS) kA) R E s') :
    wpAny (model X.prog X.w) A (ksk_rest a (.ref f) b vs.toArray e1 (.ref kS)) R E s := by
  unfold ksk_rest
  refine wpAny_bind (wpAny_rule ?_)
  first
    | rw [List.forIn_toArray]
    | (rw [← Array.forIn_toList]; simp only [List.toList_toArray])
    | rw [← Array.forIn_toList]
  refine wpAny_bind (ksk_fold (fun i s' => ∃ H' kA e, Inv X (pins ++ [(f, fo), (kS, seqObj "list" kA e), (a, seqObj "list" #[] e1)]) σ H' s' ∧ J H' ∧ IntsAre kA.toList (kz.take i)) vs 0 s ⟨H, #[], 0, I, j, by simpa using IntsAre.nil⟩ ?step ?fin)
  case step =>
    rintro n x s' hx ⟨H', kA, e, I', j', hk⟩
    simp only [Nat.zero_add] at hk ⊢
    have hn : n < vs.length := (List.getElem?_eq_some_iff.mp hx).1
    obtain ⟨k, hkn⟩ : ∃ k, kz[n]? = some k := ⟨_, List.getElem?_eq_getElem (by omega)⟩
    have hz : kA.size ≤ vs.length := by
      have h1 := hk.length
      rw [Array.length_toList, List.length_take] at h1
      omega
    have pf := I'.pin (f, fo) (by simp)
    refine wpAny_bind (wpAny_attempt (wpAny_mono (turn n x k H' s' _ hx hkn j' I' pf.1) (fun u s2 q => ?_) fun _ _ z => z.elim))
    obtain ⟨H2, t2, I2, rfl, j2⟩ := q
    try dsimp only
    have qk := I2.pin (kS, seqObj "list" kA e) (by simp)
    have qf := I2.pin (f, fo) (by simp)
    have qa := I2.pin (a, seqObj "list" #[] e1) (by simp)
    obtain ⟨c2, hc2⟩ : ∃ c2, (s2.heap.update kS (Obj.mapSeq (·.push (.int k t2)))).get? kS = some (seqObj "list" (kA.push (.int k t2)) c2) := ⟨_, get?_update_seq qk.1 (·.push (.int k t2))⟩
    have sb := Heap.SameBut.update s2.heap kS (Obj.mapSeq (·.push (.int k t2)))
    have hs := sizeLine_eq
    refine wpAny_bind (listUpdate_at qk.1 rfl ?_ (by omega) (Nat.le_trans (Nat.le_of_eq (Array.size_push ..)) (by omega)))
    have I3 : Inv X (pins ++ [(f, fo), (a, seqObj "list" #[] e1)]) σ H2 s2 := I2.pins_of fun p hp => I2.pin p (by
      rcases List.mem_append.mp hp with z | z
      · simp [z]
      · simp only [List.mem_cons, List.not_mem_nil, or_false] at z
        rcases z with z | z <;> simp [z])
    have ok2 := ok.to (H' := H2) qk.2.1
    have I4 : Inv X (pins ++ [(f, fo), (a, seqObj "list" #[] e1)]) σ H2 { s2 with heap := s2.heap.update kS (Obj.mapSeq (·.push (.int k t2))) } :=
      I3.turned (t' := s2.toks) (fun b o hb e => (sb.2 b hb).trans e) ok2.h ok2.l (.inr ok2.s) ok2.c fun p hp => by
        rcases List.mem_append.mp hp with z | z
        · exact ok2.p p (List.mem_append_left _ z)
        · rcases List.mem_append.mp z with z | z
          · exact ok2.p p (List.mem_append_right _ z)
          · simp only [List.mem_cons, List.not_mem_nil, or_false] at z
            rcases z with z | z
            · rw [z]
              exact fun q => n2 q.symm
            · rw [z]
              exact fun q => n1 q.symm
    have I5 : Inv X (pins ++ [(f, fo), (kS, seqObj "list" (kA.push (.int k t2)) c2), (a, seqObj "list" #[] e1)]) σ H2 { s2 with heap := s2.heap.update kS (Obj.mapSeq (·.push (.int k t2))) } := I4.pins_of fun p hp => by
      rcases List.mem_append.mp hp with z | z
      · exact I4.pin p (by simp [z])
      · simp only [List.mem_cons, List.not_mem_nil, or_false] at z
        rcases z with z | z | z
        · rw [z]
          exact I4.pin (f, fo) (by simp)
        · rw [z]
          exact ⟨hc2, qk.2.1, qk.2.2.1, qk.2.2.2.1, fun v q => nomatch q⟩
        · rw [z]
          exact I4.pin (a, seqObj "list" #[] e1) (by simp)
    have ek : kz.take (n + 1) = kz.take n ++ [k] := by
      rw [List.take_add_one, hkn]
      simp
    have ea : (kA.push (Value.int k t2)).toList = kA.toList ++ [Value.int k t2] := by simp
    exact wpAny_pure ⟨rfl, H2, kA.push (.int k t2), c2, I5, j2, by rw [ea, ek]; exact ksk_snoc hk⟩
  case fin =>
    rintro s' ⟨H', kA, e, I', j', hk⟩
    have hk' : IntsAre kA.toList kz := by
      have e3 : kz.take (0 + vs.length) = kz := List.take_of_length_le (by omega)
      rw [e3] at hk
      exact hk
    have qk := I'.pin (kS, seqObj "list" kA e) (by simp)
    try dsimp only
    exact wpAny_bind (listItems_at qk.1 rfl (done H' s' kA e I' j' hk'))
/-- what the sort gives, for numbers whose keys are a function of them -/
theorem out_ints {g : Int → Int} {ns : List Int} {vs out : List Value} (hi : IntsAre vs ns) (ko : KskOut false (ns.map g) vs out) : ∃ ns', IntsAre out ns' ∧ ns'.Perm ns ∧ ns'.Pairwise fun x y => g x ≤ g y := by
  obtain ⟨ps, hp, ho, hs⟩ := ko
  have hl := hi.length
  have rel : ∀ p ∈ (ns.map g).zip vs, p.1 = g (numOf p.2) ∧ p.2 ∈ vs := by
    rw [← hi.nums, List.map_map, List.zip_map_left]
    intro p hp
    obtain ⟨⟨u, v⟩, hq, rfl⟩ := List.mem_map.mp hp
    obtain ⟨e1, e2⟩ : u = v ∧ u ∈ vs := mem_zip_self hq
    exact ⟨congrArg (fun z => g (numOf z)) e1, e1 ▸ e2⟩
  have h1 : IntsAre (ps.map Prod.snd) ((ps.map Prod.snd).map numOf) := intsAre_map _ fun v hv => by
    obtain ⟨p, hq, rfl⟩ := List.mem_map.mp hv
    exact hi.all _ (rel p (hp.mem_iff.mp hq)).2
  have h2 : ((ps.map Prod.snd).map numOf).Perm ns := by
    have z := (hp.map Prod.snd).map numOf
    rw [List.map_snd_zip (by rw [List.length_map]; omega), hi.nums] at z
    exact z
  have h3 : ((ps.map Prod.snd).map numOf).Pairwise fun x y => g x ≤ g y := by
    rw [List.pairwise_map, List.pairwise_map]
    refine hs.imp_of_mem fun {p q} a b r => ?_
    have r' : p.1 ≤ q.1 := r
    rw [(rel p (hp.mem_iff.mp a)).1, (rel q (hp.mem_iff.mp b)).1] at r'
    exact r'
  rw [← ho] at h1 h2 h3
  exact ⟨_, h1, h2, h3⟩
theorem names_of {L d : Addr} {h : Heap} {od : Obj} {e : Addr} {oe : Obj} (n1 : d ≠ L) (n2 : e ≠ L) (hd : h.get? d = some od) (he : h.get? e = some oe) : News (Att.noObjs h) L h (((List.range h.objs.size).filterMap fun b => if b = L ∨ b = d ∨ b = e then none else (h.get? b).map fun o => (b, o)) ++ [(d, od), (e, oe)]) := by
  intro p hp
  rcases List.mem_append.mp hp with z | z
  · obtain ⟨b, _, q⟩ := List.mem_filterMap.mp z
    split at q
    · cases q
    · rename_i n
      cases w : h.get? b with
      | none => rw [w] at q; cases q
      | some o =>
        rw [w] at q
        cases q
        exact ⟨w, fun z => n (.inl z), Att.noObjs_get _ _⟩
  · simp only [List.mem_cons, List.not_mem_nil, or_false] at z
    rcases z with z | z
    · rw [z]
      exact ⟨hd, n1, Att.noObjs_get _ _⟩
    · rw [z]
      exact ⟨he, n2, Att.noObjs_get _ _⟩
theorem sorted_lam {pins : List (Addr × Obj)} {σ : L2.St} {H : Hp} {s : Shared} {d f : Addr} {fo : Obj} {kvs : List (Key × V)} {ns : List Int} {g : Int → Int} {J : Hp → Prop} {E : Value → Shared → Prop} {Q : Value → Shared → Prop}
    (I : Inv X (pins ++ [(f, fo)]) σ H s) (hc : X.calm = true) (hd : H d = some (.dK kvs)) (hks : kvs.map (·.1) = ns.map Sum.inl) (hz : ns.length ≤ 100000) (j : J H)
    (turn : ∀ (n : Int) (t : Tok) (H : Hp) (s : Shared) (ps : List (Addr × Obj)), n ∈ ns → J H → Inv X ps σ H s → s.heap.get? f = some fo →
      wpAny (model X.prog X.w) X.A.in1.in1 (call (.ref f) [.int n t]) (fun u s' => ∃ H' t', Inv X ps σ H' s' ∧ u = .int (g n) t' ∧ J H') (fun _ _ => False) s)
    (done : ∀ (H' : Hp) (s' : Shared) (p : Addr) (ns' : List Int), Inv X pins σ (upd H' p (.lst (ns'.map V.int))) s' → J H' → H' p = none → H p = none → ns'.Perm ns → (ns'.Pairwise fun x y => g x ≤ g y) → Q (.ref p) s') :
    wpAny (model X.prog X.w) X.A (call (.builtin "sorted") [.ref d] [(Str.ofString "key", .ref f)]) Q E s := by
  obtain ⟨z, lo, vs, rel, dd⟩ := dk_rd I.hok (Rd.of hd)
  obtain ⟨ep, hat⟩ := dd.dictAt
  have hkeys : vs.map (·.1) = ns.map Sum.inl := rel.keys.symm.trans hks
  have hl : vs.length = ns.length := by
    have e := congrArg List.length hkeys
    rw [List.length_map, List.length_map] at e
    exact e
  have hZ := sizeLine_eq
  refine call_function_entry_kw kind_sorted plain_sorted entry_sorted (ksk_s1 _ _) ?_
  unfold Builtin.«sorted»
  refine wpAny_bind (m := checkCount "sorted" 1 1 _) (wpAny_pure ?_)
  refine wpAny_bind (PySem.W.kdu_collect (A := X.A.in1) (PySem.W.kdl_dict (knd := mixKind X.prog X.w) (kvs := vs) (ep := ep) lo) (I.ok.hd hc) hat (by omega) fun h1 tk acc hk hacc => ?_)
  have hal : acc.toList.length = ns.length := by rw [Array.length_toList, hacc.1, hl]
  have hS : IntsAre acc.toList ns := ints_each hal fun j v e => by
    obtain ⟨k, x, e1, e2⟩ := hacc.2 j v (by rw [← Array.getElem?_toList]; exact e)
    have e3 : (vs.map (·.1))[j]? = some k := by
      rw [List.getElem?_map, e1]
      rfl
    rw [hkeys, List.getElem?_map] at e3
    cases e4 : ns[j]? with
    | none => rw [e4] at e3; cases e3
    | some y =>
      rw [e4] at e3
      obtain rfl : Sum.inl y = k := Option.some.inj e3
      rcases keyIs_shape (show keyIs (Sum.inl y) v = true from e2) with ⟨i, t, ek, ev⟩ | ⟨z, t, ek, ev⟩
      · cases ek
        exact ⟨y, t, rfl, ev⟩
      · cases ek
  refine wpAny_bind (wpAny_newList ?_ (by omega))
  have hoL : (h1.push (seqObj "list" acc.toList.toArray 0)).get? h1.objs.size = some (seqObj "list" acc.toList.toArray 0) := Heap.get?_push_size _ rfl
  show wpAny _ _ _ _ _ { s with heap := h1.push (seqObj "list" acc.toList.toArray 0), toks := tk }
  refine wpAny_bind (wpAny_holding (wpAny_call_entry_kw slot_list_sort ⟨_, hoL, rfl⟩ entry_list_sort ?body (ksk_l1 _ _)))
  case body =>
    show wpAny (model X.prog X.w) X.A.in1.in1 (Builtin.«list.sort» ⟨[.ref h1.objs.size], [(Str.ofString "key", .ref f)]⟩) _ _ _
    rw [ksk_t1]
    generalize hvs : acc.toList = ws at hal hS hoL
    have I1 : Inv X (pins ++ [(f, fo)]) σ H { s with heap := h1, toks := tk } := I.kept hk
    -- the list is emptied, the items held, the keys' list made
    obtain ⟨e1, ho1⟩ : ∃ e1, ((h1.push (seqObj "list" ws.toArray 0)).update h1.objs.size (Obj.mapSeq fun _ => (#[] : Array Value))).get? h1.objs.size = some (seqObj "list" #[] e1) := ⟨_, get?_update_seq hoL fun _ => #[]⟩
    have sb := Heap.SameBut.update (h1.push (seqObj "list" ws.toArray 0)) h1.objs.size (Obj.mapSeq fun _ => (#[] : Array Value))
    have hwl : ws.length = ns.length := hal
    unfold ksk_tree
    refine wpAny_bind (listItems_at hoL rfl ?_)
    refine wpAny_bind (listUpdate_at hoL rfl ?_ (by rw [List.size_toArray]; omega) (Nat.zero_le _))
    refine wpAny_bind (seqEpoch_at ho1 rfl ?_)
    refine wpAny_bind (wpAny_newTuple ?_ (by show ws.length ≤ _; omega))
    refine wpAny_bind (wpAny_newList ?_ (Nat.zero_le _))
    refine wpAny_holding ?_
    have hwk : ∀ b o, h1.get? b = some o → (((h1.push (seqObj "list" ws.toArray 0)).update h1.objs.size (Obj.mapSeq fun _ => (#[] : Array Value))).push (seqObj "tuple" ws.toArray 0)).get? b = some o := fun b o e =>
      Heap.get?_push_of_some _ ((sb.2 b (Nat.ne_of_lt (Heap.lt_size e))).trans (Heap.get?_push_of_some _ e))
    have hsz : ((h1.push (seqObj "list" ws.toArray 0)).update h1.objs.size (Obj.mapSeq fun _ => (#[] : Array Value))).objs.size = h1.objs.size + 1 := by rw [Heap.size_update, size_push']
    have hsk : (((h1.push (seqObj "list" ws.toArray 0)).update h1.objs.size (Obj.mapSeq fun _ => (#[] : Array Value))).push (seqObj "tuple" ws.toArray 0)).objs.size = h1.objs.size + 2 := by rw [size_push', hsz]
    have hoa : (((h1.push (seqObj "list" ws.toArray 0)).update h1.objs.size (Obj.mapSeq fun _ => (#[] : Array Value))).push (seqObj "tuple" ws.toArray 0)).get? h1.objs.size = some (seqObj "list" #[] e1) := Heap.get?_push_of_some _ ho1
    generalize ((h1.push (seqObj "list" ws.toArray 0)).update h1.objs.size (Obj.mapSeq fun _ => (#[] : Array Value))).push (seqObj "tuple" ws.toArray 0) = h2 at hwk hsk hoa
    have oa : Own X (pins ++ [(f, fo)]) H h1.objs.size := own_new I1 (Nat.le_refl _) (I1.hok.fresh (Nat.le_refl _))
    have hk2 : h1.objs.size ≤ h2.objs.size := by omega
    have ok : Own X (pins ++ [(f, fo)]) H h2.objs.size := own_new I1 hk2 (I1.hok.fresh hk2)
    have nka : h2.objs.size ≠ h1.objs.size := by
      intro z
      rw [z] at hsk
      exact absurd hsk (by omega)
    have I2 : Inv X (pins ++ [(f, fo)]) σ H { s with heap := h2.push (seqObj "list" #[] 0), toks := tk } := I1.kept (t' := tk) fun b o e => Heap.get?_push_of_some _ (hwk b o e)
    have I3 : Inv X (pins ++ [(f, fo), (h2.objs.size, seqObj "list" #[] 0), (h1.objs.size, seqObj "list" #[] e1)]) σ H { s with heap := h2.push (seqObj "list" #[] 0), toks := tk } := I2.pins_of fun p hp => by
      rcases List.mem_append.mp hp with z | z
      · exact I2.pin p (by simp [z])
      · simp only [List.mem_cons, List.not_mem_nil, or_false] at z
        rcases z with z | z | z
        · rw [z]
          exact I2.pin (f, fo) (by simp)
        · rw [z]
          exact ⟨Heap.get?_push_size _ rfl, ok.h, ok.l, ok.f, fun v q => nomatch q⟩
        · rw [z]
          exact ⟨Heap.get?_push_of_some _ hoa, oa.h, oa.l, oa.f, fun v q => nomatch q⟩
    have nkf : h2.objs.size ≠ f := fun z => ok.p (f, fo) (by simp) z.symm
    have ok' : Own X pins H h2.objs.size := ⟨ok.h, ok.l, ok.f, ok.s, ok.c, fun p hp => ok.p p (by
      rcases List.mem_append.mp hp with z | z <;> simp [z])⟩
    have oa' : Own X pins H h1.objs.size := ⟨oa.h, oa.l, oa.f, oa.s, oa.c, fun p hp => oa.p p (by
      rcases List.mem_append.mp hp with z | z <;> simp [z])⟩
    have hkz : (ns.map g).length = ws.length := by rw [List.length_map, hwl]
    refine rest_lam (H0 := H) (kz := ns.map g) (J := J) ok' nka nkf hkz (by omega) (fun i v k H4 s4 ps hv hkv j4 I4 hf4 => ?_) I3 j fun H4 s4 kA e I4 j4 hkA => ?_
    · rw [List.getElem?_map] at hkv
      cases q : ns[i]? with
      | none => rw [q] at hkv; cases hkv
      | some n =>
        rw [q] at hkv
        obtain rfl : g n = k := Option.some.inj hkv
        obtain ⟨t, ht⟩ := hS.get i n q
        rw [ht] at hv
        cases hv
        exact turn n t H4 s4 ps (List.mem_of_getElem? q) j4 I4 hf4
    · have qk := I4.pin (h2.objs.size, seqObj "list" kA e) (by simp)
      have qa := I4.pin (h1.objs.size, seqObj "list" #[] e1) (by simp)
      obtain ⟨m, hm, _⟩ := id I4.loc
      have N := names_of qk.2.2.1 qa.2.2.1 qk.1 qa.1
      have nk : ∀ (p : Addr × Obj), p ∈ ((List.range s4.heap.objs.size).filterMap fun b => if b = X.env.locals ∨ b = h2.objs.size ∨ b = h1.objs.size then none else (s4.heap.get? b).map fun o => (b, o)) → p.1 ≠ X.env.locals ∧ p.1 ≠ h2.objs.size ∧ p.1 ≠ h1.objs.size := fun p hp => by
        obtain ⟨b, _, q⟩ := List.mem_filterMap.mp hp
        split at q
        · cases q
        · rename_i n
          cases w : s4.heap.get? b with
          | none => rw [w] at q; cases q
          | some o =>
            rw [w] at q
            cases q
            exact ⟨fun z => n (.inl z), fun z => n (.inr (.inl z)), fun z => n (.inr (.inr z))⟩
      refine ksk_end_Any (kz := ns.map g) (Att.fr_all hm) N nka (fun p hp => (nk p hp).2.1) (fun p hp => (nk p hp).2.2) hkA hkz (by omega) fun h5 tk5 out c5 F5 N5 k5 => ⟨_, rfl, ?_⟩
      obtain ⟨ns', g1, g2, g3⟩ := out_ints hS k5
      have ho5 := (N5 (h1.objs.size, seqObj "list" out c5) (.head _)).1
      have keep : ∀ b o, b ≠ X.env.locals → b ≠ h2.objs.size → b ≠ h1.objs.size → s4.heap.get? b = some o → h5.get? b = some o := fun b o n1 n2 n3 e => by
        have w0 : ¬ (b = X.env.locals ∨ b = h2.objs.size ∨ b = h1.objs.size) := by
          rintro (z | z | z)
          · exact n1 z
          · exact n2 z
          · exact n3 z
        have w1 : (if b = X.env.locals ∨ b = h2.objs.size ∨ b = h1.objs.size then none else (s4.heap.get? b).map fun o => (b, o)) = some (b, o) := by
          rw [if_neg w0, e]
          rfl
        exact (N5 (b, o) (List.mem_cons_of_mem _ (List.mem_filterMap.mpr ⟨b, List.mem_range.mpr (Heap.lt_size e), w1⟩))).1
      have hz5 : (ns'.map V.int).length ≤ sizeLine := by
        rw [List.length_map, g2.length_eq]
        omega
      have I5 : Inv X pins σ H4 s4 := I4.pins_of fun p hp => I4.pin p (by simp [hp])
      have ak := ok'.to (H' := H4) qk.2.1
      have aa := oa'.to (H' := H4) qa.2.1
      have hT : ∀ b u, H4 b = some u → b ≠ h1.objs.size := fun b u e z => by
        rw [z, qa.2.1] at e
        cases e
      have hT2 : ∀ b u, H4 b = some u → b ≠ h2.objs.size := fun b u e z => by
        rw [z, qk.2.1] at e
        cases e
      have hTL : ∀ b u, H4 b = some u → b ≠ X.env.locals := fun b u e z => by
        rw [z, I5.free] at e
        cases e
      have new : ObjOk X.prog X.w (upd H4 h1.objs.size (.lst (ns'.map V.int))) h5 h1.objs.size (.lst (ns'.map V.int)) := ⟨hz5, out.toList, c5, vals_of_ints g1, by
        rw [Array.toArray_toList]
        exact ho5⟩
      have hok : HOk X.prog X.w (upd H4 h1.objs.size (.lst (ns'.map V.int))) h5 := fun b u e => by
        by_cases hb : b = h1.objs.size
        · subst hb
          rw [upd_same] at e
          cases e
          exact new
        · rw [upd_ne hb] at e
          refine (I5.hok b u e).stay (fun q w hq r => keep q w ?_ ?_ ?_ r) (fun q r => by rw [upd_ne (hT q _ r)]; exact r) fun q xs r => by rw [upd_ne (hT q _ r)]; exact r
          · rcases hq with hq | hq
            · rw [hq]
              exact hTL b u e
            · exact hTL q _ hq
          · rcases hq with hq | hq
            · rw [hq]
              exact hT2 b u e
            · exact hT2 q _ hq
          · rcases hq with hq | hq
            · rw [hq]
              exact hb
            · exact hT q _ hq
      have hmL : ∃ oL, s4.heap.get? X.env.locals = some oL := by
        obtain ⟨oL, es, ep, hoL, _⟩ := hm
        exact ⟨oL, hoL⟩
      have I6 : Inv X pins σ (upd H4 h1.objs.size (.lst (ns'.map V.int))) { s4 with heap := h5, toks := tk5 } := by
        refine I5.step (g' := s4.gens) (d' := s4.drawn) (t' := tk5) (ch := [h2.objs.size, h1.objs.size]) (fun b hb => ?_) (fun b o hL _ hc e _ => ?_) (fun b o hL _ hc e _ => ⟨o.slots, ?_⟩) (fun b o hc e n => ?_) (fun b o hc e => ?_) (fun b xs e => ?_) (fun b o u e => ?_) (fun b ps e => ⟨#[], ?_⟩) (fun m' hn => ?_) hok I5.bare
        · simp only [List.mem_cons, List.not_mem_nil, or_false] at hb
          rcases hb with z | z
          · rw [z]
            exact ⟨.inr ak.s, ak.l, ak.c, ak.p⟩
          · rw [z]
            exact ⟨.inr aa.s, aa.l, aa.c, aa.p⟩
        · simp only [List.mem_cons, List.not_mem_nil, or_false, not_or] at hc
          exact keep b o hL hc.1 hc.2 e
        · simp only [List.mem_cons, List.not_mem_nil, or_false, not_or] at hc
          exact keep b o hL hc.1 hc.2 e
        · simp only [List.mem_cons, List.not_mem_nil, or_false, not_or] at hc
          rw [upd_ne hc.2]
          exact n
        · simp only [List.mem_cons, List.not_mem_nil, or_false, not_or] at hc
          by_cases hL : b = X.env.locals
          · obtain ⟨oL, es, ep, hoL, _⟩ := F5.ns
            rw [hL]
            exact ⟨oL, hoL⟩
          · exact ⟨o, keep b o hL hc.1 hc.2 e⟩
        · rw [upd_ne (hT b _ e)]
          exact e
        · rw [upd_ne (hT b _ e)]
          exact e
        · rw [upd_ne (hT b _ e), e]
          simp
        · obtain ⟨o1, es1, ep1, a1, b1, _, c1⟩ := id hm
          obtain ⟨o2, es2, ep2, a2, b2, _, c2⟩ := id hn
          have em : m' = m := by
            funext y
            rw [a1] at a2
            cases a2
            rw [b1] at b2
            cases b2
            rw [← c1 y, ← c2 y]
          rw [em]
          exact F5.ns
      exact wpAny_pure ⟨_, rfl, done H4 _ h1.objs.size ns' I6 j4 aa.h oa.h g2 g3⟩

/-- what is asked behind the sort -/
def RSL (x : Str) (tb : TE) (v : V) (H1 : Hp) (Q : VK) : Prop := ∃ (d : Addr) (kvs : List (Key × V)) (ns : List Int) (g : Int → Int), v = .ref d ∧ H1 d = some (.dK kvs) ∧ kvs.map (·.1) = ns.map Sum.inl ∧ ns.length ≤ 100000 ∧ TS H1 ∧
      (∀ n ∈ ns, ∀ H2, Fz N0 H1 H2 → tb (start [x] [.int n]) H2 fun u H3 => u = .int (g n) ∧ Fz N0 H2 H3) ∧
      ∀ (H2 : Hp) (q : Addr) (ns' : List Int), Fz N0 H1 H2 → H2 q = none → ns'.Perm ns → (ns'.Pairwise fun a b => g a ≤ g b) → Q (.ref q) (upd H2 q (.lst (ns'.map V.int)))
/-- sorted(d, key=lambda x: ..) by name -/
theorem pe_sortLam {c : Addr} {params : Arguments} {body : Expr} {scope : Scope} {x : Str} {p kp lp pos : Pos} {e : Expr} {te tb : TE} {k : Nat}
    (hc : X.calm = true) (TB : LamX.TabB X.base X.mg c tP) (hq : X.env.qual ++ "<lambda>" = tQ) (hcode : X.env.code = .ref c) (S : FnScope [x] [x] scope) (hdef : defaultsOf params X.env = ([], [])) (hfree : ∀ y ∈ scope.names, y.2 ≠ .free)
    (hcl2 : cloFrom X.env.cells scope.names [] = [])
    (hbind : ∀ (qual : Str) (pm : Value) (c' : Addr) (ctv : Value) (u : Value), bindArgs (PySem.W.kla_fn "<lambda>" qual params body scope [] pm (.ref c') ctv) ⟨[u], []⟩ = pure [(x, u)])
    (hr : Room (k + 3) X.A) (hg : Gl X "sorted") (hm : X.mg "sorted" = none)
    (hb : ∀ (qual : Str) (f c' : Addr) (A : Around) (outer : List Env) (s : Shared) (H : Hp), Room k (A.deeper (envOfC qual scope s.heap.objs.size f (.ref c'))) → PE (cxOf C8.CX0 X.prog X.w X.K X.mg X.base [x] qual scope f (.ref c') A outer s H C8.E0).nox body tb)
    (he : PE X e te)
    (hst : backTo pos (starEach [e] X.env) = (false, eval e X.env) :: backTo pos (starEach [] X.env) := by rfl) (hst2 : starEach [e] X.env = (false, eval e X.env) :: starEach [] X.env := by rfl) :
    PE X (.Call (.Name "sorted" p) [e] [⟨some "key", .Lambda params body scope lp, kp⟩] pos) (fun σ H Q => te σ H fun v H1 => RSL x tb v H1 Q) := by
  refine ⟨fun pins s σ H Q I h => ?_⟩
  refine wpAny_Call_Name_kw (ld_blt I hg hm (u := .builtin "sorted") (by first | rfl | decide) ?_ (by decide) (by decide))
  refine PyProof.Rows.callWith_kw (thn ((pa_cons he pa_nil hst2).run pos pins s σ H (fun vs H1 => match vs with | [v] => RSL x tb v H1 Q | _ => False) I h) fun us s1 ⟨vs, H1, I1, r1, q1⟩ => ?_) hst (by rw [hst]; rfl) rfl rfl
  match vs, r1, q1 with
  | [], _, q1 => exact q1.elim
  | _ :: _ :: _, _, q1 => exact q1.elim
  | [v], r1, q1 =>
    obtain ⟨d, kvs, ns, g, rfl, hd, hk, hz, hT, htb, hQ⟩ := q1
    cases r1 with
    | cons r0 rn =>
    cases rn
    obtain rfl := r0
    have hT' : LamX.Tabs [(tP, X.env.qual ++ "<lambda>")] H1 := fun p hp => by
      rw [List.mem_singleton.mp hp]
      show LamX.TabS H1 tP (X.env.qual ++ "<lambda>")
      rw [hq]
      exact hT
    refine wpAny_evalAll_cons (wpAny_bind (LamX.lam_make2 (T := [(tP, X.env.qual ++ "<lambda>")]) I1 TB hcode (List.mem_singleton.mpr rfl) (fun p hp _ => by rw [List.mem_singleton.mp hp]) hT' hdef (fun y hy z => (hfree y hy z).elim) fun f c' pm ctv H2 s2 I2 eN T2 hf hfn hfr hco => ?_))
    refine wpAny_bind (wpAny_standAt (wpAny_pure (wpAny_evalAll_nil ?_)))
    rw [hcl2] at hf
    have nfL : f ≠ X.env.locals := fun z => by
      obtain ⟨m, ⟨o, es, ep, e1, e2, _⟩, _⟩ := I2.loc
      rw [← z, hf] at e1
      cases e1
      cases e2
    have nfs : f ∉ X.fs := fun z => hfr (by
      have z' : f ∈ frs X.outer := z
      rcases I2.ok.stk with e | ⟨e, hfm⟩
      · rw [e]
        exact z'
      · rw [e]
        unfold frs
        rw [List.filterMap_cons, hfm]
        exact List.mem_cons_of_mem _ z')
    have I3 : Inv X (pins ++ [(f, PySem.W.kla_obj "<lambda>" (X.env.qual ++ "<lambda>") params body scope [] pm c' ctv)]) σ H2 s2 := I2.pins_of fun p hp => by
      rcases List.mem_append.mp hp with z | z
      · exact I2.pin p (List.mem_append_right _ z)
      · rw [List.mem_singleton.mp z]
        exact ⟨hf, hfn, nfL, nfs, fun v q => nomatch q⟩
    have hd2 : H2 d = some (.dK kvs) := eN d _ hd fun ps z => nomatch z
    have hF : Fz N0 H1 H2 := ⟨fun b o e n _ => eN b o e n, fun b e => by
      cases q : H1 b with
      | none => exact .inl q
      | some o =>
        by_cases ht : ∃ ps, o = .tbl ps
        · obtain ⟨ps, rfl⟩ := ht
          exact .inr ⟨ps, q⟩
        · have q2 := eN b o q fun ps z => ht ⟨ps, z⟩
          rcases e with e | ⟨ps, e⟩
          · rw [q2] at e; cases e
          · rw [q2] at e; cases e; exact (ht ⟨ps, rfl⟩).elim, fun _ => by
      have z := T2 (tP, X.env.qual ++ "<lambda>") (List.mem_singleton.mpr rfl)
      have z' : LamX.TabS H2 tP (X.env.qual ++ "<lambda>") := z
      rw [hq] at z'
      exact z'⟩
    refine sorted_lam (g := g) (J := fun H => Fz N0 H1 H ∧ H c' = some (LamX.CodeO c' (X.env.qual ++ "<lambda>"))) I3 hc hd2 hk hz ⟨hF, hco⟩ (fun n t H4 s4 ps hn j4 I4 hf4 => ?_) fun H4 s4 q ns' I4 j4 n1 n2 pm4 ps4 => ⟨.ref q, _, I4, rfl, hQ H4 q ns' j4.1 n1 pm4 ps4⟩
    have rr : Room (k + 1) X.A.in1.in1 := hr.in1.in1
    refine wpAny_call (codeAny_mono (lam_run (tb := tb) (Q := fun u H3 => u = .int (g n) ∧ Fz N0 H4 H3) (k := k) (v := .int n) S (fun u => hbind _ _ _ _ u) I4.env0.in1.in1 rr hf4 j4.2 ⟨t, rfl⟩ (hb _ _ _ _ _ _ _ (rr.deeper _)) (htb n hn H4 j4.1)) fun r s' z => ?_)
    cases r with
    | error e => exact (show False from z).elim
    | ok fl =>
      cases fl with
      | ret u =>
        obtain ⟨v, H5, I5, r5, rfl, q5⟩ := I4.after z
        obtain ⟨t5, rfl⟩ := r5
        exact ⟨H5, t5, I5, rfl, j4.1.trans q5, q5.keep _ _ j4.2 LamX.codeO_ne fun z => z.elim⟩
      | next => exact (show False from z).elim
      | brk => exact (show False from z).elim
      | cont => exact (show False from z).elim
end
end Rw

/-! What the defs know of the module: Tx. -/
namespace Rw
open PySem PySem.Spec PyProof.Rows L2
/-- a def of the module -/
structure Dn (K : PySem.W.Frag) (mg : Str → Option Value) (x : Str) (st : Stmt) (ps : List Str) : Prop where
  ex : ∃ f fd, C8.Def K mg x st f fd ∧ Binds K fd ps []
/-- a class's making -/
structure Dk (K : PySem.W.Frag) (mg : Str → Option Value) (x : Str) (C : Addr) (qual : Str) (st : Stmt) (ps : List Str) : Prop where
  ex : ∃ f fd, Mk K C f ∧ mg x = some (.ref C) ∧ C8.Fun K "__init__" qual st f fd ∧ Binds K fd ps []
/-- a method -/
structure Dm (K : PySem.W.Frag) (C : Addr) (m qual : Str) (st : Stmt) (ps : List Str) : Prop where
  ex : ∃ f fd, Cls K C ∧ Meth K C m f ∧ C8.Fun K m qual st f fd ∧ Binds K fd ps []
/-- the def with the lambda: its code object is c -/
structure Dl (K : PySem.W.Frag) (mg : Str → Option Value) (c : Addr) (x : Str) (st : Stmt) (ps : List Str) : Prop where
  ex : ∃ f fd, C8.Def K mg x st f fd ∧ Binds K fd ps [] ∧ fd.code = .ref c
abbrev inClass (st : Stmt) (i : Nat) : Stmt := match st with
  | .ClassDef _ _ _ b _ _ _ _ _ _ _ => b.getD i (.Pass ⟨0, 0, 0, 0⟩)
  | _ => .Pass ⟨0, 0, 0, 0⟩
structure Tx (K : PySem.W.Frag) (mg : Str → Option Value) (B W c : Addr) : Prop where
  z_all : mg "all" = none
  z_bool : mg "bool" = none
  z_enumerate : mg "enumerate" = none
  z_int : mg "int" = none
  z_isinstance : mg "isinstance" = none
  z_len : mg "len" = none
  z_list : mg "list" = none
  z_max : mg "max" = none
  z_range : mg "range" = none
  z_repr : mg "repr" = none
  z_set : mg "set" = none
  z_sorted : mg "sorted" = none
  z_sum : mg "sum" = none
  z_tuple : mg "tuple" = none
  z_zip : mg "zip" = none
  c_MOST_BLOCK : ∃ u, mg "MOST_BLOCK" = some u ∧ RelV (.int 49) u
  c_MOST_CHANGES : ∃ u, mg "MOST_CHANGES" = some u ∧ RelV (.int 200) u
  c_MOST_NEEDS : ∃ u, mg "MOST_NEEDS" = some u ∧ RelV (.int 4000) u
  c_MOST_STANDINGS : ∃ u, mg "MOST_STANDINGS" = some u ∧ RelV (.int 2000) u
  g_Book : ∃ u, mg "Book" = some u ∧ RelV (.ref B) u
  i_Book : C8.InsC K B
  cB : Cls K B
  cW : Cls K W
  nB_blocks : NoAttr K B "blocks"
  nB_needs : NoAttr K B "needs"
  nW_many : NoAttr K W "many"
  nW_beneath : NoAttr K W "beneath"
  nW_blocks : NoAttr K W "blocks"
  nW_within : NoAttr K W "within"
  nW_all : NoAttr K W "all"
  d_is_integer : Dn K mg "is_integer" (topS 1) ["thing"]
  d_is_within : Dn K mg "is_within" (topS 2) ["thing", "least", "most"]
  d_is_lot : Dn K mg "is_lot" (topS 3) ["thing", "many"]
  d_is_pair : Dn K mg "is_pair" (topS 4) ["thing"]
  d_lot_of : Dn K mg "lot_of" (topS 5) ["some"]
  d_check_parts : Dn K mg "check_parts" (topS 17) ["blocks", "needs"]
  d_needed : Dn K mg "needed" (topS 18) ["many", "needs"]
  d_order_of : Dn K mg "order_of" (topS 19) ["many", "needs"]
  k_Book : Dk K mg "Book" B "Book.__init__" (inClass (topS 20) 0) ["self", "blocks", "needs"]
  d_raw_book : Dn K mg "raw_book" (topS 21) ["blocks", "needs"]
  d_masks_beneath : Dn K mg "masks_beneath" (topS 22) ["book"]
  d_lot_of_mask : Dn K mg "lot_of_mask" (topS 23) ["mask"]
  d_blocks_of : Dn K mg "blocks_of" (topS 24) ["book"]
  k_World : Dk K mg "World" W "World.__init__" (inClass (topS 27) 0) ["self", "book"]
  m_World_brought : Dm K W "brought" "World.brought" (inClass (topS 27) 1) ["self", "standing", "block"]
  m_World_ripe : Dm K W "ripe" "World.ripe" (inClass (topS 27) 2) ["self", "standing"]
  m_World_coming : Dm K W "coming" "World.coming" (inClass (topS 27) 3) ["self", "begin"]
  d_masks_led : Dn K mg "masks_led" (topS 28) ["world", "standing", "row"]
  d_by_count : Dl K mg c "by_count" (topS 29) ["ways"]
  d_many_rows : Dn K mg "many_rows" (topS 30) ["book"]
  d_check_blocks : Dn K mg "check_blocks" (topS 32) ["thing"]
  d_is_entry : Dn K mg "is_entry" (topS 33) ["blocks", "thing"]
  d_is_log_of : Dn K mg "is_log_of" (topS 34) ["blocks", "thing"]
  d_makes : Dn K mg "makes" (topS 35) ["book", "log"]
  d_check_log : Dn K mg "check_log" (topS 36) ["blocks", "log"]
  d_between_of : Dn K mg "between_of" (topS 37) ["log"]
  d_times_of : Dn K mg "times_of" (topS 38) ["log"]
  d_pairs_of : Dn K mg "pairs_of" (topS 39) ["blocks"]
  d_fewest_needs : Dn K mg "fewest_needs" (topS 40) ["blocks", "log"]
  d_freest_of : Dn K mg "freest_of" (topS 41) ["blocks", "log"]
  d_freest_book : Dn K mg "freest_book" (topS 42) ["blocks", "log"]
  d_fullest_book : Dn K mg "fullest_book" (topS 43) ["blocks", "log"]
  d_other_rows : Dn K mg "other_rows" (topS 44) ["blocks", "log"]
  d__law_tape : Dn K mg "_law_tape" (topS 46) ["_law_script"]
  d__law_pick : Dn K mg "_law_pick" (topS 47) ["_law_tape_here", "_law_many"]
  d__law_any : Dn K mg "_law_any" (topS 48) ["_law_tape_here", "_law_some"]
  d__law_some_blocks : Dn K mg "_law_some_blocks" (topS 49) ["_law_tape_here", "_law_many"]
  d__law_order : Dn K mg "_law_order" (topS 50) ["_law_tape_here", "_law_many"]
  d__law_direct : Dn K mg "_law_direct" (topS 51) ["_law_spec"]
  d__law_lot : Dn K mg "_law_lot" (topS 52) ["_law_mask"]
  d__law_brought : Dn K mg "_law_brought" (topS 53) ["_law_blocks", "_law_direct_here", "_law_there", "_law_block"]
  d__law_drawn_blocks : Dn K mg "_law_drawn_blocks" (topS 54) ["_law_tape_here", "_law_many", "_law_parts"]
  d__law_drawn : Dn K mg "_law_drawn" (topS 55) ["_law_tape_here", "_law_blocks"]
  d__law_willing : Dn K mg "_law_willing" (topS 56) ["_law_tape_here", "_law_spec"]
  d__law_log : Dn K mg "_law_log" (topS 57) ["_law_spec", "_law_row"]
  d__law_late : Dn K mg "_law_late" (topS 58) ["_law_log_here"]
  d__law_times : Dn K mg "_law_times" (topS 59) ["_law_log_here"]
  d__law_dealt : Dn K mg "_law_dealt" (topS 60) ["_law_tape_here", "_law_writes", "_law_many", "_law_parts"]
  d__law_same : Dn K mg "_law_same" (topS 61) ["_law_told", "_law_due"]
  d__law_many_rows : Dn K mg "_law_many_rows" (topS 62) ["_law_spec"]
  d__law_is_book : Dn K mg "_law_is_book" (topS 63) ["_law_told", "_law_blocks"]
section
variable {P : Program} {w : World} {K : PySem.W.Frag} {mg : Str → Option Value} {base : Heap}
/-! rules told with K itself: for the insides of comprehensions -/
section
variable {X : Cx} {e : Expr} {te : TE} {es : List Expr} {f : Str} {pos : Pos} {t : TGs} {n k : Nat}
theorem ixLk (h : X.K = K) : IxR X (rIxL K) := h ▸ ix_list
theorem ixTk (h : X.K = K) : IxR X (rIxT K) := h ▸ ix_tup
theorem inK (h : X.K = K) : OpR X (compareOp .In) (rIn K false) := h ▸ op_in_seq
theorem lenK (h : X.K = K) : CallR X (.builtin "len") (fun xs H Q => ∃ p ys, xs = [.ref p] ∧ (SqL K H p ys ∨ SqT K H p ys) ∧ Q (.int ys.length) H) := h ▸ call_len_seq
theorem fldK (h : X.K = K) (he : PE X e te) (hb : attributeBase e f X.env (eval e X.env) = eval e X.env) : PE X (.Attribute e f pos) (tFld K te f) := h ▸ pe_fld he hb
theorem pgtK (h : X.K = K) (hc : X.calm = true) (hg : PGs X es t) (hn : (assignEach es X.env).length = n) (hst : (assignEach es X.env).findIdx? (·.1) = none := by rfl) : PG X (.Tuple es k pos) (gTup K n t) := h ▸ pg_tup hc hg hn hst
theorem tupK (h : X.K = K) : CallR X (.type "tuple") (fun xs H Q => ∃ p ys, xs = [.ref p] ∧ ((SqL K H p ys ∧ ∀ l, H l = none → Q (.ref l) (upd H l (.tup ys))) ∨ (SqT K H p ys ∧ Q (.ref p) H))) := h ▸ call_tuple_of
theorem sortK (h : X.K = K) : CallR X (.builtin "sorted") (rSorted K) := h ▸ cr_sorted
theorem piLk {tg : Expr} (h : X.K = K) (he : PE X e te) : PI X tg e (iList K te) := h ▸ pi_list he
theorem piTk {tg : Expr} (h : X.K = K) (he : PE X e te) : PI X tg e (iTup K te) := h ▸ pi_tup he
end
/-- a def's promise, by its body -/
theorem calD {x : Str} {st : Stmt} {N ps : List Str} {k : Nat} {sp : Sp} (D : Dn K mg x st ps) (S : FnScope N ps (C8.fnScope st)) (len : ∀ vs H Q E, sp vs H Q E → vs.length = ps.length)
    (hbody : ∀ (f : Addr) (cdv : Value) (A : Around) (outer : List Env) (s : Shared) (H : Hp) (vs : List V) (Q : VK) (E : XK), Room k (A.deeper (envOfC x (C8.fnScope st) s.heap.objs.size f cdv)) → sp vs H Q E →
      ∃ t, PSs (cxOf C8.CX0 P w K mg base N x (C8.fnScope st) f cdv A outer s H E).nox (C8.fnBody st) t ∧ t { nx := fun _ H' => Q .non H', rt := Q } (start N vs) H) : C8.Cal P w K mg base (k + 1) x sp [] := by
  obtain ⟨f, fd, F, b⟩ := D.ex
  exact C8.cal0 F b .nil S len fun cdv A outer s H vs Q E hr h => hbody f cdv A outer s H vs Q E hr h
theorem makD {x qual : Str} {C : Addr} {st : Stmt} {N ps : List Str} {k : Nat} {sp : Sp} (D : Dk K mg x C qual st ps) (S : FnScope N ps (C8.fnScope st)) (len : ∀ vs H Q E, sp vs H Q E → vs.length = ps.length)
    (hbody : ∀ (f : Addr) (cdv : Value) (A : Around) (outer : List Env) (s : Shared) (H : Hp) (vs : List V) (Q : VK) (E : XK), Room k (A.deeper (envOfC qual (C8.fnScope st) s.heap.objs.size f cdv)) → sp vs H Q E →
      ∃ t, PSs (cxOf C8.CX0 P w K mg base N qual (C8.fnScope st) f cdv A outer s H E).nox (C8.fnBody st) t ∧ t { nx := fun _ H' => Q .non H', rt := Q } (start N vs) H) : C8.Mak P w K mg base (k + 1) x C sp [] := by
  obtain ⟨f, fd, M, hm, F, b⟩ := D.ex
  exact C8.mak0 M hm F b .nil S len fun cdv A outer s H vs Q E hr h => hbody f cdv A outer s H vs Q E hr h
theorem metD {m qual : Str} {C : Addr} {st : Stmt} {N ps : List Str} {k : Nat} {sp : Sp} (D : Dm K C m qual st ps) (S : FnScope N ps (C8.fnScope st)) (len : ∀ vs H Q E, sp vs H Q E → vs.length = ps.length)
    (hbody : ∀ (f : Addr) (cdv : Value) (A : Around) (outer : List Env) (s : Shared) (H : Hp) (vs : List V) (Q : VK) (E : XK), Room k (A.deeper (envOfC qual (C8.fnScope st) s.heap.objs.size f cdv)) → sp vs H Q E →
      ∃ t, PSs (cxOf C8.CX0 P w K mg base N qual (C8.fnScope st) f cdv A outer s H E).nox (C8.fnBody st) t ∧ t { nx := fun _ H' => Q .non H', rt := Q } (start N vs) H) : C8.Met P w K mg base (k + 1) C m sp [] := by
  obtain ⟨f, fd, c, me, F, b⟩ := D.ex
  exact C8.met0 c me F b S len fun cdv A outer s H vs Q E hr h => hbody f cdv A outer s H vs Q E hr h
/-- as calD, where nothing is being shown -/
theorem calGD {x : Str} {st : Stmt} {N ps : List Str} {k : Nat} {sp : Sp} (D : Dn K mg x st ps) (S : FnScope N ps (C8.fnScope st)) (len : ∀ vs H Q E, sp vs H Q E → vs.length = ps.length)
    (hbody : ∀ (f : Addr) (cdv : Value) (A : Around) (outer : List Env) (s : Shared) (H : Hp) (vs : List V) (Q : VK) (E : XK), Room k (A.deeper (envOfC x (C8.fnScope st) s.heap.objs.size f cdv)) → A.guards = some [] → sp vs H Q E →
      ∃ t, PSs (cxOf C8.CX0 P w K mg base N x (C8.fnScope st) f cdv A outer s H E).nox (C8.fnBody st) t ∧ t { nx := fun _ H' => Q .non H', rt := Q } (start N vs) H) : CalG P w K mg base (k + 1) x sp := by
  obtain ⟨f, fd, F, b⟩ := D.ex
  exact ⟨f, fd, ps, fnG F.fn S len fun cdv A outer s H vs Q E hr hg h => hbody f cdv A outer s H vs Q E hr hg h, F.mgf, F.kp, b⟩
/-- numbers that are none below nought -/
theorem nats_of : ∀ (zs : List Int), (∀ z ∈ zs, 0 ≤ z) → ∃ ms : List Nat, zs = ms.map fun n : Nat => (n : Int)
  | [], _ => ⟨[], rfl⟩
  | z :: zs, h => by
    obtain ⟨ms, e⟩ := nats_of zs fun y hy => h y (List.mem_cons_of_mem _ hy)
    have h0 := h z (List.mem_cons_self)
    refine ⟨z.toNat :: ms, ?_⟩
    rw [List.map_cons, ← e]
    congr 1
    omega
theorem mem_natmap {n : Nat} {ns : List Nat} : ((n : Int) ∈ ns.map fun n : Nat => (n : Int)) ↔ n ∈ ns := by
  rw [List.mem_map]
  exact ⟨fun ⟨a, h, e⟩ => Int.ofNat.inj e ▸ h, fun h => ⟨n, h, rfl⟩⟩
theorem lt_natmap {ns : List Nat} : (ns.map fun n : Nat => (n : Int)).Pairwise (· < ·) ↔ ns.Pairwise (· < ·) := by
  rw [List.pairwise_map]
  constructor <;> exact fun h => h.imp fun q => by omega
theorem vput (kvs : List (Key × V)) (n y : Nat) (v : V) : valV (putK kvs (.inl (n : Int)) v) (.inl (y : Int)) = if y = n then some v else valV kvs (.inl (y : Int)) := by
  rw [valV_put]
  by_cases e : y = n
  · subst e
    rw [if_pos rfl, if_pos rfl]
  · have n' : ¬ (Sum.inl (y : Int) : Key) = Sum.inl (n : Int) := fun z => e (Int.ofNat.inj (Sum.inl.inj z))
    rw [if_neg n', if_neg e]
theorem DGn {H : Hp} {a : Addr} {kvs : List (Key × V)} {n : Nat} {v : V} (e : H a = some (.dK kvs)) (h : valV kvs (.inl (n : Int)) = some v) : DGet H a (vn n) (some v) := by
  rw [← h]
  exact DGet.k (k := .inl (n : Int)) e
theorem DGo {H : Hp} {a : Addr} {kvs : List (Key × V)} (n : Nat) (e : H a = some (.dK kvs)) : DGet H a (vn n) (valV kvs (.inl (n : Int))) := DGet.k (k := .inl (n : Int)) e
theorem DPn {H : Hp} {a : Addr} {kvs : List (Key × V)} (n : Nat) (v : V) (e : H a = some (.dK kvs)) (h : kvs.length < 100000) : DPut H a (vn n) v (upd H a (.dK (putK kvs (.inl (n : Int)) v))) := DPut.k (k := .inl (n : Int)) e (szl h)
theorem dvn (a b : Nat) : decide (vn a = vn b) = decide (a = b) := decide_eq_decide.mpr ⟨vn_inj, fun e => congrArg vn e⟩
theorem ixN_nat {n i : Nat} (h : i < n) : ixN n (i : Int) = some i := by
  unfold ixN
  rw [if_pos (by omega), if_pos (by omega), Int.toNat_natCast]
theorem atN {α : Type} {xs : List α} {i : Nat} {x : α} (h : xs[i]? = some x) : atI xs (i : Int) = some x := by
  unfold atI
  rw [ixN_nat (List.getElem?_eq_some_iff.mp h).1]
  exact h
theorem tyL {H : Hp} {p : Addr} {xs : List V} (h : H p = some (.lst xs)) : tyV K "list" (.ref p) H := .inl ⟨rfl, _, .inl (.inl h)⟩
theorem sT {H : Hp} {a : Addr} {xs : List V} (h : H a = some (.tup xs)) : SqT K H a xs := .inl (.inl h)
theorem sL {H : Hp} {a : Addr} {xs : List V} (h : H a = some (.lst xs)) : SqL K H a xs := .inl (.inl h)
end
end Rw

/-! List comprehensions by an invariant over frames. -/
namespace Rw
open PySem PySem.Spec PyProof.Rows L2
theorem plen {α β : Type} {F : α → β → Prop} : ∀ {l₁ : List α} {l₂ : List β}, Paired F l₁ l₂ → l₁.length = l₂.length
  | _, _, .nil => rfl
  | _, _, .cons _ t => congrArg (· + 1) (plen t)
/-- the new list grows; Pv: what is known of the items so far, and of the rest of the heap -/
theorem lc_fz {β : Type} {R : Hp → V → β → Prop} {J : It} {n : Nat} {G : Hp → Prop} {Y : Nat → Hp → V → Hp → Prop} (w : Walk J n G Y) (pR : Pers R) (T : Addr → Prop) {g : TG} {tt : TT} {te : TE} {vs : List Nat} {σ : L2.St} {H1 : Hp} {D : Addr} {Qd : Hp → Prop}
    (hT : ∀ b, T b → ∃ xs, H1 b = some (.lst xs)) (hD : H1 D = none) (hn : n ≤ 100000) (Pv : Nat → List β → Hp → Prop) (h0 : Pv 0 [] H1) (hst : ∀ i zs H xs, H1 D = none → Pv i zs H → Pv i zs (upd H D (.lst xs)))
    (hG : ∀ i zs H, i ≤ n → Fz T H1 H → Pv i zs H → G H)
    (hs : ∀ i x zs H H' (C : V → Hp → Prop) (Nx : Hp → Prop), i < n → Fz T H1 H → (∃ acc, H D = some (.lst acc)) → Pv i zs H → Y i H x H' → (∀ y z H4, Fz T H H4 → R H4 y z → Pv (i + 1) (zs ++ [z]) H4 → C y H4) → (∀ H3, Fz T H H3 → Pv (i + 1) zs H3 → Nx H3) →
      g x (wipe σ vs) H' fun σ2 H2 => wipe σ2 vs = wipe σ vs ∧ tt σ2 H2 fun b H3 => if b = true then te σ2 H3 C else Nx H3)
    (hd : ∀ zs H, Fz T H1 H → Pv n zs H → zs.length ≤ n → LL R H D zs → Qd H) :
    ∃ W : Nat → Nat → Hp → Prop, (∃ m, W 0 m (upd H1 D (.lst []))) ∧ ∀ i m H, W i m H →
      (J.stop i H ∧ Qd H) ∨ (J.go i H ∧ ∃ Nx : Hp → Prop, (∀ H', Nx H' → ∃ m', m' < m ∧ W (i + 1) m' H') ∧ ∀ x H', J.yld i H x H' → g x (wipe σ vs) H' fun σ2 H2 => wipe σ2 vs = wipe σ vs ∧ tt σ2 H2 fun b H3 =>
        if b = true then te σ2 H3 fun y H4 => ∃ acc, H4 D = some (.lst acc) ∧ acc.length < sizeLine ∧ Nx (upd H4 D (.lst (acc ++ [y]))) else Nx H3) := by
  have nT : ¬ T D := fun z => by
    obtain ⟨xs, e⟩ := hT D z
    rw [hD] at e
    cases e
  refine lc_it w (fun i H => ∃ zs acc, Fz T H1 H ∧ H D = some (.lst acc) ∧ Paired (R H) acc zs ∧ zs.length ≤ i ∧ Pv i zs H) ⟨[], [], Fz.new hD, upd_same, .nil, Nat.le_refl _, hst 0 [] H1 [] hD h0⟩ (fun i H hi ⟨zs, acc, f, e, p, l, v⟩ => hG i zs H hi f v) ?_ fun H ⟨zs, acc, f, e, p, l, v⟩ => hd zs H f v l ⟨acc, e, p⟩
  rintro i x H H' hi ⟨zs, acc, f, e, p, l, v⟩ hy
  refine hs i x zs H H' _ _ hi f ⟨acc, e⟩ v hy (fun y z H4 f4 r v4 => ?_) fun H3 f3 v3 => ⟨zs, acc, f.trans f3, f3.at e nT, pR.all f3 p, by omega, v3⟩
  have e4 : H4 D = some (.lst acc) := f4.at e nT
  have l4 : acc.length = zs.length := plen p
  have hsz := sizeLine_eq
  have f5 : Fz T H1 (upd H4 D (.lst (acc ++ [y]))) := (f.trans f4).mut (.inl hD) e4
  refine ⟨acc, e4, by rw [l4]; exact szl (by omega), zs ++ [z], acc ++ [y], f5, upd_same, ?_, ?_, hst _ _ _ _ hD v4⟩
  · have q1 := papp (pR.all f4 p) (.cons r .nil)
    have f6 : Fz (fun b => b = D) H4 (upd H4 D (.lst (acc ++ [y]))) := Fz.refl.put e4 e4 rfl
    exact pR.all f6 q1
  · rw [List.length_append]
    exact Nat.add_le_add_right l 1
/-- .. where each item is told by its place: z i, if any -/
theorem lc_det {β : Type} {R : Hp → V → β → Prop} {J : It} {n : Nat} {G : Hp → Prop} {Y : Nat → Hp → V → Hp → Prop} (w : Walk J n G Y) (pR : Pers R) {g : TG} {tt : TT} {te : TE} {vs : List Nat} {σ : L2.St} {H1 : Hp} {D : Addr} {Qd : Hp → Prop}
    (hD : H1 D = none) (hn : n ≤ 100000) (z : Nat → Option β)
    (hG : ∀ H, Fz N0 H1 H → G H)
    (hs : ∀ i x H H' (C : V → Hp → Prop) (Nx : Hp → Prop), i < n → Fz N0 H1 H → Y i H x H' → (∀ y H4 b, z i = some b → Fz N0 H H4 → R H4 y b → C y H4) → (∀ H3, z i = none → Fz N0 H H3 → Nx H3) →
      g x (wipe σ vs) H' fun σ2 H2 => wipe σ2 vs = wipe σ vs ∧ tt σ2 H2 fun b H3 => if b = true then te σ2 H3 C else Nx H3)
    (hd : ∀ H, Fz N0 H1 H → LL R H D ((List.range n).filterMap z) → Qd H) :
    ∃ W : Nat → Nat → Hp → Prop, (∃ m, W 0 m (upd H1 D (.lst []))) ∧ ∀ i m H, W i m H →
      (J.stop i H ∧ Qd H) ∨ (J.go i H ∧ ∃ Nx : Hp → Prop, (∀ H', Nx H' → ∃ m', m' < m ∧ W (i + 1) m' H') ∧ ∀ x H', J.yld i H x H' → g x (wipe σ vs) H' fun σ2 H2 => wipe σ2 vs = wipe σ vs ∧ tt σ2 H2 fun b H3 =>
        if b = true then te σ2 H3 fun y H4 => ∃ acc, H4 D = some (.lst acc) ∧ acc.length < sizeLine ∧ Nx (upd H4 D (.lst (acc ++ [y]))) else Nx H3) := by
  refine lc_fz w pR N0 (fun b z => z.elim) hD hn (fun i zs H => zs = (List.range i).filterMap z) rfl (fun i zs H xs _ e => e) (fun i zs H _ f _ => hG H f) (fun i x zs H H' C Nx hi f _ v hy k1 k2 => ?_) fun zs H f v l q => hd H f (by rw [← v]; exact q)
  refine hs i x H H' C Nx hi f hy (fun y H4 b e f4 r => k1 y b H4 f4 r ?_) fun H3 e f3 => k2 H3 f3 ?_
  · rw [v, List.range_succ, List.filterMap_append]
    simp [e]
  · rw [v, List.range_succ, List.filterMap_append]
    simp [e]
/-- what is kept of n places, by a test: for ranges -/
theorem fm_range {α : Type} (n : Nat) (p : Nat → Bool) (f : Nat → α) : (List.range n).filterMap (fun i => if p i = true then some (f i) else none) = ((List.range n).filter p).map f := by
  induction List.range n with
  | nil => rfl
  | cons a l ih =>
    by_cases h : p a = true
    · simp [h, ih]
    · simp [h, ih]
theorem fm_range' (n : Nat) (p : Nat → Bool) : (List.range n).filterMap (fun i => if p i = true then some i else none) = (List.range n).filter p := by
  have := fm_range n p fun i => i
  rw [List.map_id'] at this
  exact this
/-- .. for lists -/
theorem fm_get {α β : Type} (f : α → Option β) : ∀ (l : List α), (List.range l.length).filterMap (fun i => l[i]?.bind f) = l.filterMap f := by
  intro l
  have e : (List.range l.length).map (fun i => l[i]?) = l.map some := by
    refine List.ext_getElem (by simp) fun i h1 h2 => ?_
    simp at h1 h2
    simp [h1]
  have : (List.range l.length).filterMap (fun i => l[i]?.bind f) = ((List.range l.length).map (fun i => l[i]?)).filterMap (fun o => o.bind f) := by
    rw [List.filterMap_map]
    rfl
  rw [this, e, List.filterMap_map]
  rfl
/-- .. of truths alone -/
theorem lc_true {J : It} {n : Nat} {G : Hp → Prop} {Y : Nat → Hp → V → Hp → Prop} (w : Walk J n G Y) {g : TG} {te : TE} {vs : List Nat} {σ : L2.St} {H1 : Hp} {D : Addr} {Qd : Hp → Prop}
    (hD : H1 D = none) (hn : n ≤ 100000) (hG : ∀ H, Fz N0 H1 H → G H)
    (hs : ∀ i x H H' (C : V → Hp → Prop), i < n → Fz N0 H1 H → Y i H x H' → (∀ H4, Fz N0 H H4 → C (.bl true) H4) → g x (wipe σ vs) H' fun σ2 H2 => wipe σ2 vs = wipe σ vs ∧ te σ2 H2 C)
    (hd : ∀ (H : Hp) (bs : List Bool), Fz N0 H1 H → H D = some (.lst (bs.map V.bl)) → bs.all id = true → Qd H) :
    ∃ W : Nat → Nat → Hp → Prop, (∃ m, W 0 m (upd H1 D (.lst []))) ∧ ∀ i m H, W i m H →
      (J.stop i H ∧ Qd H) ∨ (J.go i H ∧ ∃ Nx : Hp → Prop, (∀ H', Nx H' → ∃ m', m' < m ∧ W (i + 1) m' H') ∧ ∀ x H', J.yld i H x H' → g x (wipe σ vs) H' fun σ2 H2 => wipe σ2 vs = wipe σ vs ∧ tYes σ2 H2 fun b H3 =>
        if b = true then te σ2 H3 fun y H4 => ∃ acc, H4 D = some (.lst acc) ∧ acc.length < sizeLine ∧ Nx (upd H4 D (.lst (acc ++ [y]))) else Nx H3) := by
  refine lc_det (R := fun (_ : Hp) v b => v = V.bl b) w (fun _ _ _ _ _ _ e => e) hD hn (fun _ => some true) hG (fun i x H H' C Nx hi f hy k1 k2 => hs i x H H' C hi f hy fun H4 f4 => k1 _ _ _ rfl f4 rfl) fun H f ⟨acc, h1, h2⟩ => ?_
  have e : (List.range n).filterMap (fun _ => some true) = List.replicate n true := by
    rw [show (List.range n).filterMap (fun _ => some true) = (List.range n).map (fun _ => true) from congrFun (List.filterMap_eq_map (f := fun _ => true)) _]
    exact (List.map_const (l := List.range n) (b := true)).trans (by rw [List.length_range])
  rw [e] at h2
  have e2 : ∀ {acc : List V} {bs : List Bool}, Paired (fun v b => v = V.bl b) acc bs → acc = bs.map V.bl := by
    intro acc bs h
    induction h with
    | nil => rfl
    | cons h _ ih => rw [List.map_cons, ← ih, h]
  rw [e2 h2] at h1
  exact hd H _ f h1 (by rw [List.all_eq_true]; exact fun x hx => List.eq_of_mem_replicate hx)
/-! ### a list of lists of numbers -/
/-- at p a list of lists of numbers, at places of A -/
def NL (A : Addr → Prop) (H : Hp) (p : Addr) (ls : List (List Nat)) : Prop := ∃ ps : List Addr, H p = some (.lst (ps.map V.ref)) ∧ ps.Nodup ∧ p ∉ ps ∧ A p ∧ (∀ z ∈ ps, A z) ∧ ps.length = ls.length ∧ ∀ (i : Nat) (z : Addr) (l : List Nat), ps[i]? = some z → ls[i]? = some l → H z = some (.lst (l.map vn))
section
variable {A : Addr → Prop} {H : Hp} {p : Addr} {ls : List (List Nat)}
theorem NL.fz {H' : Hp} (h : NL A H p ls) {T : Addr → Prop} (f : Fz T H H') (hA : ∀ z, A z → ¬ T z) : NL A H' p ls := by
  obtain ⟨ps, h1, h2, h3, h4, h5, h6, h7⟩ := h
  exact ⟨ps, f.at h1 (hA p h4), h2, h3, h4, h5, h6, fun i z l e1 e2 => f.at (h7 i z l e1 e2) (hA z (h5 z (List.mem_of_getElem? e1)))⟩
theorem NL.fz0 {H' : Hp} (h : NL A H p ls) (f : Fz N0 H H') : NL A H' p ls := h.fz f fun _ _ z => z
theorem NL.imp {A' : Addr → Prop} (h : NL A H p ls) (hA : ∀ z, A z → A' z) : NL A' H p ls := by
  obtain ⟨ps, h1, h2, h3, h4, h5, h6, h7⟩ := h
  exact ⟨ps, h1, h2, h3, hA _ h4, fun z hz => hA _ (h5 z hz), h6, h7⟩
theorem NL.thr {H0 H1 : Hp} (h : NL (Fr H1) H p ls) {T : Addr → Prop} (f : Fz T H0 H1) : NL (Fr H0) H p ls := h.imp fun z e => f.thr z e
/-- all its places are told -/
theorem NL.know (h : NL A H p ls) : NL (fun z => A z ∧ ∃ o, H z = some o) H p ls := by
  obtain ⟨ps, h1, h2, h3, h4, h5, h6, h7⟩ := h
  refine ⟨ps, h1, h2, h3, ⟨h4, _, h1⟩, fun z hz => ⟨h5 z hz, ?_⟩, h6, h7⟩
  obtain ⟨i, hi, e⟩ := List.getElem_of_mem hz
  exact ⟨_, h7 i z _ (by rw [← e]; exact List.getElem?_eq_getElem hi) (List.getElem?_eq_getElem (by omega))⟩
theorem NL.ne (h : NL A H p ls) {q : Addr} (hq : H q = none) : NL (fun z => A z ∧ z ≠ q) H p ls := h.know.imp fun z ⟨h1, o, h2⟩ => ⟨h1, fun e => by rw [e, hq] at h2; cases h2⟩
/-- one of them is read; it may be written -/
theorem NL.get (h : NL A H p ls) {i : Nat} {l : List Nat} (e : ls[i]? = some l) : ∃ (ps : List Addr) (z : Addr), H p = some (.lst (ps.map V.ref)) ∧ (ps.map V.ref)[i]? = some (.ref z) ∧ H z = some (.lst (l.map vn)) ∧ A z ∧ z ≠ p ∧
    ∀ l' : List Nat, NL A (upd H z (.lst (l'.map vn))) p (ls.set i l') := by
  obtain ⟨ps, h1, h2, h3, h4, h5, h6, h7⟩ := h
  have hi := (List.getElem?_eq_some_iff.mp e).1
  have hi' : i < ps.length := by omega
  have ez : ps[i]? = some ps[i] := List.getElem?_eq_getElem hi'
  have hz : ps[i] ∈ ps := List.getElem_mem hi'
  have n1 : ps[i] ≠ p := fun q => h3 (q ▸ hz)
  refine ⟨ps, ps[i], h1, by rw [List.getElem?_map, ez]; rfl, h7 i _ l ez e, h5 _ hz, n1, fun l' => ⟨ps, by rw [upd_ne n1.symm]; exact h1, h2, h3, h4, h5, by rw [List.length_set]; exact h6, fun j y m ej em => ?_⟩⟩
  by_cases hj : i = j
  · subst hj
    rw [List.getElem?_set_self hi] at em
    rw [ez] at ej
    rw [← Option.some.inj ej, ← Option.some.inj em, upd_same]
  · rw [List.getElem?_set_ne hj] at em
    have hj' := (List.getElem?_eq_some_iff.mp ej).1
    have ny : y ≠ ps[i] := fun q => by
      have this : ps[j]'hj' = ps[i] := (List.getElem?_eq_some_iff.mp ej).2.trans q
      have z := List.pairwise_iff_getElem.mp h2
      rcases Nat.lt_or_gt_of_ne hj with g | g
      · exact z i j hi' hj' g this.symm
      · exact z j i hj' hi' g this
    rw [upd_ne ny]
    exact h7 j y m ej em
end
theorem refs_of : ∀ {acc : List V} {zs : List Addr}, Paired (fun v z => v = V.ref z) acc zs → acc = zs.map V.ref
  | _, _, .nil => rfl
  | _, _, .cons h t => by rw [List.map_cons, ← refs_of t, h]
/-- `[[] for x in ..]` -/
theorem lc_nest {J : It} {n : Nat} {G : Hp → Prop} {Y : Nat → Hp → V → Hp → Prop} (w : Walk J n G Y) {g : TG} {vs : List Nat} {σ : L2.St} {H1 : Hp} {D : Addr} {Qd : Hp → Prop}
    (hD : H1 D = none) (hn : n ≤ 100000) (hG : ∀ H, Fz N0 H1 H → G H)
    (hs : ∀ i x H H' (R : L2.St → Hp → Prop), i < n → Fz N0 H1 H → Y i H x H' → (∀ σ2 H2, wipe σ2 vs = wipe σ vs → Fz N0 H H2 → R σ2 H2) → g x (wipe σ vs) H' R)
    (hd : ∀ H, Fz N0 H1 H → NL (Fr H1) H D (List.replicate n []) → Qd H) :
    ∃ W : Nat → Nat → Hp → Prop, (∃ m, W 0 m (upd H1 D (.lst []))) ∧ ∀ i m H, W i m H →
      (J.stop i H ∧ Qd H) ∨ (J.go i H ∧ ∃ Nx : Hp → Prop, (∀ H', Nx H' → ∃ m', m' < m ∧ W (i + 1) m' H') ∧ ∀ x H', J.yld i H x H' → g x (wipe σ vs) H' fun σ2 H2 => wipe σ2 vs = wipe σ vs ∧ tYes σ2 H2 fun b H3 =>
        if b = true then (tLst tNil) σ2 H3 fun y H4 => ∃ acc, H4 D = some (.lst acc) ∧ acc.length < sizeLine ∧ Nx (upd H4 D (.lst (acc ++ [y]))) else Nx H3) := by
  refine lc_fz (R := fun _ v z => v = .ref z) w (fun _ _ _ _ _ _ e => e) N0 (fun b z => z.elim) hD hn (fun i zs H => zs.length = i ∧ zs.Nodup ∧ D ∉ zs ∧ (∀ z ∈ zs, Fr H1 z) ∧ ∀ z ∈ zs, H z = some (.lst [])) ⟨rfl, .nil, fun z => (nomatch z), fun _ z => (nomatch z), fun _ z => (nomatch z)⟩
    (fun i zs H xs hD ⟨a, b, c, d, e⟩ => ⟨a, b, c, d, fun z hz => by rw [upd_ne fun q : z = D => c (by rw [← q]; exact hz)]; exact e z hz⟩) (fun i zs H _ f _ => hG H f) (fun i x zs H H' C Nx hi f hDk ⟨a, b, c, d, e⟩ hy k1 k2 => ?_) fun zs H f ⟨a, b, c, d, e⟩ l ⟨acc, q1, q2⟩ => hd H f ⟨zs, ?_, b, c, .inl hD, d, by rw [List.length_replicate]; exact a, fun i z l h1 h2 => ?_⟩
  · refine hs i x H H' _ hi f hy fun σ2 H2 hw f2 => ⟨hw, ?_⟩
    refine ⟨Nat.zero_le _, fun p hp => k1 _ p _ (f2.snoc hp) rfl ⟨by rw [List.length_append, a]; rfl, ?_, ?_, ?_, ?_⟩⟩
    · obtain ⟨acc, hDk⟩ := hDk
      refine List.nodup_append.mpr ⟨b, List.pairwise_singleton _ _, fun y hy z hz q => ?_⟩
      rw [List.mem_singleton] at hz
      have := f2.at (e y hy) fun z => z
      rw [q, hz, hp] at this
      cases this
    · obtain ⟨acc, hDk⟩ := hDk
      intro q
      rcases List.mem_append.mp q with q | q
      · exact c q
      · rw [List.mem_singleton] at q
        have := f2.at hDk fun z => z
        rw [q, hp] at this
        cases this
    · intro z hz
      rcases List.mem_append.mp hz with q | q
      · exact d z q
      · rw [List.mem_singleton.mp q]
        exact (f.trans f2).fr hp
    · intro z hz
      rcases List.mem_append.mp hz with q | q
      · have h4 := f2.at (e z q) fun z => z
        rw [upd_ne fun q => by rw [q, hp] at h4; cases h4]
        exact h4
      · rw [List.mem_singleton.mp q]
        exact upd_same
  · have this : acc = zs.map V.ref := refs_of q2
    rw [← this]
    exact q1
  · have hz : z ∈ zs := List.mem_of_getElem? h1
    have hl : l = [] := List.eq_of_mem_replicate (List.mem_of_getElem? h2)
    rw [hl]
    exact e z hz
theorem walk_rangeN {n : Nat} : Walk (Itr 0 n) n (fun _ => True) (YFn fun i => vn i) := walk_range.mono (fun _ h => h) fun i H x H' _ _ h => ⟨h.1, by
  rw [h.2]
  show V.int (0 + ((i : Nat) : Int)) = vn i
  rw [Int.zero_add]⟩
theorem erase_map {α β : Type} (f : α → β) : ∀ (l : List α) (r : Nat), (l.map f).eraseIdx r = (l.eraseIdx r).map f
  | [], _ => rfl
  | a :: l, 0 => rfl
  | a :: l, r + 1 => by rw [List.map_cons, List.eraseIdx_cons_succ, List.eraseIdx_cons_succ, List.map_cons, erase_map f l r]
theorem erase_perm {α : Type} : ∀ (l : List α) (r : Nat) (h : r < l.length), (l[r] :: l.eraseIdx r).Perm l
  | a :: l, 0, _ => List.Perm.refl _
  | a :: l, r + 1, h => by
    rw [List.getElem_cons_succ, List.eraseIdx_cons_succ]
    exact (List.Perm.swap _ _ _).trans (List.Perm.cons a (erase_perm l r (by simpa using h)))
end Rw

/-! Plain words: what the defs compute. -/
namespace Rw
open PySem
/-- the places of a mask -/
def lotM (m : Nat) : List Nat := (List.range (Builtin.Int.intBits (m : Int))).filter fun k => m.testBit k
theorem bits_lt {m k : Nat} (h : m.testBit k = true) : k < Builtin.Int.intBits (m : Int) := by
  have h1 := Nat.ge_two_pow_of_testBit h
  unfold Builtin.Int.intBits
  have h0 : m ≠ 0 := fun z => by rw [z] at h; simp at h
  have hne : ((m : Int) == 0) = false := by
    rw [beq_eq_false_iff_ne]
    omega
  rw [hne]
  simp only [Bool.false_eq_true, if_false, Int.natAbs_natCast]
  exact Nat.lt_succ_of_le ((Nat.le_log2 h0).mpr h1)
theorem bits_le {m k : Nat} (h : m < 2 ^ k) : Builtin.Int.intBits (m : Int) ≤ k := PyProof.Rows.intBits_le (by rw [Int.natAbs_natCast]; exact h)
theorem mem_lotM {m k : Nat} : k ∈ lotM m ↔ m.testBit k = true := by
  unfold lotM
  rw [List.mem_filter, List.mem_range]
  exact ⟨fun h => h.2, fun h => ⟨bits_lt h, h⟩⟩
theorem lotM_sorted (m : Nat) : (lotM m).Pairwise (· < ·) := (List.pairwise_lt_range).filter _
/-- strictly sorted lists of the same members are one -/
theorem sorted_ext : ∀ {a b : List Nat}, a.Pairwise (· < ·) → b.Pairwise (· < ·) → (∀ k, k ∈ a ↔ k ∈ b) → a = b
  | [], [], _, _, _ => rfl
  | [], y :: b, _, _, h => by have := (h y).mpr (List.mem_cons_self); simp at this
  | x :: a, [], _, _, h => by have := (h x).mp (List.mem_cons_self); simp at this
  | x :: a, y :: b, ha, hb, h => by
    have ha' := List.pairwise_cons.mp ha
    have hb' := List.pairwise_cons.mp hb
    have exy : x = y := by
      have h1 := (h x).mp (List.mem_cons_self)
      have h2 := (h y).mpr (List.mem_cons_self)
      rcases List.mem_cons.mp h1 with z | z
      · exact z
      · rcases List.mem_cons.mp h2 with z2 | z2
        · exact z2.symm
        · have := hb'.1 x z
          have := ha'.1 y z2
          omega
    subst exy
    rw [sorted_ext ha'.2 hb'.2 fun k => ?_]
    have hk := h k
    rw [List.mem_cons, List.mem_cons] at hk
    constructor
    · intro q
      rcases hk.mp (.inr q) with z | z
      · rw [z] at q
        exact absurd (ha'.1 x q) (Nat.lt_irrefl _)
      · exact z
    · intro q
      rcases hk.mpr (.inr q) with z | z
      · rw [z] at q
        exact absurd (hb'.1 x q) (Nat.lt_irrefl _)
      · exact z
/-- what c needs; who needs d -/
def needL (nd : List (Nat × Nat)) (c : Nat) : List Nat := (nd.filter fun p => p.1 == c).map (·.2)
def readL (nd : List (Nat × Nat)) (d : Nat) : List Nat := (nd.filter fun p => p.2 == d).map (·.1)
theorem mem_needL {nd : List (Nat × Nat)} {c d : Nat} : d ∈ needL nd c ↔ (c, d) ∈ nd := by
  unfold needL
  rw [List.mem_map]
  constructor
  · rintro ⟨⟨a, b⟩, h, rfl⟩
    rw [List.mem_filter] at h
    obtain ⟨h1, h2⟩ := h
    have : a = c := by simpa using h2
    rw [← this]
    exact h1
  · intro h
    exact ⟨(c, d), List.mem_filter.mpr ⟨h, by simp⟩, rfl⟩
theorem mem_readL {nd : List (Nat × Nat)} {c d : Nat} : c ∈ readL nd d ↔ (c, d) ∈ nd := by
  unfold readL
  rw [List.mem_map]
  constructor
  · rintro ⟨⟨a, b⟩, h, rfl⟩
    rw [List.mem_filter] at h
    obtain ⟨h1, h2⟩ := h
    have : b = d := by simpa using h2
    rw [← this]
    exact h1
  · intro h
    exact ⟨(c, d), List.mem_filter.mpr ⟨h, by simp⟩, rfl⟩
theorem take_succ_get {α : Type} {l : List α} {i : Nat} {x : α} (h : l[i]? = some x) : l.take (i + 1) = l.take i ++ [x] := by
  rw [List.take_add_one, h]
  rfl
theorem needL_snoc (nd : List (Nat × Nat)) (c d x : Nat) : needL (nd ++ [(c, d)]) x = if c = x then needL nd x ++ [d] else needL nd x := by
  unfold needL
  rw [List.filter_append, List.map_append]
  by_cases h : c = x <;> simp [h]
theorem readL_snoc (nd : List (Nat × Nat)) (c d x : Nat) : readL (nd ++ [(c, d)]) x = if d = x then readL nd x ++ [c] else readL nd x := by
  unfold readL
  rw [List.filter_append, List.map_append]
  by_cases h : d = x <;> simp [h]
theorem range_set {α : Type} {n c : Nat} {f g : Nat → α} {v : α} (h1 : g c = v) (h2 : ∀ j, j ≠ c → g j = f j) : ((List.range n).map f).set c v = (List.range n).map g := by
  refine List.ext_getElem? fun j => ?_
  by_cases hj : c = j
  · subst hj
    by_cases hc : c < n
    · rw [List.getElem?_set_self (by rw [List.length_map, List.length_range]; exact hc), List.getElem?_map, List.getElem?_range hc, ← h1]
      rfl
    · rw [List.getElem?_eq_none (by rw [List.length_set, List.length_map, List.length_range]; omega), List.getElem?_eq_none (by rw [List.length_map, List.length_range]; omega)]
  · rw [List.getElem?_set_ne hj, List.getElem?_map, List.getElem?_map]
    by_cases hc : j < n
    · rw [List.getElem?_range hc]
      show some (f j) = some (g j)
      rw [h2 j fun z => hj z.symm]
    · rw [List.getElem?_eq_none (by rw [List.length_range]; omega)]
      rfl
theorem range_get {α : Type} {n c : Nat} {f : Nat → α} (h : c < n) : ((List.range n).map f)[c]? = some (f c) := by
  rw [List.getElem?_map, List.getElem?_range h]
  rfl
end Rw

/-! checks.py -/
namespace Rw
open PySem PySem.Spec PyProof.Rows L2
section
variable {P : Program} {w : World} {K : PySem.W.Frag} {mg : Str → Option Value} {base : Heap} {B W c : Addr}
/- is_integer -/
abbrev s_is_integer : Stmt := topS 1
abbrev N_is_integer : List Str := ["thing"]
theorem sc_is_integer : FnScope N_is_integer ["thing"] (C8.fnScope s_is_integer) := C8.fnScope_by (by decide +kernel)
def sp_is_integer : Sp := fun vs H Q _ => ∃ n : Int, vs = [.int n] ∧ Q (.bl true) H
theorem ok_is_integer (T : Tx K mg B W c) : C8.Cal P w K mg base 1 "is_integer" sp_is_integer [] := by
  refine calD T.d_is_integer sc_is_integer (fun vs H Q E ⟨n, h, _⟩ => by rw [h]; rfl) fun f cdv A outer s H vs Q E hr h => ?_
  obtain ⟨n, rfl, q⟩ := h
  refine ⟨_, (pss_one (ps_ret (pe_and (pe_callB call_is (by rfl) T.z_isinstance (by decide +kernel) (pa_cons (pv 0) (pa_cons (pe_bltn (v := .ty "int") (by rfl) T.z_int (by decide +kernel) rfl) pa_nil))) (pe_one (pe_not (pe_callB call_is (by rfl) T.z_isinstance (by decide +kernel) (pa_cons (pv 0) (pa_cons (pe_bltn (v := .ty "bool") (by rfl) T.z_bool (by decide +kernel) rfl) pa_nil)))))))), ?_⟩
  exact ⟨_, rfl, _, _, _, rfl, .ii n, _, rfl, _, rfl, _, _, _, rfl, .ib n, _, rfl, q⟩
/- is_within -/
abbrev s_is_within : Stmt := topS 2
abbrev N_is_within : List Str := ["thing", "least", "most"]
theorem sc_is_within : FnScope N_is_within ["thing", "least", "most"] (C8.fnScope s_is_within) := C8.fnScope_by (by decide +kernel)
def sp_is_within : Sp := fun vs H Q _ => ∃ n a b : Int, vs = [.int n, .int a, .int b] ∧ a ≤ n ∧ n ≤ b ∧ Q (.bl true) H
theorem ok_is_within (T : Tx K mg B W c) : C8.Cal P w K mg base 2 "is_within" sp_is_within [] := by
  refine calD T.d_is_within sc_is_within (fun vs H Q E ⟨n, a, b, h, _⟩ => by rw [h]; rfl) fun f cdv A outer s H vs Q E hr h => ?_
  obtain ⟨n, a, b, rfl, h1, h2, q⟩ := h
  refine ⟨_, (pss_one (ps_ret (pe_and (C8.pe_c (ok_is_integer T) hr (by decide) (by rfl) (pa_cons (pv 0) pa_nil)) (pe_one (pe_chain op_le op_le (pv 1) (pv 0) (pv 2)))))), ?_⟩
  exact ⟨_, rfl, n, rfl, _, rfl, _, rfl, _, rfl, a, n, rfl, rfl, _, rfl, by rw [if_pos (decide_eq_true h1)]; exact ⟨_, rfl, n, b, rfl, rfl, by show Q (.bl (decide (n ≤ b))) H; rw [decide_eq_true h2]; exact q⟩⟩
/- is_lot -/
abbrev s_is_lot : Stmt := topS 3
abbrev N_is_lot : List Str := ["thing", "many", "last", "number"]
theorem sc_is_lot : FnScope N_is_lot ["thing", "many"] (C8.fnScope s_is_lot) := C8.fnScope_by (by decide +kernel)
def sp_is_lot : Sp := fun vs H Q _ => ∃ (v : V) (ns : List Nat) (m : Nat), vs = [v, vn m] ∧ TN H v ns ∧ ns.Pairwise (· < ·) ∧ (∀ x ∈ ns, x < m) ∧ ns.length ≤ 1000 ∧ Q (.bl true) H
theorem ok_is_lot (T : Tx K mg B W c) : C8.Cal P w K mg base 3 "is_lot" sp_is_lot [] := by
  refine calD T.d_is_lot sc_is_lot (fun vs H Q E ⟨n, a, b, h, _⟩ => by rw [h]; rfl) fun f cdv A outer s H vs Q E hr h => ?_
  obtain ⟨v, ns, m, rfl, ht, hp, hl, hz, q⟩ := h
  obtain ⟨a, rfl, ha⟩ := tn_iff.mp ht
  refine ⟨_, (pss_cons (ps_if (pt_not (pt_val (pe_callB call_is (by rfl) T.z_isinstance (by decide +kernel) (pa_cons (pv 0) (pa_cons (pe_bltn (v := .ty "tuple") (by rfl) T.z_tuple (by decide +kernel) rfl) pa_nil)))))
          (pss_one (ps_ret pe_bl))
          pss_nil)
        (pss_cons (ps_set (i := 2) sc_is_lot.nd rfl (.inl rfl) (pe_un un_neg pe_int))
        (pss_cons (ps_for PassesOwn.never rfl (pi_tup (pv 0)) (pg_name (i := 3) sc_is_lot.nd rfl (.inl rfl))
          (pss_cons (ps_if (pt_not (pt_val (C8.pe_c (ok_is_within T) hr (by decide) (by rfl) (pa_cons (pv 3) (pa_cons (pe_op op_add (pv 2) pe_int) (pa_cons (pe_op op_sub (pv 1) pe_int) pa_nil))))))
            (pss_one (ps_ret pe_bl))
            pss_nil)
          (pss_one (ps_set (i := 2) sc_is_lot.nd rfl (.inl rfl) (pv 3)))))
        (pss_one (ps_ret pe_bl))))), ?_⟩
  refine ⟨_, rfl, _, _, _, rfl, .tt ha, _, rfl, ?_⟩
  refine ⟨1, rfl, _, rfl, a, rfl, ⟨_, sT ha⟩, for_it (walk_tup (K := K) (a := a) (xs := ns.map vn)) (fun i σ H' => H' = H ∧ ∃ (l : Int) (u : Option V), σ = [some (.ref a), some (vn m), some (.int l), u] ∧ ∀ j x, i ≤ j → ns[j]? = some x → l < (x : Int)) ⟨rfl, -1, _, rfl, fun j x _ _ => by omega⟩ (fun i σ H' _ z => by rw [z.1]; exact sT ha) ?_ ?_⟩
  · rintro i x σ H1 H' hi ⟨rfl, l, u, rfl, hlt⟩ ⟨rfl, hx⟩
    obtain ⟨y, hy, rfl⟩ := vn_get' hx
    have hy1 := hlt i y (Nat.le_refl _) hy
    have hy2 := hl y (List.mem_of_getElem? hy)
    refine ⟨_, rfl, _, rfl, l, 1, rfl, rfl, _, rfl, m, 1, rfl, rfl, y, l + 1, (m : Int) - 1, rfl, by omega, by omega, _, rfl, _, rfl, rfl, y, _, rfl, fun j x hj hx => ?_⟩
    have h := List.pairwise_iff_getElem.mp hp i j (List.getElem?_eq_some_iff.mp hy).1 (List.getElem?_eq_some_iff.mp hx).1 hj
    rw [(List.getElem?_eq_some_iff.mp hy).2, (List.getElem?_eq_some_iff.mp hx).2] at h
    omega
  · rintro σ H' ⟨rfl, l, u, rfl, _⟩
    exact q
/- is_pair -/
abbrev s_is_pair : Stmt := topS 4
abbrev N_is_pair : List Str := ["thing"]
theorem sc_is_pair : FnScope N_is_pair ["thing"] (C8.fnScope s_is_pair) := C8.fnScope_by (by decide +kernel)
def sp_is_pair : Sp := fun vs H Q _ => ∃ a x y, vs = [.ref a] ∧ H a = some (.tup [x, y]) ∧ Q (.bl true) H
theorem ok_is_pair (T : Tx K mg B W c) : C8.Cal P w K mg base 1 "is_pair" sp_is_pair [] := by
  refine calD T.d_is_pair sc_is_pair (fun vs H Q E ⟨n, a, b, h, _⟩ => by rw [h]; rfl) fun f cdv A outer s H vs Q E hr h => ?_
  obtain ⟨a, x, y, rfl, ha, q⟩ := h
  refine ⟨_, (pss_one (ps_ret (pe_and (pe_callB call_is (by rfl) T.z_isinstance (by decide +kernel) (pa_cons (pv 0) (pa_cons (pe_bltn (v := .ty "tuple") (by rfl) T.z_tuple (by decide +kernel) rfl) pa_nil))) (pe_one (pe_cmpR op_eq (pe_callB call_len_seq (by rfl) T.z_len PySem.boot_len (pa_cons (pv 0) pa_nil)) pe_int (nomark _)))))), ?_⟩
  refine ⟨_, rfl, _, _, _, rfl, .tt ha, _, rfl, _, rfl, a, [x, y], rfl, .inr (sT ha), rfl, ?_⟩
  exact q
/- lot_of -/
abbrev s_lot_of : Stmt := topS 5
abbrev N_lot_of : List Str := ["some"]
theorem sc_lot_of : FnScope N_lot_of ["some"] (C8.fnScope s_lot_of) := C8.fnScope_by (by decide +kernel)
def sp_lot_of : Sp := fun vs H Q _ => ∃ v ns, vs = [v] ∧ TN H v ns ∧ ns.length < 64 ∧ ∀ (ms : List Nat) v' H', ms.Pairwise (· < ·) → (∀ k, k ∈ ms ↔ k ∈ ns) → Fz N0 H H' → TN H' v' ms → Q v' H'
theorem ok_lot_of (T : Tx K mg B W c) : C8.Cal P w K mg base 1 "lot_of" sp_lot_of [] := by
  refine calD T.d_lot_of sc_lot_of (fun vs H Q E ⟨n, a, h, _⟩ => by rw [h]; rfl) fun f cdv A outer s H vs Q E hr h => ?_
  obtain ⟨v, ns, rfl, ht, hz, q⟩ := h
  obtain ⟨a, rfl, ha⟩ := tn_iff.mp ht
  refine ⟨_, (pss_one (ps_ret (pe_callTy call_tuple_of (by rfl) T.z_tuple (by decide +kernel) (pa_cons (pe_callB (cr_sortedSet rfl) (by rfl) T.z_sorted (by decide +kernel) (pa_cons (pe_callTy (cr_setI rfl) (by rfl) T.z_set (by decide +kernel) (pa_cons (pe_callTy call_list_of (by rfl) T.z_list (by decide +kernel) (pa_cons (pv 0) pa_nil)) pa_nil)) pa_nil)) pa_nil)))), ?_⟩
  refine ⟨_, rfl, a, _, rfl, .inr (sT ha), fun l hl => ⟨l, ns.map fun n : Nat => (n : Int), rfl, .inl (sL (by rw [← map_vn]; exact upd_same)), by rw [List.length_map]; omega, fun a2 c2 h2 hc => ⟨a2, _, _, rfl, upd_same, by rw [List.length_map] at hc; omega, fun zs p hp hm hn h3 => ⟨p, _, rfl, .inl ⟨sL upd_same, fun p2 h4 => ?_⟩⟩⟩⟩⟩
  have hpos : ∀ z ∈ zs, 0 ≤ z := fun z hz => by
    obtain ⟨n, _, rfl⟩ := List.mem_map.mp (of_decide_eq_true ((hm z).mp hz))
    omega
  obtain ⟨ms, rfl⟩ := nats_of zs hpos
  refine q ms _ _ (lt_natmap.mp hp) (fun k => ?_) ((((Fz.new hl).snoc h2).snoc h3).snoc h4) (tn_iff.mpr ⟨p2, rfl, by rw [← map_vn]; exact upd_same⟩)
  have z := hm (k : Int)
  rw [mem_natmap, decide_eq_true_iff, mem_natmap] at z
  exact z
end
end Rw

/-! The order of the changes: Kahn's search, in plain words. -/
namespace Rw
theorem nodup_lt : ∀ (m : Nat) (l : List Nat), l.Nodup → (∀ c ∈ l, c < m) → l.length ≤ m
  | 0, [], _, _ => Nat.le_refl _
  | 0, a :: l, _, h => absurd (h a (List.mem_cons_self)) (Nat.not_lt_zero _)
  | m + 1, l, nd, h => by
    by_cases hm : m ∈ l
    · have h1 := nodup_lt m (l.erase m) (nd.erase m) fun c hc => by
        have h2 := h c (List.mem_of_mem_erase hc)
        have h3 : c ≠ m := fun z => (List.Nodup.not_mem_erase nd) (z ▸ hc)
        omega
      rw [List.length_erase_of_mem hm] at h1
      omega
    · have h1 := nodup_lt m l nd fun c hc => by
        have h2 := h c hc
        have h3 : c ≠ m := fun z => hm (z ▸ hc)
        omega
      omega
/-- how many of l are not in f -/
def miss (f l : List Nat) : Nat := l.countP fun d => !(f.contains d)
theorem miss_nil (l : List Nat) : miss [] l = l.length := by
  unfold miss
  induction l with
  | nil => rfl
  | cons a l ih => rw [List.countP_cons, ih]; simp
theorem miss_zero {f l : List Nat} : miss f l = 0 ↔ ∀ d ∈ l, d ∈ f := by
  unfold miss
  rw [List.countP_eq_zero]
  simp
theorem miss_snoc {f : List Nat} {h : Nat} (hh : h ∉ f) : ∀ l : List Nat, miss f l = miss (f ++ [h]) l + l.count h
  | [] => rfl
  | a :: l => by
    have ih := miss_snoc hh l
    unfold miss at ih ⊢
    rw [List.countP_cons, List.countP_cons, List.count_cons, ih]
    by_cases e : a = h
    · subst e
      simp [hh]
      omega
    · have e2 : (a == h) = false := by simp [e]
      have e3 : (f ++ [h]).contains a = f.contains a := by simp [e]
      rw [e2, e3]
      simp
      omega
theorem count_need (nd : List (Nat × Nat)) (c h : Nat) : (needL nd c).count h = (readL nd h).count c := by
  induction nd with
  | nil => rfl
  | cons p nd ih =>
    obtain ⟨a, b⟩ := p
    unfold needL readL at ih ⊢
    by_cases h1 : a = c <;> by_cases h2 : b = h <;> simp [h1, h2, List.count_cons, ih]
/-- the search's state: f found, w waiting, L what each still lacks, e whose readers are still to be told -/
structure KM (nd : List (Nat × Nat)) (m : Nat) (e w f L : List Nat) : Prop where
  nodup : (f ++ w).Nodup
  lt : ∀ c ∈ f ++ w, c < m
  len : L.length = m
  cnt : ∀ c, c < m → L[c]? = some (miss f (needL nd c) + e.count c)
  zero : ∀ c, c < m → (c ∈ f ++ w ↔ miss f (needL nd c) + e.count c = 0)
  ord : ∀ l1 c l2, f = l1 ++ c :: l2 → ∀ d ∈ needL nd c, d ∈ l1
/-- all changes, each behind what it needs -/
structure Topo (nd : List (Nat × Nat)) (m : Nat) (o : List Nat) : Prop where
  nodup : o.Nodup
  all : ∀ c, c ∈ o ↔ c < m
  ord : ∀ l1 c l2, o = l1 ++ c :: l2 → ∀ d ∈ needL nd c, d ∈ l1
/-- no ring -/
def Acy (nd : List (Nat × Nat)) : Prop := ∃ rk : Nat → Nat, ∀ c d, (c, d) ∈ nd → rk d < rk c
section
variable {nd : List (Nat × Nat)} {m : Nat} {e w f L : List Nat}
theorem KM.init (nd : List (Nat × Nat)) (m : Nat) : KM nd m [] ((List.range m).filter fun c => (needL nd c).length == 0) [] ((List.range m).map fun c => (needL nd c).length) where
  nodup := by
    rw [List.nil_append]
    exact List.nodup_range.filter _
  lt c h := by
    rw [List.nil_append, List.mem_filter, List.mem_range] at h
    exact h.1
  len := by simp
  cnt c h := by
    rw [range_get h, miss_nil]
    simp
  zero c h := by
    rw [List.nil_append, List.mem_filter, List.mem_range, miss_nil]
    simp [h]
  ord l1 c l2 h := by simp at h
theorem KM.pop {h : Nat} (k : KM nd m [] (w ++ [h]) f L) : KM nd m (readL nd h) w (f ++ [h]) L := by
  have hnd : (f ++ [h] ++ w).Nodup := by
    have p : (f ++ (w ++ [h])).Perm (f ++ [h] ++ w) := by
      rw [List.append_assoc]
      exact List.Perm.append_left f List.perm_append_comm
    exact p.nodup_iff.mp k.nodup
  have hf : h ∉ f := fun z => by
    have h1 := k.nodup
    rw [List.nodup_append] at h1
    exact h1.2.2 h z h (by simp) rfl
  have mem : ∀ c, c ∈ f ++ [h] ++ w ↔ c ∈ f ++ (w ++ [h]) := fun c => by simp; constructor <;> (rintro (z | z | z) <;> simp [z])
  refine ⟨hnd, fun c z => k.lt c ((mem c).mp z), k.len, fun c hc => ?_, fun c hc => ?_, fun l1 c l2 z d hd => ?_⟩
  · rw [k.cnt c hc, miss_snoc hf, count_need]
    simp
  · rw [mem, k.zero c hc, miss_snoc hf, count_need]
    simp
  · rcases List.eq_nil_or_concat l2 with e2 | ⟨l3, x, e2⟩
    · subst e2
      obtain ⟨e3, e4⟩ := List.append_inj' z rfl
      obtain rfl : h = c := by simpa using e4
      subst e3
      have hh : h < m := k.lt h (by simp)
      have h1 := (k.zero h hh).mp (by simp)
      simp at h1
      exact miss_zero.mp h1 d hd
    · subst e2
      have z2 : f ++ [h] = (l1 ++ c :: l3) ++ [x] := by rw [z]; simp
      obtain ⟨e3, e4⟩ := List.append_inj' z2 rfl
      exact k.ord l1 c l3 e3 d hd
theorem KM.dec {c : Nat} (k : KM nd m (c :: e) w f L) (hc : c < m) : ∃ x, L[c]? = some (x + 1) ∧ KM nd m e (if x = 0 then w ++ [c] else w) f (L.set c x) := by
  have h1 := k.cnt c hc
  have e1 : (c :: e).count c = e.count c + 1 := by simp
  have z1 := k.zero c hc
  rw [e1] at h1 z1
  have ncf : c ∉ f ++ w := fun q => by
    have := z1.mp q
    omega
  have oth : ∀ y, y ≠ c → (c :: e).count y = e.count y := fun y hy => List.count_cons_of_ne (fun z => hy z.symm)
  refine ⟨miss f (needL nd c) + e.count c, by rw [h1]; rfl, ?_⟩
  have hlen : c < L.length := by rw [k.len]; exact hc
  refine ⟨?_, ?_, by rw [List.length_set, k.len], fun y hy => ?_, fun y hy => ?_, k.ord⟩
  · split
    · rw [← List.append_assoc, List.nodup_append]
      refine ⟨k.nodup, List.pairwise_singleton _ _, fun y hy z hz q => ?_⟩
      rw [List.mem_singleton] at hz
      rw [q, hz] at hy
      exact ncf hy
    · exact k.nodup
  · intro y hy
    split at hy
    · rw [← List.append_assoc, List.mem_append, List.mem_singleton] at hy
      rcases hy with hy | hy
      · exact k.lt y hy
      · rw [hy]; exact hc
    · exact k.lt y hy
  · by_cases q : y = c
    · subst q
      rw [List.getElem?_set_self hlen]
    · rw [List.getElem?_set_ne (fun z => q z.symm), k.cnt y hy, oth y q]
  · by_cases q : y = c
    · subst q
      split
      · rename_i h0
        simp [h0]
      · rename_i h0
        exact ⟨fun z => (ncf z).elim, fun z => (h0 z).elim⟩
    · have h2 := k.zero y hy
      rw [oth y q] at h2
      rw [← h2]
      split
      · rw [← List.append_assoc, List.mem_append, List.mem_singleton]
        exact ⟨fun z => z.resolve_right q, .inl⟩
      · exact Iff.rfl
theorem KM.done (k : KM nd m [] [] f L) (ac : Acy nd) (hlt : ∀ p ∈ nd, p.2 < m) : Topo nd m f := by
  obtain ⟨rk, hrk⟩ := ac
  refine ⟨by have := k.nodup; rwa [List.append_nil] at this, fun c => ⟨fun z => k.lt c (by rw [List.append_nil]; exact z), ?_⟩, k.ord⟩
  have main : ∀ r c, rk c < r → c < m → c ∈ f := by
    intro r
    induction r with
    | zero => intro c h; omega
    | succ r ih =>
      intro c h hc
      have z := k.zero c hc
      rw [List.append_nil] at z
      refine z.mpr ?_
      simp only [List.count_nil, Nat.add_zero]
      refine miss_zero.mpr fun d hd => ?_
      have h1 := mem_needL.mp hd
      exact ih d (by have := hrk c d h1; omega) (hlt _ h1)
  exact main _ c (Nat.lt_succ_self _)
theorem KM.few (k : KM nd m e w f L) : f.length + w.length ≤ m := by
  have h := nodup_lt m (f ++ w) k.nodup k.lt
  rw [List.length_append] at h
  exact h
end
/-- k lies beneath c -/
inductive Beneath (nd : List (Nat × Nat)) : Nat → Nat → Prop
  | one {c k : Nat} (h : (c, k) ∈ nd) : Beneath nd c k
  | more {c d k : Nat} (h : (c, d) ∈ nd) (b : Beneath nd d k) : Beneath nd c k
theorem beneath_iff {nd : List (Nat × Nat)} {c k : Nat} : Beneath nd c k ↔ ∃ d, (c, d) ∈ nd ∧ (k = d ∨ Beneath nd d k) := by
  constructor
  · intro h
    cases h with
    | one h => exact ⟨k, h, .inl rfl⟩
    | more h b => exact ⟨_, h, .inr b⟩
  · rintro ⟨d, h, rfl | b⟩
    · exact .one h
    · exact .more h b
/-- the masks of what lies beneath -/
def BN (nd : List (Nat × Nat)) (m : Nat) (bn : List Nat) : Prop := bn.length = m ∧ ∀ c x, bn[c]? = some x → ∀ k, x.testBit k = true ↔ Beneath nd c k
structure BO (nd : List (Nat × Nat)) (m : Nat) (done bn : List Nat) : Prop where
  len : bn.length = m
  old : ∀ y x, bn[y]? = some x → y ∈ done → ∀ k, x.testBit k = true ↔ Beneath nd y k
  new : ∀ y x, bn[y]? = some x → y ∉ done → x = 0
structure BJ (nd : List (Nat × Nat)) (m : Nat) (done : List Nat) (c : Nat) (l bn : List Nat) : Prop where
  len : bn.length = m
  old : ∀ y x, bn[y]? = some x → y ∈ done → ∀ k, x.testBit k = true ↔ Beneath nd y k
  new : ∀ y x, bn[y]? = some x → y ∉ done → y ≠ c → x = 0
  cur : ∀ x, bn[c]? = some x → ∀ k, x.testBit k = true ↔ ∃ d ∈ l, k = d ∨ Beneath nd d k
theorem BO.init (nd : List (Nat × Nat)) (m : Nat) : BO nd m [] (List.replicate m 0) := ⟨List.length_replicate, fun _ _ _ h => (nomatch h), fun y x h _ => by
  have := List.mem_of_getElem? h
  exact List.eq_of_mem_replicate this⟩
theorem BO.turn {nd : List (Nat × Nat)} {m : Nat} {done bn : List Nat} {c : Nat} (b : BO nd m done bn) (hc : c ∉ done) : BJ nd m done c [] bn := ⟨b.len, b.old, fun y x h n _ => b.new y x h n, fun x h k => by
  rw [b.new c x h hc]
  simp⟩
theorem BJ.step {nd : List (Nat × Nat)} {m : Nat} {done l bn : List Nat} {c d : Nat} (b : BJ nd m done c l bn) (hc : c < m) (hd : d < m) (hcd : c ∉ done) (hdd : d ∈ done) :
    ∃ x y, bn[c]? = some x ∧ bn[d]? = some y ∧ BJ nd m done c (l ++ [d]) (bn.set c (x ||| (y ||| 2 ^ d))) := by
  have e1 : bn[c]? = some (bn[c]'(by rw [b.len]; exact hc)) := List.getElem?_eq_getElem _
  have e2 : bn[d]? = some (bn[d]'(by rw [b.len]; exact hd)) := List.getElem?_eq_getElem _
  refine ⟨_, _, e1, e2, by rw [List.length_set, b.len], fun y x h hy => ?_, fun y x h hy n => ?_, fun x h k => ?_⟩
  · have n : c ≠ y := fun z => hcd (z ▸ hy)
    rw [List.getElem?_set_ne n] at h
    exact b.old y x h hy
  · rw [List.getElem?_set_ne n.symm] at h
    exact b.new y x h hy n
  · rw [List.getElem?_set_self (by rw [b.len]; exact hc)] at h
    rw [← Option.some.inj h, Nat.testBit_or, Nat.testBit_or, Nat.testBit_two_pow, Bool.or_eq_true, Bool.or_eq_true, b.cur _ e1, b.old d _ e2 hdd, decide_eq_true_iff]
    constructor
    · rintro (⟨e, he, q⟩ | q | q)
      · exact ⟨e, List.mem_append_left _ he, q⟩
      · exact ⟨d, by simp, .inr q⟩
      · exact ⟨d, by simp, .inl q.symm⟩
    · rintro ⟨e, he, q⟩
      rcases List.mem_append.mp he with z | z
      · exact .inl ⟨e, z, q⟩
      · rw [List.mem_singleton] at z
        subst z
        rcases q with q | q
        · exact .inr (.inr q.symm)
        · exact .inr (.inl q)
theorem BJ.fin {nd : List (Nat × Nat)} {m : Nat} {done bn : List Nat} {c : Nat} (b : BJ nd m done c (needL nd c) bn) : BO nd m (done ++ [c]) bn := by
  have cur : ∀ x, bn[c]? = some x → ∀ k, x.testBit k = true ↔ Beneath nd c k := fun x h k => by
    rw [b.cur x h k, beneath_iff]
    constructor
    · rintro ⟨d, hd, q⟩
      exact ⟨d, mem_needL.mp hd, q⟩
    · rintro ⟨d, hd, q⟩
      exact ⟨d, mem_needL.mpr hd, q⟩
  refine ⟨b.len, fun y x h hy => ?_, fun y x h hy => ?_⟩
  · rcases List.mem_append.mp hy with z | z
    · exact b.old y x h z
    · rw [List.mem_singleton] at z
      subst z
      exact cur x h
  · have n1 : y ∉ done := fun z => hy (List.mem_append_left _ z)
    have n2 : y ≠ c := fun z => hy (by simp [z])
    exact b.new y x h n1 n2
theorem BO.done {nd : List (Nat × Nat)} {m : Nat} {o bn : List Nat} (b : BO nd m o bn) (t : Topo nd m o) : BN nd m bn := ⟨b.len, fun c x h => b.old c x h ((t.all c).mpr (by rw [← b.len]; exact (List.getElem?_eq_some_iff.mp h).1))⟩
theorem Topo.at {nd : List (Nat × Nat)} {m : Nat} {o : List Nat} (t : Topo nd m o) {i c : Nat} (h : o[i]? = some c) : c < m ∧ c ∉ o.take i ∧ (∀ d ∈ needL nd c, d ∈ o.take i) ∧ o.take (i + 1) = o.take i ++ [c] := by
  have hi := (List.getElem?_eq_some_iff.mp h).1
  have e : o = o.take i ++ c :: o.drop (i + 1) := by
    have h1 : o.drop i = c :: o.drop (i + 1) := by rw [List.drop_eq_getElem_cons hi, (List.getElem?_eq_some_iff.mp h).2]
    rw [← h1, List.take_append_drop]
  refine ⟨(t.all c).mp (List.mem_of_getElem? h), fun z => ?_, fun d hd => t.ord _ _ _ e d hd, take_succ_get h⟩
  have nd := t.nodup
  rw [e, List.nodup_append] at nd
  exact nd.2.2 c z c (List.mem_cons_self) rfl
end Rw

/-! sorted(set(xs)) of a list of pairs. -/
namespace Rw
open PySem PySem.Spec PyProof.Rows L2
/-- pairs, each ahead of the next -/
def PLt (p q : Nat × Nat) : Prop := p.1 < q.1 ∨ (p.1 = q.1 ∧ p.2 < q.2)
/-- a pair as numbers -/
def prI (p : Nat × Nat) : List Int := [(p.1 : Int), (p.2 : Int)]
theorem prI_inj {p q : Nat × Nat} (h : prI p = prI q) : p = q := by
  unfold prI at h
  simp at h
  exact Prod.ext (Int.ofNat.inj h.1) (Int.ofNat.inj h.2)
theorem pairs_ks {H : Hp} : ∀ {vs : List V} {ps : List (Nat × Nat)}, Paired (PN H) vs ps → ∃ ks : List (Addr × List Int), vs = ks.map (fun p => V.ref p.1) ∧ ks.map (·.2) = ps.map prI ∧ ∀ p ∈ ks, H p.1 = some (.tup (p.2.map V.int))
  | _, _, .nil => ⟨[], rfl, rfl, fun p h => (nomatch h)⟩
  | _, _, .cons h t => by
    obtain ⟨ks, e1, e2, e3⟩ := pairs_ks t
    obtain ⟨a, u, w, rfl, ha, ru, rw'⟩ := h
    obtain rfl := show u = vn _ from ru
    obtain rfl := show w = vn _ from rw'
    refine ⟨(a, prI _) :: ks, by rw [List.map_cons, ← e1], by rw [List.map_cons, List.map_cons, e2], fun p hp => ?_⟩
    rcases List.mem_cons.mp hp with z | z
    · rw [z]
      exact ha
    · exact e3 p z
theorem of_prI : ∀ {L : List (List Int)} {ps : List (Nat × Nat)}, (∀ l ∈ L, l ∈ ps.map prI) → ∃ L' : List (Nat × Nat), L = L'.map prI ∧ ∀ p ∈ L', p ∈ ps
  | [], _, _ => ⟨[], rfl, fun p h => (nomatch h)⟩
  | l :: L, ps, h => by
    obtain ⟨L', e1, e2⟩ := of_prI (L := L) (ps := ps) fun x hx => h x (List.mem_cons_of_mem _ hx)
    obtain ⟨p, hp, rfl⟩ := List.mem_map.mp (h l (List.mem_cons_self))
    refine ⟨p :: L', by rw [List.map_cons, ← e1], fun q hq => ?_⟩
    rcases List.mem_cons.mp hq with z | z
    · rw [z]
      exact hp
    · exact e2 q z
theorem nodup_of_map {α β : Type} {f : α → β} : ∀ {l : List α}, (l.map f).Nodup → l.Nodup
  | [], _ => .nil
  | a :: l, h => by
    rw [List.map_cons, List.nodup_cons] at h
    rw [List.nodup_cons]
    exact ⟨fun z => h.1 (List.mem_map_of_mem z), nodup_of_map h.2⟩
theorem paired_of_ks {H : Hp} : ∀ {ks : List (Addr × List Int)} {nd : List (Nat × Nat)}, ks.map (·.2) = nd.map prI → (∀ p ∈ ks, H p.1 = some (.tup (p.2.map V.int))) → Paired (PN H) (ks.map fun p => V.ref p.1) nd
  | [], [], _, _ => .nil
  | [], _ :: _, h, _ => by simp at h
  | _ :: _, [], h, _ => by simp at h
  | k :: ks, p :: nd, h, g => by
    rw [List.map_cons, List.map_cons, List.cons.injEq] at h
    refine .cons ⟨k.1, vn p.1, vn p.2, rfl, ?_, rfl, rfl⟩ (paired_of_ks h.2 fun q hq => g q (List.mem_cons_of_mem _ hq))
    rw [g k (List.mem_cons_self), h.1]
    rfl
theorem ss_pairs {K : PySem.W.Frag} {P : Program} {w : World} {σ : L2.St} {H : Hp} {l : Addr} {ps : List (Nat × Nat)} (hl : LL PN H l ps) (hlt : ∀ p ∈ ps, p.1 < 64 ∧ p.2 < 64) (hfew : ∀ L : List (Nat × Nat), L.Nodup → (∀ p ∈ L, p ∈ ps) → L.length + 1 < 64) {Q : VK}
    (q : ∀ nd p H', nd.Pairwise PLt → (∀ x, x ∈ nd ↔ x ∈ ps) → Fz N0 H H' → LL PN H' p nd → Q (.ref p) H') : rSetT K P w [.ref l] H (fun v H1 => tNil σ H1 fun xs H2 => rSortedT K P w (v :: xs) H2 Q) := by
  obtain ⟨vs, h1, h2⟩ := hl
  obtain ⟨ks, e1, e2, e3⟩ := pairs_ks h2
  refine ⟨l, ks, rfl, .inl (.inl (by rw [← e1]; exact h1)), fun p hp => .inl (.inl (e3 p hp)), fun L hn hs => ?_, fun a L ha hs hall => ?_⟩
  · obtain ⟨L', g1, g2⟩ := of_prI (L := L.map (·.2)) (ps := ps) fun x hx => by
      obtain ⟨p, hp, rfl⟩ := List.mem_map.mp hx
      rw [← e2]
      exact List.mem_map_of_mem (hs p hp)
    have := hfew L' (nodup_of_map (by rw [← g1]; exact hn)) g2
    have e := congrArg List.length g1
    rw [List.length_map, List.length_map] at e
    omega
  · have fA : Fz N0 H (upd H a (SetTO P w a L)) := .new ha
    refine ⟨a, L, 2, 64, rfl, upd_same, fun p hp => .inl (.inl (fA.tup (e3 p (hs p hp)))), by decide, fun p hp => ?_, fun L' p pm nd' l64 pw hp => ?_⟩
    · have h : p.2 ∈ ps.map prI := e2 ▸ List.mem_map_of_mem (f := fun k : Addr × List Int => k.2) (hs p hp)
      obtain ⟨x, hx, ex⟩ := List.mem_map.mp h
      rw [← show prI x = p.2 from ex]
      refine ⟨rfl, fun m hm => ?_⟩
      have := hlt x hx
      unfold prI at hm
      simp at hm
      rcases hm with rfl | rfl <;> omega
    · have mem : ∀ y ∈ L', y ∈ ks := fun y hy => hs y (pm.mem_iff.mp hy)
      obtain ⟨nd, g1, g2⟩ := of_prI (L := L'.map (·.2)) (ps := ps) fun x hx => by
        obtain ⟨y, hy, rfl⟩ := List.mem_map.mp hx
        rw [← e2]
        exact List.mem_map_of_mem (mem y hy)
      have fB : Fz N0 H (upd (upd H a (SetTO P w a L)) p (.lst (L'.map fun q => V.ref q.1))) := fA.snoc hp
      refine q nd p _ ?_ (fun x => ⟨fun hx => g2 x hx, fun hx => ?_⟩) fB ⟨_, upd_same, paired_of_ks g1 fun y hy => fB.tup (e3 y (mem y hy))⟩
      · have pw2 : (L'.map (·.2)).Pairwise fun a b => TS.code 64 a ≤ TS.code 64 b := List.pairwise_map.mpr pw
        rw [g1, List.pairwise_map] at pw2
        have nd2 : (nd.map prI).Pairwise (· ≠ ·) := g1 ▸ nd'
        rw [List.pairwise_map] at nd2
        refine (pw2.and nd2).imp_of_mem fun {x y} hx hy r => ?_
        have b1 := hlt x (g2 x hx)
        have b2 := hlt y (g2 y hy)
        have := pair_lt r.1 r.2 (by omega) (by omega) (by omega) (by omega)
        unfold PLt
        omega
      · have h : prI x ∈ ks.map (·.2) := e2 ▸ List.mem_map_of_mem hx
        obtain ⟨k, hk, ek⟩ := List.mem_map.mp h
        obtain ⟨y, hy, ey⟩ := List.mem_map.mp (hall k hk)
        have : prI x ∈ L'.map (·.2) := by
          rw [← ek, ← ey]
          exact List.mem_map_of_mem (pm.mem_iff.mpr hy)
        rw [g1] at this
        obtain ⟨z, hz, ez⟩ := List.mem_map.mp this
        rw [← prI_inj ez]
        exact hz
end Rw

/-! Masks and what comes, in plain words. -/
namespace Rw
/-- the mask of the members of l that ok takes -/
def pick (ok : Nat → Bool) (l : List Nat) : Nat := l.foldl (fun acc c => if ok c = true then acc ||| 2 ^ c else acc) 0
theorem pick_snoc (ok : Nat → Bool) (l : List Nat) (c : Nat) : pick ok (l ++ [c]) = if ok c = true then pick ok l ||| 2 ^ c else pick ok l := by
  unfold pick
  rw [List.foldl_append]
  rfl
theorem pick_nil (ok : Nat → Bool) : pick ok [] = 0 := rfl
theorem pick_bit (ok : Nat → Bool) (l : List Nat) (k : Nat) : (pick ok l).testBit k = true ↔ k ∈ l ∧ ok k = true := by
  have main : ∀ (l : List Nat) (a : Nat), (l.foldl (fun acc c => if ok c = true then acc ||| 2 ^ c else acc) a).testBit k = true ↔ a.testBit k = true ∨ (k ∈ l ∧ ok k = true) := by
    intro l
    induction l with
    | nil => intro a; simp
    | cons c l ih =>
      intro a
      rw [List.foldl_cons, ih]
      by_cases h : ok c = true
      · rw [if_pos h, Nat.testBit_or, Nat.testBit_two_pow, Bool.or_eq_true, decide_eq_true_iff, List.mem_cons]
        constructor
        · rintro ((q | q) | q)
          · exact .inl q
          · exact .inr ⟨.inl q.symm, q ▸ h⟩
          · exact .inr ⟨.inr q.1, q.2⟩
        · rintro (q | ⟨q | q, z⟩)
          · exact .inl (.inl q)
          · exact .inl (.inr q.symm)
          · exact .inr ⟨q, z⟩
      · rw [if_neg h, List.mem_cons]
        constructor
        · rintro (q | q)
          · exact .inl q
          · exact .inr ⟨.inr q.1, q.2⟩
        · rintro (q | ⟨q | q, z⟩)
          · exact .inl q
          · exact absurd (q ▸ z) h
          · exact .inr ⟨q, z⟩
  unfold pick
  rw [main]
  simp
/-- a number is told by its bits -/
theorem bits_ext {a b : Nat} (h : ∀ k, a.testBit k = true ↔ b.testBit k = true) : a = b := Nat.eq_of_testBit_eq fun k => by
  have := h k
  cases h1 : a.testBit k <;> cases h2 : b.testBit k <;> simp_all
theorem lt_of_bits {a n : Nat} (h : ∀ k, a.testBit k = true → k < n) : a < 2 ^ n := Nat.lt_pow_two_of_testBit a fun i hi => by
  cases q : a.testBit i with
  | false => rfl
  | true => exact absurd (h i q) (by omega)
theorem nand_bits {a b k : Nat} : (nand a b).testBit k = true ↔ a.testBit k = true ∧ ¬ b.testBit k = true := by
  rw [nand_bit]
  simp
theorem nand_zero {a b : Nat} : nand a b = 0 ↔ ∀ k, a.testBit k = true → b.testBit k = true := by
  constructor
  · intro h k hk
    cases q : b.testBit k with
    | true => rfl
    | false =>
      have := (nand_bits (a := a) (b := b) (k := k)).mpr ⟨hk, by simp [q]⟩
      rw [h] at this
      simp at this
  · intro h
    refine bits_ext fun k => ?_
    rw [nand_bits]
    simp
    exact fun z => h k z
theorem nand_le (a b : Nat) : nand a b ≤ a := Nat.sub_le _ _
/-- the mask of a block -/
def own (bs : List Nat) (b : Nat) : Nat := pick (fun c => bs[c]? == some b) (List.range bs.length)
theorem own_bit {bs : List Nat} {b k : Nat} : (own bs b).testBit k = true ↔ bs[k]? = some b := by
  unfold own
  rw [pick_bit, List.mem_range]
  constructor
  · intro h
    simpa using h.2
  · intro h
    exact ⟨(List.getElem?_eq_some_iff.mp h).1, by simp [h]⟩
theorem own_lt {bs : List Nat} {b : Nat} : own bs b < 2 ^ bs.length := lt_of_bits fun k h => (List.getElem?_eq_some_iff.mp (own_bit.mp h)).1
/-- what a write of block b at standing S brings, by the masks of what lies beneath -/
def brW (bs bn : List Nat) (S b : Nat) : Nat := pick (fun c => nand (bn.getD c 0) (S ||| own bs b) == 0) (lotM (nand (own bs b) S))
theorem brW_bit {bs bn : List Nat} {S b k : Nat} : (brW bs bn S b).testBit k = true ↔ bs[k]? = some b ∧ ¬ S.testBit k = true ∧ ∀ d, (bn.getD k 0).testBit d = true → S.testBit d = true ∨ bs[d]? = some b := by
  unfold brW
  rw [pick_bit, mem_lotM, nand_bits, own_bit, beq_iff_eq, nand_zero, and_assoc]
  refine and_congr_right fun _ => and_congr_right fun _ => forall_congr' fun d => ?_
  rw [Nat.testBit_or, Bool.or_eq_true, own_bit]
/-- the ripe blocks; the ways on -/
def ripeW (bs bn ms : List Nat) (S : Nat) : List Nat := ms.filter fun b => decide (0 < brW bs bn S b)
def waysW (bs bn ms : List Nat) (S : Nat) : List (Nat × Nat) := (ripeW bs bn ms S).map fun b => (b, S ||| brW bs bn S b)
/-- sorted and distinct -/
def Srt (ms bs : List Nat) : Prop := ms.Pairwise (· < ·) ∧ ∀ k, k ∈ ms ↔ k ∈ bs
theorem nodup_sub {α : Type} [DecidableEq α] : ∀ {a b : List α}, a.Nodup → (∀ x ∈ a, x ∈ b) → a.length ≤ b.length
  | [], _, _, _ => Nat.zero_le _
  | x :: a, b, nd, h => by
    have h1 := nodup_sub (a := a) (b := b.erase x) (List.nodup_cons.mp nd).2 fun y hy => by
      have n : y ≠ x := fun z => (List.nodup_cons.mp nd).1 (z ▸ hy)
      exact (List.mem_erase_of_ne n).mpr (h y (List.mem_cons_of_mem _ hy))
    have h2 := h x (List.mem_cons_self)
    rw [List.length_erase_of_mem h2] at h1
    have h3 := List.length_pos_of_mem h2
    rw [List.length_cons]
    omega
theorem nodup_of_lt {a : List Nat} (h : a.Pairwise (· < ·)) : a.Nodup := h.imp fun h => Nat.ne_of_lt h
theorem Srt.len {ms bs : List Nat} (h : Srt ms bs) : ms.length ≤ bs.length := nodup_sub (nodup_of_lt h.1) fun x hx => (h.2 x).mp hx
/-- the standings that come -/
inductive Reach (bs bn ms : List Nat) (S0 : Nat) : Nat → Prop
  | here : Reach bs bn ms S0 S0
  | next {S : Nat} {p : Nat × Nat} (r : Reach bs bn ms S0 S) (h : p ∈ waysW bs bn ms S) : Reach bs bn ms S0 p.2
/-- the search of the standings: f found, w waiting, e still to be told -/
structure CM (bs bn ms : List Nat) (S0 : Nat) (f w e : List Nat) : Prop where
  nodup : (f ++ w).Nodup
  reach : ∀ s ∈ f ++ w, Reach bs bn ms S0 s
  reachE : ∀ s ∈ e, Reach bs bn ms S0 s
  zero : S0 ∈ f ++ w
  closed : ∀ s ∈ f, ∀ p ∈ waysW bs bn ms s, p.2 ∈ f ++ w ∨ p.2 ∈ e
section
variable {bs bn ms : List Nat} {S0 : Nat} {f w e : List Nat}
theorem CM.init : CM bs bn ms S0 [] [S0] [] := ⟨by simp, fun s h => by
  rw [List.nil_append, List.mem_singleton] at h
  rw [h]
  exact .here, fun s h => (nomatch h), by simp, fun s h => (nomatch h)⟩
theorem CM.pop {h : Nat} (k : CM bs bn ms S0 f (w ++ [h]) []) : CM bs bn ms S0 (f ++ [h]) w ((waysW bs bn ms h).map (·.2)) := by
  have p : (f ++ (w ++ [h])).Perm (f ++ [h] ++ w) := by
    rw [List.append_assoc]
    exact List.Perm.append_left f List.perm_append_comm
  refine ⟨p.nodup_iff.mp k.nodup, fun s hs => k.reach s (p.mem_iff.mpr hs), fun s hs => ?_, p.mem_iff.mp k.zero, fun s hs q hq => ?_⟩
  · obtain ⟨q, hq, rfl⟩ := List.mem_map.mp hs
    exact .next (k.reach h (by simp)) hq
  · rcases List.mem_append.mp hs with z | z
    · rcases k.closed s z q hq with y | y
      · exact .inl (p.mem_iff.mp y)
      · cases y
    · rw [List.mem_singleton] at z
      subst z
      exact .inr (List.mem_map_of_mem hq)
theorem CM.old {t : Nat} (k : CM bs bn ms S0 f w (t :: e)) (h : t ∈ f ++ w) : CM bs bn ms S0 f w e := ⟨k.nodup, k.reach, fun s hs => k.reachE s (List.mem_cons_of_mem _ hs), k.zero, fun s hs q hq => by
  rcases k.closed s hs q hq with y | y
  · exact .inl y
  · rcases List.mem_cons.mp y with z | z
    · rw [z]; exact .inl h
    · exact .inr z⟩
theorem CM.new {t : Nat} (k : CM bs bn ms S0 f w (t :: e)) (h : t ∉ f ++ w) : CM bs bn ms S0 f (w ++ [t]) e := by
  have mem : ∀ s, s ∈ f ++ (w ++ [t]) ↔ s ∈ f ++ w ∨ s = t := fun s => by
    rw [← List.append_assoc, List.mem_append, List.mem_singleton]
  refine ⟨?_, fun s hs => ?_, fun s hs => k.reachE s (List.mem_cons_of_mem _ hs), (mem _).mpr (.inl k.zero), fun s hs q hq => ?_⟩
  · rw [← List.append_assoc, List.nodup_append]
    refine ⟨k.nodup, List.pairwise_singleton _ _, fun y hy z hz q => ?_⟩
    rw [List.mem_singleton] at hz
    rw [q, hz] at hy
    exact h hy
  · rcases (mem s).mp hs with z | z
    · exact k.reach s z
    · rw [z]; exact k.reachE t (List.mem_cons_self)
  · rcases k.closed s hs q hq with y | y
    · exact .inl ((mem _).mpr (.inl y))
    · rcases List.mem_cons.mp y with z | z
      · exact .inl ((mem _).mpr (.inr z))
      · exact .inr z
end
theorem way_mem {bs bn ms : List Nat} {S : Nat} {p : Nat × Nat} (h : p ∈ waysW bs bn ms S) : p.1 ∈ ms ∧ 0 < brW bs bn S p.1 ∧ p.2 = S ||| brW bs bn S p.1 := by
  unfold waysW at h
  obtain ⟨b, hb, rfl⟩ := List.mem_map.mp h
  have := List.mem_filter.mp hb
  exact ⟨this.1, of_decide_eq_true this.2, rfl⟩
theorem some_bit {a : Nat} (h : 0 < a) : ∃ k, a.testBit k = true := by
  refine Classical.byContradiction fun n => ?_
  have : a = 0 := bits_ext fun k => ⟨fun z => absurd ⟨k, z⟩ n, fun z => by simp at z⟩
  omega
/-- a way on tells more changes -/
theorem way_more {bs bn ms : List Nat} {S : Nat} {p : Nat × Nat} (h : p ∈ waysW bs bn ms S) : (lotM S).length < (lotM p.2).length := by
  obtain ⟨_, h2, h3⟩ := way_mem h
  obtain ⟨k, hk⟩ := some_bit h2
  have hS := (brW_bit.mp hk).2.1
  have nd : (lotM S ++ [k]).Nodup := by
    rw [List.nodup_append]
    refine ⟨nodup_of_lt (lotM_sorted S), List.pairwise_singleton _ _, fun y hy z hz q => ?_⟩
    rw [List.mem_singleton] at hz
    rw [q, hz] at hy
    exact hS (mem_lotM.mp hy)
  have := nodup_sub (b := lotM p.2) nd fun x hx => by
    rw [mem_lotM, h3, Nat.testBit_or, Bool.or_eq_true]
    rcases List.mem_append.mp hx with z | z
    · exact .inl (mem_lotM.mp z)
    · rw [List.mem_singleton] at z
      rw [z]
      exact .inr hk
  rw [List.length_append, List.length_singleton] at this
  omega
theorem Reach.lt {bs bn ms : List Nat} {S : Nat} (r : Reach bs bn ms 0 S) : S < 2 ^ bs.length := by
  induction r with
  | here => exact Nat.two_pow_pos _
  | next r h ih =>
    obtain ⟨_, _, h3⟩ := way_mem h
    rw [h3]
    refine Nat.or_lt_two_pow ih (lt_of_bits fun k hk => ?_)
    exact (List.getElem?_eq_some_iff.mp (brW_bit.mp hk).1).1
theorem sum_cast : ∀ l : List Nat, (l.map fun n : Nat => (n : Int)).sum = ((l.sum : Nat) : Int)
  | [] => rfl
  | a :: l => by rw [List.map_cons, List.sum_cons, List.sum_cons, sum_cast l]; omega
open PySem PySem.Spec PyProof.Rows L2 in
/-- sorted(set(xs)), xs numbers -/
theorem ss_nats {K : PySem.W.Frag} {w : World} {σ : L2.St} {H : Hp} {a : Addr} {bs : List Nat} (ha : SqL K H a (bs.map vn) ∨ SqT K H a (bs.map vn)) (hz : bs.length < 64) {Q : VK} (q : ∀ ms p H', Srt ms bs → Fz N0 H H' → Fr H p → H' p = some (.lst (ms.map vn)) → Q (.ref p) H') :
    rSetI K w [.ref a] H (fun v H1 => tNil σ H1 fun xs H2 => rSortedSet w (v :: xs) H2 Q) := by
  rw [map_vn] at ha
  refine ⟨a, bs.map fun n : Nat => (n : Int), rfl, ha, by rw [List.length_map]; omega, fun sa sc hsa hsc => ⟨sa, _, _, rfl, upd_same, by rw [List.length_map] at hsc; omega, fun zs pb hzp hzm hzn hpb => ?_⟩⟩
  obtain ⟨ms, rfl⟩ := nats_of zs fun z hz => by
    obtain ⟨n, _, rfl⟩ := List.mem_map.mp (of_decide_eq_true ((hzm z).mp hz))
    omega
  have f1 : Fz N0 H (upd H sa (SetO w sa (fun j => decide (j ∈ bs.map fun n : Nat => (n : Int))) sc)) := .new hsa
  refine q ms pb _ ⟨lt_natmap.mp hzp, fun k => ?_⟩ (f1.snoc hpb) (f1.fr hpb) (by rw [upd_same, map_vn])
  have z := hzm (k : Int)
  rw [mem_natmap, decide_eq_true_iff, mem_natmap] at z
  exact z
end Rw

/-! Data: equal to itself, and shown. -/
namespace Rw
open PySem PySem.Spec PyProof.Rows L2
def dN (n : Nat) : PyData := .int (n : Int)
def dTN (ns : List Nat) : PyData := .tuple (ns.map dN)
def dPN (p : Nat × Nat) : PyData := .tuple [dN p.1, dN p.2]
def dEN (e : Nat × List Nat) : PyData := .tuple [dN e.1, dTN e.2]
def dLG (log : List (Nat × List Nat)) : PyData := .tuple (log.map dEN)
def dNP (nd : List (Nat × Nat)) : PyData := .tuple (nd.map dPN)
section
variable {K : PySem.W.Frag} {H : Hp} {α β : Type} {R : Hp → V → α → Prop} {S : Hp → V → β → Prop} {D : α → PyData} {E : β → PyData}
theorem dpAll (h : ∀ v x, R H v x → Dp K H v (D x)) : ∀ {vs : List V} {xs : List α}, Paired (R H) vs xs → DpAll K H vs (xs.map D)
  | _, _, .nil => .nil
  | _, _, .cons r t => .cons (h _ _ r) (dpAll h t)
theorem dpT (h : ∀ v x, R H v x → Dp K H v (D x)) {v : V} {xs : List α} (r : RT R H v xs) : Dp K H v (.tuple (xs.map D)) := by
  obtain ⟨a, vs, rfl, ha, hp⟩ := r
  exact .tup (sT ha) (dpAll h hp)
theorem dpL (h : ∀ v x, R H v x → Dp K H v (D x)) {p : Addr} {xs : List α} (r : LL R H p xs) : Dp K H (.ref p) (.list (xs.map D)) := by
  obtain ⟨vs, ha, hp⟩ := r
  exact .lst (sL ha) (dpAll h hp)
theorem dpQ (h : ∀ v x, R H v x → Dp K H v (D x)) (g : ∀ v x, S H v x → Dp K H v (E x)) {v : V} {p : α × β} (r : RQ R S H v p) : Dp K H v (.tuple [D p.1, E p.2]) := by
  obtain ⟨a, u, w, rfl, ha, r1, r2⟩ := r
  exact .tup (sT ha) (.cons (h _ _ r1) (.cons (g _ _ r2) .nil))
theorem dpRN {v : V} {n : Nat} (r : RN H v n) : Dp K H v (dN n) := by
  obtain rfl := show v = vn n from r
  exact .int _
theorem dpTN {v : V} {ns : List Nat} (r : TN H v ns) : Dp K H v (dTN ns) := dpT (fun _ _ => dpRN) r
theorem dpPN {v : V} {p : Nat × Nat} (r : PN H v p) : Dp K H v (dPN p) := dpQ (fun _ _ => dpRN) (fun _ _ => dpRN) r
theorem dpEN {v : V} {p : Nat × List Nat} (r : EN H v p) : Dp K H v (dEN p) := dpQ (fun _ _ => dpRN) (fun _ _ => dpTN) r
theorem dpLG {v : V} {p : List (Nat × List Nat)} (r : LG H v p) : Dp K H v (dLG p) := dpT (fun _ _ => dpEN) r
theorem dpNP {v : V} {p : List (Nat × Nat)} (r : NP H v p) : Dp K H v (dNP p) := dpT (fun _ _ => dpPN) r
end
/-- data without texts, no deeper than k -/
def Gd (d : PyData) (k : Nat) : Prop := d.canLay0 = true ∧ d.depth ≤ k
theorem gdAll {α : Type} {D : α → PyData} {k : Nat} (h : ∀ x, Gd (D x) k) : ∀ xs : List α, PyData.canLayAll0 (xs.map D) = true ∧ PyData.depthAll (xs.map D) ≤ k
  | [] => ⟨rfl, Nat.zero_le _⟩
  | x :: xs => by
    obtain ⟨h1, h2⟩ := gdAll h xs
    obtain ⟨g1, g2⟩ := h x
    rw [List.map_cons, PyData.canLayAll0, PyData.depthAll, g1, h1]
    exact ⟨rfl, Nat.max_le.mpr ⟨g2, h2⟩⟩
theorem gdT {α : Type} {D : α → PyData} {k : Nat} (h : ∀ x, Gd (D x) k) (xs : List α) : Gd (.tuple (xs.map D)) (k + 1) := by
  obtain ⟨h1, h2⟩ := gdAll h xs
  unfold Gd
  rw [PyData.canLay0, PyData.depth]
  exact ⟨h1, by omega⟩
theorem gdL {α : Type} {D : α → PyData} {k : Nat} (h : ∀ x, Gd (D x) k) (xs : List α) : Gd (.list (xs.map D)) (k + 1) := by
  obtain ⟨h1, h2⟩ := gdAll h xs
  unfold Gd
  rw [PyData.canLay0, PyData.depth]
  exact ⟨h1, by omega⟩
theorem gd2 {a b : PyData} {k : Nat} (h : Gd a k) (g : Gd b k) : Gd (.tuple [a, b]) (k + 1) := by
  have := gdT (D := fun x : Bool => if x then a else b) (k := k) (fun x => by cases x <;> assumption) [true, false]
  exact this
theorem Gd.mono {d : PyData} {j k : Nat} (h : Gd d j) (hk : j ≤ k) : Gd d k := ⟨h.1, Nat.le_trans h.2 hk⟩
theorem gdN (n : Nat) : Gd (dN n) 0 := ⟨by unfold dN; rw [PyData.canLay0], by unfold dN; rw [PyData.depth]; exact Nat.le_refl _⟩
theorem gdTN (ns : List Nat) : Gd (dTN ns) 1 := gdT gdN ns
theorem gdPN (p : Nat × Nat) : Gd (dPN p) 1 := gd2 (gdN _) (gdN _)
theorem gdEN (e : Nat × List Nat) : Gd (dEN e) 2 := gd2 ((gdN _).mono (by decide)) (gdTN _)
theorem gdLG (l : List (Nat × List Nat)) : Gd (dLG l) 3 := gdT gdEN l
theorem gdNP (l : List (Nat × Nat)) : Gd (dNP l) 2 := gdT gdPN l
theorem Gd.shaped {d : PyData} {k : Nat} (h : Gd d k) (hk : k ≤ 64) : SeqAt.shaped d = true := by
  unfold SeqAt.shaped
  rw [h.1, decide_eq_true (Nat.le_trans h.2 hk)]
  rfl
/-- equal data -/
theorem eqD_same {K : PySem.W.Frag} {H : Hp} {x y : V} {d : PyData} {k : Nat} {Q : VK} (h1 : Dp K H x d) (h2 : Dp K H y d) (g : Gd d k) (hk : k ≤ 64) (q : Q (.bl true) H) : rEqD K x y H Q :=
  ⟨d, d, h1, h2, g.shaped hk, g.shaped hk, by rw [SeqAt.eqv_refl d g.1]; exact q⟩
theorem neD_same {K : PySem.W.Frag} {H : Hp} {x y : V} {d : PyData} {k : Nat} {Q : VK} (h1 : Dp K H x d) (h2 : Dp K H y d) (g : Gd d k) (hk : k ≤ 64) (q : Q (.bl false) H) : rNeD K x y H Q :=
  ⟨d, d, h1, h2, g.shaped hk, g.shaped hk, by rw [SeqAt.eqv_refl d g.1]; exact q⟩
theorem rg_nat (n : Nat) : rgV 0 (n : Int) = (List.range n).map vn := by
  unfold rgV
  rw [Int.sub_zero, Int.toNat_natCast]
  exact List.map_congr_left fun i _ => by rw [Int.zero_add]
theorem rgok {n : Nat} (h : n ≤ 100000) : RgOk 0 (n : Int) := ⟨by omega, by omega, by omega, by omega, by omega⟩
/-- sorted numbers that are 0 .. n-1 in some order -/
theorem sorted_range {zs : List Int} {l : List Nat} {n : Nat} (hp : zs.Perm (l.map fun n : Nat => (n : Int))) (hs : zs.Pairwise (· ≤ ·)) (hl : l.Perm (List.range n)) : zs.map V.int = (List.range n).map vn := by
  obtain ⟨ms, rfl⟩ := nats_of zs fun z hz => by
    obtain ⟨m, _, rfl⟩ := List.mem_map.mp (hp.mem_iff.mp hz)
    omega
  have pm : ms.Perm l := by
    have := hp.map Int.toNat
    rw [List.map_map, List.map_map] at this
    have e : ∀ l : List Nat, l.map (Int.toNat ∘ fun n : Nat => (n : Int)) = l := fun l => by
      rw [show (Int.toNat ∘ fun n : Nat => (n : Int)) = id from funext fun n => Int.toNat_natCast n, List.map_id]
    rw [e, e] at this
    exact this
  have pr := pm.trans hl
  have nd : ms.Nodup := pr.nodup_iff.mpr List.nodup_range
  rw [List.pairwise_map] at hs
  have lt : ms.Pairwise (· < ·) := (hs.and nd).imp fun {a b} h => by
    have h1 := h.1
    have h2 := h.2
    omega
  rw [sorted_ext lt List.pairwise_lt_range fun k => pr.mem_iff, map_vn]
/-- a part of a tuple, by natural bounds -/
theorem sl_nat {K : PySem.W.Frag} {H : Hp} {a : Addr} {xs : List V} {lo hi : Nat} (ha : H a = some (.tup xs)) (h1 : lo ≤ hi) (h2 : hi ≤ xs.length) {Q : VK} (q : ∀ b H', Fz N0 H H' → H' b = some (.tup ((xs.take hi).drop lo)) → Q (.ref b) H') :
    rSlA K (.ref a) (some (lo : Int)) (some (hi : Int)) H Q := by
  refine ⟨a, xs, rfl, sT ha, fun h => ?_, fun h p hp => ?_⟩
  · rw [HT.sIx_nat, HT.sIx_nat] at h
    refine q a H .refl ?_
    rw [ha, show hi = xs.length by omega, show lo = 0 by omega, List.take_length, List.drop_zero]
  · refine q p _ (.new hp) ?_
    rw [upd_same]
    unfold cutV
    rw [HT.sIx_nat, HT.sIx_nat, Nat.min_eq_left h2, Nat.min_eq_left (by omega), List.drop_take]
theorem sl_tail {K : PySem.W.Frag} {σ : L2.St} {H : Hp} {a : Addr} {xs : List V} (ha : H a = some (.tup xs)) {Q : VK} (q : ∀ b H', Fz N0 H H' → H' b = some (.tup (xs.drop 1)) → Q (.ref b) H') :
    tNoPart σ H (fun u H3 => rSlA K (.ref a) (some 1) u H3 Q) := by
  show rSlA K (.ref a) (some 1) none H Q
  have e1 : HT.sIx xs.length 0 (some 1) = min 1 xs.length := HT.sIx_nat _ _ 1
  refine ⟨a, xs, rfl, sT ha, fun h => ?_, fun h p hp => ?_⟩
  · rw [e1] at h
    refine q a H .refl ?_
    have : xs = [] := List.length_eq_zero_iff.mp (by omega)
    rw [ha, this]
    rfl
  · refine q p _ (.new hp) ?_
    rw [upd_same]
    unfold cutV
    rw [e1, HT.sIx_none]
    cases xs with
    | nil => rfl
    | cons x xs =>
      have : min 1 (x :: xs).length = 1 := by rw [List.length_cons]; omega
      rw [this, List.take_of_length_le (by rw [List.length_drop]; omega)]
/-- a part of a list, from the second on -/
theorem cut_tail (xs : List V) : cutV xs (some 1) none = xs.drop 1 := by
  unfold cutV
  rw [show HT.sIx xs.length 0 (some 1) = min 1 xs.length from HT.sIx_nat _ _ 1, HT.sIx_none]
  cases xs with
  | nil => rfl
  | cons x xs =>
    have : min 1 (x :: xs).length = 1 := by rw [List.length_cons]; omega
    rw [this, List.take_of_length_le (by rw [List.length_drop]; omega)]
end Rw

/-! Logs, in plain words. -/
namespace Rw
/-- the mask of a list -/
def mskL (l : List Nat) : Nat := pick (fun _ => true) l
theorem mskL_bit {l : List Nat} {k : Nat} : (mskL l).testBit k = true ↔ k ∈ l := by
  unfold mskL
  rw [pick_bit]
  simp
theorem lotM_mskL {l : List Nat} (h : l.Pairwise (· < ·)) : lotM (mskL l) = l := sorted_ext (lotM_sorted _) h fun k => by rw [mem_lotM, mskL_bit]
/-- what the first i writes of a log brought -/
def bro (log : List (Nat × List Nat)) (i : Nat) : List Nat := ((log.take i).map (fun e => e.2)).flatten
def stM (log : List (Nat × List Nat)) (i : Nat) : Nat := mskL (bro log i)
theorem bro_succ {log : List (Nat × List Nat)} {i : Nat} {e : Nat × List Nat} (h : log[i]? = some e) : bro log (i + 1) = bro log i ++ e.2 := by
  unfold bro
  rw [take_succ_get h, List.map_append, List.flatten_append]
  simp
theorem stM_bit {log : List (Nat × List Nat)} {i k : Nat} : (stM log i).testBit k = true ↔ k ∈ bro log i := mskL_bit
theorem stM_succ {log : List (Nat × List Nat)} {i : Nat} {e : Nat × List Nat} (h : log[i]? = some e) : stM log (i + 1) = stM log i ||| mskL e.2 := bits_ext fun k => by
  rw [stM_bit, bro_succ h, List.mem_append, Nat.testBit_or, Bool.or_eq_true, stM_bit, mskL_bit]
/-- the last write of b ahead of i -/
def lastW (log : List (Nat × List Nat)) : Nat → Nat → Option Nat
  | 0, _ => none
  | i + 1, b => if (log[i]?.map fun e => e.1) = some b then some i else lastW log i b
theorem lastW_lt {log : List (Nat × List Nat)} : ∀ {i b j : Nat}, lastW log i b = some j → j < i ∧ (log[j]?.map fun e => e.1) = some b ∧ ∀ k, j < k → k < i → (log[k]?.map fun e => e.1) ≠ some b
  | 0, b, j, h => by simp [lastW] at h
  | i + 1, b, j, h => by
    unfold lastW at h
    split at h
    · rename_i q
      obtain rfl := Option.some.inj h
      exact ⟨Nat.lt_succ_self _, q, fun k h1 h2 => by omega⟩
    · rename_i q
      obtain ⟨h1, h2, h3⟩ := lastW_lt h
      refine ⟨by omega, h2, fun k h4 h5 => ?_⟩
      by_cases e : k = i
      · rw [e]; exact q
      · exact h3 k h4 (by omega)
theorem lastW_none {log : List (Nat × List Nat)} : ∀ {i b : Nat}, lastW log i b = none → ∀ k, k < i → (log[k]?.map fun e => e.1) ≠ some b
  | 0, b, _, k, h => by omega
  | i + 1, b, h, k, hk => by
    unfold lastW at h
    split at h
    · cases h
    · rename_i q
      by_cases e : k = i
      · rw [e]; exact q
      · exact lastW_none h k (by omega)
/-- what came between the writes j and i -/
def btw (log : List (Nat × List Nat)) (j i : Nat) : List Nat := (((log.take i).drop (j + 1)).map fun e => e.2).flatten
/-- the late changes of the first i writes, with what came between -/
def lateL (log : List (Nat × List Nat)) : Nat → List (Nat × List Nat)
  | 0 => []
  | i + 1 => lateL log i ++ match log[i]? with
    | none => []
    | some e => match lastW log i e.1 with
      | none => []
      | some j => e.2.map fun c => (c, lotM (mskL (btw log j i)))
theorem lateL_succ {log : List (Nat × List Nat)} {i : Nat} {e : Nat × List Nat} (h : log[i]? = some e) : lateL log (i + 1) = lateL log i ++ match lastW log i e.1 with
      | none => []
      | some j => e.2.map fun c => (c, lotM (mskL (btw log j i))) := by
  show lateL log i ++ _ = _
  rw [h]
theorem lateL_bro {log : List (Nat × List Nat)} : ∀ {i : Nat}, ∀ p ∈ lateL log i, p.1 ∈ bro log i
  | 0, p, h => by simp [lateL] at h
  | i + 1, p, h => by
    cases e : log[i]? with
    | none =>
      have : lateL log (i + 1) = lateL log i := by
        show lateL log i ++ _ = _
        rw [e]
        simp
      rw [this] at h
      have h1 := lateL_bro p h
      have h2 : log.take (i + 1) = log.take i := by
        rw [List.take_of_length_le (by have := List.getElem?_eq_none_iff.mp e; omega), List.take_of_length_le (by have := List.getElem?_eq_none_iff.mp e; omega)]
      unfold bro
      rw [h2]
      exact h1
    | some x =>
      rw [lateL_succ e] at h
      rw [bro_succ e, List.mem_append]
      rcases List.mem_append.mp h with q | q
      · exact .inl (lateL_bro p q)
      · cases hj : lastW log i x.1 with
        | none => rw [hj] at q; cases q
        | some j =>
          rw [hj] at q
          obtain ⟨c, hc, rfl⟩ := List.mem_map.mp q
          exact .inr hc
theorem flat_sub {a b : List (List Nat)} (h : a.Sublist b) : a.flatten.Sublist b.flatten := by
  induction h with
  | slnil => exact .slnil
  | cons x _ ih => rw [List.flatten_cons]; exact ih.trans (List.sublist_append_right _ _)
  | cons_cons x _ ih => rw [List.flatten_cons, List.flatten_cons]; exact List.Sublist.append_left ih _
theorem flatten_sub {l : List (List Nat)} {a b : Nat} : ((l.take b).drop a).flatten.Sublist l.flatten := flat_sub ((List.drop_sublist _ _).trans (List.take_sublist _ _))
theorem btw_sub (log : List (Nat × List Nat)) (j i : Nat) : (btw log j i).Sublist ((log.map fun e => e.2).flatten) := by
  unfold btw
  rw [List.map_drop, List.map_take]
  exact flatten_sub
theorem bro_sub (log : List (Nat × List Nat)) (i : Nat) : (bro log i).Sublist ((log.map fun e => e.2).flatten) := by
  unfold bro
  rw [List.map_take]
  have := flatten_sub (l := log.map fun e => e.2) (a := 0) (b := i)
  rw [List.drop_zero] at this
  exact this
/-- sorted, of distinct numbers: the mask's places -/
theorem sorted_msk {zs : List Int} {l : List Nat} (hp : zs.Perm (l.map fun n : Nat => (n : Int))) (hs : zs.Pairwise (· ≤ ·)) (hn : l.Nodup) : zs = (lotM (mskL l)).map fun n : Nat => (n : Int) := by
  obtain ⟨ms, rfl⟩ := nats_of zs fun z hz => by
    obtain ⟨m, _, rfl⟩ := List.mem_map.mp (hp.mem_iff.mp hz)
    omega
  have pm : ms.Perm l := by
    have := hp.map Int.toNat
    rw [List.map_map, List.map_map] at this
    have e : ∀ l : List Nat, l.map (Int.toNat ∘ fun n : Nat => (n : Int)) = l := fun l => by
      rw [show (Int.toNat ∘ fun n : Nat => (n : Int)) = id from funext fun n => Int.toNat_natCast n, List.map_id]
    rw [e, e] at this
    exact this
  have nd : ms.Nodup := pm.nodup_iff.mpr hn
  rw [List.pairwise_map] at hs
  have lt : ms.Pairwise (· < ·) := (hs.and nd).imp fun {a b} h => by
    have h1 := h.1
    have h2 := h.2
    omega
  rw [sorted_ext lt (lotM_sorted (mskL l)) fun k => by rw [pm.mem_iff, mem_lotM, mskL_bit]]
theorem lateL_len {log : List (Nat × List Nat)} : ∀ {i : Nat}, i ≤ log.length → (lateL log i).length ≤ (bro log i).length
  | 0, _ => Nat.zero_le _
  | i + 1, h => by
    have e : log[i]? = some (log[i]'(by omega)) := List.getElem?_eq_getElem _
    have ih := lateL_len (log := log) (i := i) (by omega)
    rw [lateL_succ e, bro_succ e, List.length_append, List.length_append]
    cases lastW log i (log[i]'(by omega)).1 with
    | none => simp; omega
    | some j => simp; omega
theorem mem_bro {log : List (Nat × List Nat)} {c : Nat} : ∀ {i : Nat}, c ∈ bro log i ↔ ∃ j e, j < i ∧ log[j]? = some e ∧ c ∈ e.2
  | 0 => by
    unfold bro
    simp
  | i + 1 => by
    cases h : log[i]? with
    | none =>
      have h2 : log.take (i + 1) = log.take i := by
        rw [List.take_of_length_le (by have := List.getElem?_eq_none_iff.mp h; omega), List.take_of_length_le (by have := List.getElem?_eq_none_iff.mp h; omega)]
      have e : bro log (i + 1) = bro log i := by unfold bro; rw [h2]
      rw [e, mem_bro]
      constructor
      · rintro ⟨j, e, h1, h2, h3⟩
        exact ⟨j, e, by omega, h2, h3⟩
      · rintro ⟨j, e, h1, h2, h3⟩
        by_cases q : j = i
        · rw [q, h] at h2; cases h2
        · exact ⟨j, e, by omega, h2, h3⟩
    | some x =>
      rw [bro_succ h, List.mem_append, mem_bro]
      constructor
      · rintro (⟨j, e, h1, h2, h3⟩ | q)
        · exact ⟨j, e, by omega, h2, h3⟩
        · exact ⟨i, x, by omega, h, q⟩
      · rintro ⟨j, e, h1, h2, h3⟩
        by_cases q : j = i
        · subst q
          rw [h] at h2
          rw [Option.some.inj h2]
          exact .inr h3
        · exact .inl ⟨j, e, by omega, h2, h3⟩
/-- each change is brought once -/
theorem bro_once {log : List (Nat × List Nat)} (hn : ((log.map fun e => e.2).flatten).Nodup) {i j : Nat} {e e' : Nat × List Nat} {c : Nat} (hi : log[i]? = some e) (hj : log[j]? = some e') (h1 : c ∈ e.2) (h2 : c ∈ e'.2) : i = j := by
  have main : ∀ {i j : Nat} {e e' : Nat × List Nat}, log[i]? = some e → log[j]? = some e' → c ∈ e.2 → c ∈ e'.2 → ¬ i < j := fun {i j e e'} hi hj h1 h2 hij => by
    have nd := hn.sublist (bro_sub log (j + 1))
    rw [bro_succ hj, List.nodup_append] at nd
    exact nd.2.2 c (mem_bro.mpr ⟨i, e, hij, hi, h1⟩) c h2 rfl
  have a := main hi hj h1 h2
  have b := main hj hi h2 h1
  omega
/-- each late change needs the least that came between -/
def freeN (log : List (Nat × List Nat)) : List (Nat × Nat) := (lateL log log.length).map fun e => (e.1, e.2.headD 0)
/-- when a change came -/
def tim (log : List (Nat × List Nat)) (c : Nat) : Nat := log.findIdx fun e => decide (c ∈ e.2)
theorem tim_at {log : List (Nat × List Nat)} (hn : ((log.map fun e => e.2).flatten).Nodup) {i : Nat} {e : Nat × List Nat} {c : Nat} (hi : log[i]? = some e) (hc : c ∈ e.2) : tim log c = i := by
  have hlt := (List.getElem?_eq_some_iff.mp hi).1
  have h1 : tim log c < log.length := by
    unfold tim
    rw [List.findIdx_lt_length]
    exact ⟨e, List.mem_of_getElem? hi, decide_eq_true hc⟩
  have h2 : c ∈ (log[tim log c]'h1).2 := by
    have := List.findIdx_getElem (w := h1)
    exact of_decide_eq_true this
  exact bro_once hn (List.getElem?_eq_getElem h1) hi h2 hc
/-- what came between is something -/
theorem lateL_ne {log : List (Nat × List Nat)} (h1 : ∀ e ∈ log, e.2 ≠ []) (h2 : ∀ (i : Nat) e e', log[i]? = some e → log[i + 1]? = some e' → e.1 ≠ e'.1) : ∀ {i : Nat}, i ≤ log.length → ∀ p ∈ lateL log i, p.2 ≠ []
  | 0, _, p, h => by simp [lateL] at h
  | i + 1, hi, p, h => by
    have e : log[i]? = some (log[i]'(by omega)) := List.getElem?_eq_getElem _
    rw [lateL_succ e] at h
    rcases List.mem_append.mp h with q | q
    · exact lateL_ne h1 h2 (by omega) p q
    · cases hj : lastW log i (log[i]'(by omega)).1 with
      | none => rw [hj] at q; cases q
      | some j =>
        rw [hj] at q
        obtain ⟨c, hc, rfl⟩ := List.mem_map.mp q
        obtain ⟨g1, g2, g3⟩ := lastW_lt hj
        have ej : log[j]? = some (log[j]'(by omega)) := List.getElem?_eq_getElem _
        have hne : j + 1 ≠ i := fun z => by
          subst z
          have := h2 j _ _ ej e
          rw [ej] at g2
          exact this (Option.some.inj g2)
        obtain ⟨x, ek⟩ : ∃ x, log[j + 1]? = some x := ⟨_, List.getElem?_eq_getElem (by omega)⟩
        have hm := h1 x (List.mem_of_getElem? ek)
        obtain ⟨k, hk⟩ := List.exists_mem_of_ne_nil _ hm
        have hk2 : k ∈ btw log j i := by
          unfold btw
          refine List.mem_flatten.mpr ⟨_, List.mem_map.mpr ⟨_, ?_, rfl⟩, hk⟩
          have e3 : ((log.take i).drop (j + 1))[0]? = some x := by
            rw [List.getElem?_drop, Nat.add_zero, List.getElem?_take, if_pos (by omega)]
            exact ek
          exact List.mem_of_getElem? e3
        intro z
        have hz : k ∈ lotM (mskL (btw log j i)) := mem_lotM.mpr (mskL_bit.mpr hk2)
        have z' : lotM (mskL (btw log j i)) = [] := z
        rw [z'] at hz
        cases hz
theorem lateL_sub {log : List (Nat × List Nat)} : ∀ {i : Nat}, i ≤ log.length → ((lateL log i).map fun e => e.1).Sublist (bro log i)
  | 0, _ => by
    unfold lateL
    exact List.nil_sublist _
  | i + 1, h => by
    have e : log[i]? = some (log[i]'(by omega)) := List.getElem?_eq_getElem _
    have ih := lateL_sub (log := log) (i := i) (by omega)
    rw [lateL_succ e, bro_succ e, List.map_append]
    refine ih.append ?_
    cases lastW log i (log[i]'(by omega)).1 with
    | none => exact List.nil_sublist _
    | some j =>
      rw [List.map_map]
      have : ((fun e : Nat × List Nat => e.1) ∘ fun c => (c, lotM (mskL (btw log j i)))) = id := rfl
      rw [this, List.map_id]
      exact List.Sublist.refl _
theorem mskL_snoc (l : List Nat) (d : Nat) : mskL (l ++ [d]) = mskL l ||| 2 ^ d := by
  unfold mskL
  rw [pick_snoc, if_pos rfl]
theorem mskL_cons (d : Nat) (l : List Nat) : mskL (d :: l) = 2 ^ d ||| mskL l := bits_ext fun k => by
  rw [mskL_bit, Nat.testBit_or, Nat.testBit_two_pow, Bool.or_eq_true, decide_eq_true_iff, mskL_bit, List.mem_cons]
  exact or_congr_left ⟨Eq.symm, Eq.symm⟩
theorem and_none {a b : Nat} (h : ∀ k, a.testBit k = true → ¬ b.testBit k = true) : a &&& b = 0 := bits_ext fun k => by
  rw [Nat.testBit_and, Bool.and_eq_true]
  simp
  exact fun z => by simpa using h k z
theorem sum_pow : ∀ {l : List Nat}, l.Nodup → (l.map fun c => 2 ^ c).sum = mskL l
  | [], _ => rfl
  | c :: l, h => by
    rw [List.nodup_cons] at h
    rw [List.map_cons, List.sum_cons, sum_pow h.2, mskL_cons]
    refine add_or _ _ (and_none fun k hk => ?_)
    rw [Nat.testBit_two_pow, decide_eq_true_iff] at hk
    rw [mskL_bit, ← hk]
    exact h.1
theorem mskL_and {l : List Nat} {a : Nat} : mskL l &&& a = mskL l ↔ ∀ d ∈ l, a.testBit d = true := by
  constructor
  · intro h d hd
    have h1 : (mskL l).testBit d = true := mskL_bit.mpr hd
    rw [← h, Nat.testBit_and, Bool.and_eq_true] at h1
    exact h1.2
  · intro h
    refine bits_ext fun k => ?_
    rw [Nat.testBit_and, Bool.and_eq_true, mskL_bit]
    exact ⟨fun z => z.1, fun z => ⟨z, h k z⟩⟩
theorem shr_zero {S c : Nat} : (S >>> c &&& 1 = 0) ↔ ¬ S.testBit c = true := by
  have h := testBit_shr S c
  have h2 : S >>> c &&& 1 = S >>> c % 2 := Nat.and_one_is_mod _
  constructor
  · intro z q
    rw [h.mpr q] at z
    cases z
  · intro z
    have : ¬ (S >>> c &&& 1 = 1) := fun q => z (h.mp q)
    omega
/-- the masks of the direct needs -/
def dmL (n : Nat) (nd : List (Nat × Nat)) : List Nat := (List.range n).map fun c => mskL (needL nd c)
/-- X may be brought together: each of block b, not there, its needs there or in X -/
def Sup (bs : List Nat) (nd : List (Nat × Nat)) (S b : Nat) (X : Nat → Prop) : Prop := ∀ c, X c → bs[c]? = some b ∧ ¬ S.testBit c = true ∧ ∀ d, (c, d) ∈ nd → S.testBit d = true ∨ X d
def InBr (bs : List Nat) (nd : List (Nat × Nat)) (S b c : Nat) : Prop := ∃ X, Sup bs nd S b X ∧ X c
noncomputable def tv (p : Prop) : Bool := @decide p (Classical.propDecidable p)
theorem tv_iff {p : Prop} : tv p = true ↔ p := @decide_eq_true_iff p (Classical.propDecidable p)
/-- what a write of b brings, by the direct needs -/
noncomputable def lbr (bs : List Nat) (nd : List (Nat × Nat)) (S b : Nat) : Nat := pick (fun c => tv (InBr bs nd S b c)) (List.range bs.length)
theorem lbr_bit {bs : List Nat} {nd : List (Nat × Nat)} {S b k : Nat} : (lbr bs nd S b).testBit k = true ↔ InBr bs nd S b k := by
  unfold lbr
  rw [pick_bit, List.mem_range, tv_iff]
  exact ⟨fun h => h.2, fun h => ⟨by
    obtain ⟨X, h1, h2⟩ := h
    exact (List.getElem?_eq_some_iff.mp (h1 k h2).1).1, h⟩⟩
theorem inBr_sup (bs : List Nat) (nd : List (Nat × Nat)) (S b : Nat) : Sup bs nd S b (InBr bs nd S b) := fun c ⟨X, h1, h2⟩ => by
  obtain ⟨g1, g2, g3⟩ := h1 c h2
  exact ⟨g1, g2, fun d hd => (g3 d hd).imp_right fun z => ⟨X, h1, z⟩⟩
/-- the striking out -/
def lot0 (bs : List Nat) (S b : Nat) : List Nat := (List.range bs.length).filter fun c => decide (bs[c]? = some b) && decide (S >>> c &&& 1 = 0)
def keepL (nd : List (Nat × Nat)) (S : Nat) (L : List Nat) : List Nat := L.filter fun c => decide (mskL (needL nd c) &&& (S + mskL L) = mskL (needL nd c))
structure Strk (bs : List Nat) (nd : List (Nat × Nat)) (S b : Nat) (L : List Nat) : Prop where
  sub : L.Sublist (lot0 bs S b)
  all : ∀ c, InBr bs nd S b c → c ∈ L
section
variable {bs : List Nat} {nd : List (Nat × Nat)} {S b : Nat} {L : List Nat}
theorem mem_lot0 {c : Nat} : c ∈ lot0 bs S b ↔ bs[c]? = some b ∧ ¬ S.testBit c = true := by
  unfold lot0
  rw [List.mem_filter, List.mem_range, Bool.and_eq_true, decide_eq_true_iff, decide_eq_true_iff, shr_zero]
  exact ⟨fun h => h.2, fun h => ⟨(List.getElem?_eq_some_iff.mp h.1).1, h⟩⟩
theorem lot0_nodup : (lot0 bs S b).Nodup := List.nodup_range.filter _
theorem Strk.init : Strk bs nd S b (lot0 bs S b) := ⟨List.Sublist.refl _, fun c ⟨X, h1, h2⟩ => mem_lot0.mpr ⟨(h1 c h2).1, (h1 c h2).2.1⟩⟩
theorem Strk.nodup (h : Strk bs nd S b L) : L.Nodup := lot0_nodup.sublist h.sub
theorem Strk.around (h : Strk bs nd S b L) : S + mskL L = S ||| mskL L := add_or _ _ (and_none fun k hk => by
  rw [mskL_bit]
  exact fun z => (mem_lot0.mp (h.sub.mem z)).2 hk)
theorem mem_keep (h : Strk bs nd S b L) {c : Nat} : c ∈ keepL nd S L ↔ c ∈ L ∧ ∀ d, (c, d) ∈ nd → S.testBit d = true ∨ d ∈ L := by
  unfold keepL
  rw [List.mem_filter, decide_eq_true_iff, mskL_and, h.around]
  refine and_congr_right fun _ => ⟨fun g d hd => ?_, fun g d hd => ?_⟩
  · have := g d (mem_needL.mpr hd)
    rw [Nat.testBit_or, Bool.or_eq_true, mskL_bit] at this
    exact this
  · rw [Nat.testBit_or, Bool.or_eq_true, mskL_bit]
    exact g d (mem_needL.mp hd)
theorem Strk.step (h : Strk bs nd S b L) : Strk bs nd S b (keepL nd S L) := ⟨List.filter_sublist.trans h.sub, fun c hc => (mem_keep h).mpr ⟨h.all c hc, fun d hd => ((inBr_sup bs nd S b c hc).2.2 d hd).imp_right fun z => h.all d z⟩⟩
theorem Strk.fin (h : Strk bs nd S b L) (e : (keepL nd S L).length = L.length) : mskL L = lbr bs nd S b := by
  have e2 : keepL nd S L = L := (List.filter_sublist (l := L)).eq_of_length e
  refine bits_ext fun k => ?_
  rw [mskL_bit, lbr_bit]
  refine ⟨fun hk => ⟨fun c => c ∈ L, fun c hc => ?_, hk⟩, fun hk => h.all k hk⟩
  have h0 := mem_lot0.mp (h.sub.mem hc)
  have h1 := (mem_keep h).mp (e2.symm ▸ hc)
  exact ⟨h0.1, h0.2, h1.2⟩
end
/-- the standing behind a row, by the direct needs -/
noncomputable def stA (bs : List Nat) (nd : List (Nat × Nat)) (S : Nat) (row : List Nat) : Nat := row.foldl (fun S b => S ||| lbr bs nd S b) S
theorem stA_snoc (bs : List Nat) (nd : List (Nat × Nat)) (S : Nat) (row : List Nat) (b : Nat) : stA bs nd S (row ++ [b]) = stA bs nd S row ||| lbr bs nd (stA bs nd S row) b := by
  unfold stA
  rw [List.foldl_append]
  rfl
/-- the log of a row -/
noncomputable def logA (bs : List Nat) (nd : List (Nat × Nat)) : Nat → List Nat → List (Nat × List Nat)
  | _, [] => []
  | S, b :: r => (b, lotM (lbr bs nd S b)) :: logA bs nd (S ||| lbr bs nd S b) r
theorem logA_snoc (bs : List Nat) (nd : List (Nat × Nat)) (b : Nat) : ∀ (row : List Nat) (S : Nat), logA bs nd S (row ++ [b]) = logA bs nd S row ++ [(b, lotM (lbr bs nd (stA bs nd S row) b))]
  | [], S => rfl
  | c :: r, S => by
    show (c, _) :: logA bs nd _ (r ++ [b]) = (c, _) :: (logA bs nd _ r ++ _)
    rw [logA_snoc bs nd b r]
    rfl
theorem logA_len (bs : List Nat) (nd : List (Nat × Nat)) : ∀ (row : List Nat) (S : Nat), (logA bs nd S row).length = row.length
  | [], S => rfl
  | c :: r, S => congrArg (· + 1) (logA_len bs nd r _)
theorem lbr_add {bs : List Nat} {nd : List (Nat × Nat)} {S b : Nat} : S + lbr bs nd S b = S ||| lbr bs nd S b := add_or _ _ (and_none fun k hk h => ((inBr_sup bs nd S b k (lbr_bit.mp h)).2.1) hk)
theorem lbr_lt {bs : List Nat} {nd : List (Nat × Nat)} {S b : Nat} : lbr bs nd S b < 2 ^ bs.length := lt_of_bits fun k h => (List.getElem?_eq_some_iff.mp (inBr_sup bs nd S b k (lbr_bit.mp h)).1).1
theorem mskL_app {a b : List Nat} (h : (a ++ b).Nodup) : mskL a + mskL b = mskL (a ++ b) := by
  rw [add_or _ _ (and_none fun k hk hk2 => (List.nodup_append.mp h).2.2 k (mskL_bit.mp hk) k (mskL_bit.mp hk2) rfl)]
  refine bits_ext fun k => ?_
  rw [Nat.testBit_or, Bool.or_eq_true, mskL_bit, mskL_bit, mskL_bit, List.mem_append]
theorem msk_perm {l : List Nat} (h : l.Nodup) : (lotM (mskL l)).Perm l := by
  have h1 : ∀ {a b : List Nat}, a.Nodup → b.Nodup → (∀ x, x ∈ a ↔ x ∈ b) → a.Perm b := by
    intro a
    induction a with
    | nil =>
      intro b _ _ hm
      cases b with
      | nil => exact .nil
      | cons x b => have := (hm x).mpr (List.mem_cons_self); cases this
    | cons x a ih =>
      intro b ha hb hm
      have hx := (hm x).mp (List.mem_cons_self)
      refine (List.Perm.cons x (ih (List.nodup_cons.mp ha).2 (hb.erase x) fun y => ?_)).trans (List.perm_cons_erase hx).symm
      have hna := (List.nodup_cons.mp ha).1
      constructor
      · intro hy
        have n : y ≠ x := fun z => hna (z ▸ hy)
        exact (List.mem_erase_of_ne n).mpr ((hm y).mp (List.mem_cons_of_mem _ hy))
      · intro hy
        have n : y ≠ x := fun z => (List.Nodup.not_mem_erase hb) (z ▸ hy)
        exact ((List.mem_cons).mp ((hm y).mpr ((List.mem_erase_of_ne n).mp hy))).resolve_left n
  exact h1 (nodup_of_lt (lotM_sorted _)) h fun x => by rw [mem_lotM, mskL_bit]
theorem flatten_perm (f : List Nat → List Nat) : ∀ {ls : List (List Nat)}, (∀ l ∈ ls, (f l).Perm l) → ((ls.map f).flatten).Perm ls.flatten
  | [], _ => .nil
  | l :: ls, h => by
    rw [List.map_cons, List.flatten_cons, List.flatten_cons]
    exact (h l (List.mem_cons_self)).append (flatten_perm f fun x hx => h x (List.mem_cons_of_mem _ hx))
theorem flatten_set : ∀ {ls : List (List Nat)} {j : Nat} {l : List Nat} {x : Nat}, ls[j]? = some l → ((ls.set j (l ++ [x])).flatten).Perm (ls.flatten ++ [x])
  | [], _, _, _, h => by simp at h
  | a :: ls, 0, l, x, h => by
    have : a = l := by simpa using h
    subst this
    rw [List.set_cons_zero, List.flatten_cons, List.flatten_cons, List.append_assoc, List.append_assoc]
    exact List.Perm.append_left a List.perm_append_comm
  | a :: ls, j + 1, l, x, h => by
    rw [List.set_cons_succ, List.flatten_cons, List.flatten_cons, List.append_assoc]
    exact List.Perm.append_left a (flatten_set (by simpa using h))
theorem flatten_len : ∀ {ls : List (List Nat)}, (ls.map fun l => l.length).sum = ls.flatten.length
  | [] => rfl
  | l :: ls => by rw [List.map_cons, List.sum_cons, List.flatten_cons, List.length_append, flatten_len]
/-- one list for each member -/
theorem flatten_once {ls : List (List Nat)} (h : ls.flatten.Nodup) {i j : Nat} {a b : List Nat} {c : Nat} (hi : ls[i]? = some a) (hj : ls[j]? = some b) (h1 : c ∈ a) (h2 : c ∈ b) : i = j := by
  have e : ls = (ls.map fun l => (0, l)).map fun e : Nat × List Nat => e.2 := by
    rw [List.map_map]
    exact (List.map_id ls).symm
  have := bro_once (log := ls.map fun l => (0, l)) (by rw [← e]; exact h) (i := i) (j := j) (e := (0, a)) (e' := (0, b)) (c := c) (by rw [List.getElem?_map, hi]; rfl) (by rw [List.getElem?_map, hj]; rfl) h1 h2
  exact this
end Rw

/-! The rows counted forward, in plain words. -/
namespace Rw
open PySem PySem.Spec PyProof.Rows L2
/-- the standings that come, by the direct needs -/
inductive ReachL (bs : List Nat) (nd : List (Nat × Nat)) (ms : List Nat) : Nat → Prop
  | zero : ReachL bs nd ms 0
  | next {S b : Nat} (r : ReachL bs nd ms S) (h : b ∈ ms) : ReachL bs nd ms (S ||| lbr bs nd S b)
/-- F counts the rows from each standing -/
def RowG (bs : List Nat) (nd : List (Nat × Nat)) (ms : List Nat) (F : Nat → Nat) : Prop := ∀ S, ReachL bs nd ms S → F S = if S = 2 ^ bs.length - 1 then 1 else ((ms.filter fun b => decide (0 < lbr bs nd S b)).map fun b => F (S ||| lbr bs nd S b)).sum
/-- one value more in a sum -/
theorem sum_put {g F : Nat → Nat} {t d : Nat} : ∀ {l : List Nat}, l.Nodup → t ∈ l → (l.map fun s => (if s = t then g s + d else g s) * F s).sum = (l.map fun s => g s * F s).sum + d * F t
  | [], _, h => (nomatch h)
  | a :: l, nd, h => by
    rw [List.nodup_cons] at nd
    rw [List.map_cons, List.map_cons, List.sum_cons, List.sum_cons]
    by_cases e : a = t
    · subst e
      have : (l.map fun s => (if s = a then g s + d else g s) * F s) = l.map fun s => g s * F s := List.map_congr_left fun s hs => by
        rw [if_neg fun z => nd.1 (by rw [← z]; exact hs)]
      rw [this, if_pos rfl, Nat.add_mul]
      omega
    · rw [if_neg e, sum_put nd.2 ((List.mem_cons.mp h).resolve_left fun z => e z.symm)]
      omega
theorem sum_congr {g g' F : Nat → Nat} {l : List Nat} (h : ∀ s ∈ l, g' s = g s) : (l.map fun s => g' s * F s).sum = (l.map fun s => g s * F s).sum := by
  rw [List.map_congr_left fun s hs => by rw [h s hs]]
theorem sum_zero {g F : Nat → Nat} : ∀ {l : List Nat}, (∀ s ∈ l, g s = 0) → (l.map fun s => g s * F s).sum = 0
  | [], _ => rfl
  | a :: l, h => by rw [List.map_cons, List.sum_cons, h a (List.mem_cons_self), sum_zero fun s hs => h s (List.mem_cons_of_mem _ hs)]; simp
/-- the search of the standings -/
structure SM (bs : List Nat) (nd : List (Nat × Nat)) (ms fl : List Nat) (at_ j : Nat) : Prop where
  nodup : fl.Nodup
  reach : ∀ s ∈ fl, ReachL bs nd ms s
  zero : 0 ∈ fl
  closed : ∀ (i : Nat) s b, i < at_ → fl[i]? = some s → b ∈ ms → s ||| lbr bs nd s b ∈ fl
  now : ∀ s b, fl[at_]? = some s → b ∈ ms.take j → s ||| lbr bs nd s b ∈ fl
section
variable {bs : List Nat} {nd : List (Nat × Nat)} {ms fl : List Nat} {a j s b : Nat}
theorem SM.init : SM bs nd ms [0] 0 0 := ⟨by simp, fun s h => by rw [List.mem_singleton.mp h]; exact .zero, by simp, fun i s b h => by omega, fun s b _ h => by simp at h⟩
theorem SM.old (m : SM bs nd ms fl a j) (hs : fl[a]? = some s) (hb : ms[j]? = some b) (h : s ||| lbr bs nd s b ∈ fl) : SM bs nd ms fl a (j + 1) := ⟨m.nodup, m.reach, m.zero, m.closed, fun s2 b2 h2 hb2 => by
  rw [hs] at h2
  obtain rfl := Option.some.inj h2
  rw [take_succ_get hb, List.mem_append, List.mem_singleton] at hb2
  rcases hb2 with z | z
  · exact m.now s b2 hs z
  · rw [z]; exact h⟩
theorem SM.new (m : SM bs nd ms fl a j) (hs : fl[a]? = some s) (hb : ms[j]? = some b) (h : s ||| lbr bs nd s b ∉ fl) : SM bs nd ms (fl ++ [s ||| lbr bs nd s b]) a (j + 1) := by
  have ha := (List.getElem?_eq_some_iff.mp hs).1
  refine ⟨?_, fun x hx => ?_, List.mem_append_left _ m.zero, fun i x c hi hx hc => ?_, fun s2 b2 h2 hb2 => ?_⟩
  · rw [List.nodup_append]
    refine ⟨m.nodup, List.pairwise_singleton _ _, fun y hy z hz q => ?_⟩
    rw [List.mem_singleton] at hz
    rw [q, hz] at hy
    exact h hy
  · rcases List.mem_append.mp hx with z | z
    · exact m.reach x z
    · rw [List.mem_singleton.mp z]
      exact .next (m.reach s (List.mem_of_getElem? hs)) (List.mem_of_getElem? hb)
  · rw [List.getElem?_append_left (by omega)] at hx
    exact List.mem_append_left _ (m.closed i x c hi hx hc)
  · rw [List.getElem?_append_left ha, hs] at h2
    obtain rfl := Option.some.inj h2
    rw [take_succ_get hb, List.mem_append, List.mem_singleton] at hb2
    rcases hb2 with z | z
    · exact List.mem_append_left _ (m.now s b2 hs z)
    · rw [z]; simp
theorem SM.turn (m : SM bs nd ms fl a ms.length) : SM bs nd ms fl (a + 1) 0 := ⟨m.nodup, m.reach, m.zero, fun i s b hi hs hb => by
  by_cases e : i = a
  · subst e
    exact m.now s b hs (by rw [List.take_length]; exact hb)
  · exact m.closed i s b (by omega) hs hb, fun s b _ h => by simp at h⟩
theorem SM.all (m : SM bs nd ms fl fl.length 0) (hs : s ∈ fl) (hb : b ∈ ms) : s ||| lbr bs nd s b ∈ fl := by
  obtain ⟨i, hi⟩ := List.getElem?_of_mem hs
  exact m.closed i s b (List.getElem?_eq_some_iff.mp hi).1 hi hb
theorem SM.cover (m : SM bs nd ms fl fl.length 0) (r : ReachL bs nd ms s) : s ∈ fl := by
  induction r with
  | zero => exact m.zero
  | next r hb ih => exact m.all ih hb
theorem ripe_more (h : 0 < lbr bs nd s b) : (lotM s).length < (lotM (s ||| lbr bs nd s b)).length := by
  obtain ⟨k, hk⟩ := some_bit h
  have hS := (inBr_sup bs nd s b k (lbr_bit.mp hk)).2.1
  have ndp : (lotM s ++ [k]).Nodup := by
    rw [List.nodup_append]
    refine ⟨nodup_of_lt (lotM_sorted s), List.pairwise_singleton _ _, fun y hy z hz q => ?_⟩
    rw [List.mem_singleton] at hz
    rw [q, hz] at hy
    exact hS (mem_lotM.mp hy)
  have := nodup_sub (b := lotM (s ||| lbr bs nd s b)) ndp fun x hx => by
    rw [mem_lotM, Nat.testBit_or, Bool.or_eq_true]
    rcases List.mem_append.mp hx with z | z
    · exact .inl (mem_lotM.mp z)
    · rw [List.mem_singleton] at z
      rw [z]
      exact .inr hk
  rw [List.length_append, List.length_singleton] at this
  omega
theorem ReachL.lt (r : ReachL bs nd ms s) : s < 2 ^ bs.length := by
  induction r with
  | zero => exact Nat.two_pow_pos _
  | next r hb ih => exact Nat.or_lt_two_pow ih lbr_lt
theorem lbr_all : lbr bs nd (2 ^ bs.length - 1) b = 0 := bits_ext fun k => by
  rw [lbr_bit]
  constructor
  · intro h
    obtain ⟨h1, h2, _⟩ := inBr_sup bs nd _ b k h
    have hk := (List.getElem?_eq_some_iff.mp h1).1
    rw [Nat.testBit_two_pow_sub_one, decide_eq_true_iff] at h2
    exact absurd hk h2
  · intro h
    simp at h
end
/-- sorted, a list of pairs -/
theorem sort_po {K : PySem.W.Frag} {σ : L2.St} {H : Hp} {a : Addr} {zs : List (Nat × Nat)} (h : LL PN H a zs) {Q : VK} (q : ∀ (ms : List (Nat × Nat)) p H', ms.Perm zs → (ms.Pairwise fun x y => x.1 ≤ y.1) → Fz N0 H H' → LL PN H' p ms → Q (.ref p) H') : tNil σ H (fun xs H2 => rSortedPO K (.ref a :: xs) H2 Q) := by
  show rSortedPO K [.ref a] H Q
  obtain ⟨vs, h1, h2⟩ := h
  let k : V → Int × Int := fun v => match v with
    | .ref t => match H t with
      | some (.tup [.int i, .int j]) => (i, j)
      | _ => (0, 0)
    | _ => (0, 0)
  have hk : ∀ v x, PN H v x → (∃ t, v = .ref t ∧ H t = some (.tup [.int (k v).1, .int (k v).2])) ∧ ((k v).1.toNat, (k v).2.toNat) = x := fun v x ⟨t, u, w, e, ht, r1, r2⟩ => by
    obtain rfl := show u = vn x.1 from r1
    obtain rfl := show w = vn x.2 from r2
    subst e
    have ek : k (.ref t) = ((x.1 : Int), (x.2 : Int)) := by
      show (match H t with | some (.tup [.int i, .int j]) => (i, j) | _ => (0, 0)) = _
      rw [ht]
    rw [ek]
    exact ⟨⟨t, rfl, ht⟩, by simp⟩
  have hz : zs = vs.map fun v => ((k v).1.toNat, (k v).2.toNat) := by
    clear h1 q
    induction h2 with
    | nil => rfl
    | cons r _ ih => rw [List.map_cons, ← ih, (hk _ _ r).2]
  have mem : ∀ v ∈ vs, ∃ x, PN H v x := fun v hv => by
    obtain ⟨i, hi⟩ := List.getElem?_of_mem hv
    obtain ⟨x, _, hx⟩ := pget h2 hi
    exact ⟨x, hx⟩
  refine ⟨a, vs, k, rfl, .inl (.inl h1), fun v hv => ?_, fun ys p hs hb hp => ?_⟩
  · obtain ⟨x, hx⟩ := mem v hv
    exact (hk v x hx).1
  · have fp : Fz N0 H (upd H p (.lst ys)) := .new hp
    refine q (ys.map fun v => ((k v).1.toNat, (k v).2.toNat)) p _ (by rw [hz]; exact hb.perm.map _) ?_ fp ⟨ys, upd_same, ?_⟩
    · rw [List.pairwise_map]
      refine hs.imp fun {x y} h => ?_
      have h' : SrtO.lexB (k y) (k x) = false := h
      have := SrtO.lexB_no.mp h'
      show (k x).1.toNat ≤ (k y).1.toNat
      omega
    · have all : ∀ v ∈ ys, PN (upd H p (.lst ys)) v ((k v).1.toNat, (k v).2.toNat) := fun v hv => by
        obtain ⟨x, hx⟩ := mem v (hb.perm.mem_iff.mp hv)
        rw [(hk v x hx).2]
        exact pPN.go fp hx
      have gen : ∀ (l : List V), (∀ v ∈ l, PN (upd H p (.lst ys)) v ((k v).1.toNat, (k v).2.toNat)) → Paired (PN (upd H p (.lst ys))) l (l.map fun v => ((k v).1.toNat, (k v).2.toNat)) := by
        intro l
        induction l with
        | nil => intro _; exact .nil
        | cons v l ih => intro h; exact .cons (h v (List.mem_cons_self)) (ih fun w hw => h w (List.mem_cons_of_mem _ hw))
      exact gen ys all
end Rw

/-! books.py: needed, masks. -/
namespace Rw
open PySem PySem.Spec PyProof.Rows L2
section
variable {P : Program} {w : World} {K : PySem.W.Frag} {mg : Str → Option Value} {base : Heap} {B W c : Addr}
/- lot_of_mask -/
abbrev s_lot_of_mask : Stmt := topS 23
abbrev N_lot_of_mask : List Str := ["mask", "place"]
theorem sc_lot_of_mask : FnScope N_lot_of_mask ["mask"] (C8.fnScope s_lot_of_mask) := C8.fnScope_by (by decide +kernel)
def sp_lot_of_mask : Sp := fun vs H Q _ => ∃ m : Nat, vs = [vn m] ∧ m < 2 ^ 64 ∧ ∀ v H', Fz N0 H H' → TN H' v (lotM m) → Q v H'
theorem ok_lot_of_mask (T : Tx K mg B W c) : C8.Cal P w K mg base 1 "lot_of_mask" sp_lot_of_mask [] := by
  refine calD T.d_lot_of_mask sc_lot_of_mask (fun vs H Q E ⟨n, h, _⟩ => by rw [h]; rfl) fun f cdv A outer s H vs Q E hr h => ?_
  obtain ⟨m, rfl, hm, q⟩ := h
  refine ⟨_, (pss_one (ps_ret (pe_callTy call_tuple_of (by rfl) T.z_tuple (by decide +kernel) (pa_cons (pe_lc (own := [("place", 1)]) (by rfl) sc_lot_of_mask.nd (pi_range1 (by rfl) T.z_range (pa_cons (pe_bits (pv 0)) pa_nil)) (blkOk_by (own := [("place", 1)]) (N := N_lot_of_mask) (sc := C8.fnScope s_lot_of_mask) (by decide +kernel)) (fun _ _ _ _ _ => (pg_name (i := 1) sc_lot_of_mask.nd rfl (.inl rfl))) (fun _ _ _ _ _ => (pts_one (pt_cmpR op_eq (pe_op op_andN (pe_op op_shrNN (pv 0) (pv 1)) pe_int) pe_int (nomark _)))) (fun _ _ _ _ _ => (pv 1))) pa_nil)))), ?_⟩
  have hb := bits_le hm
  refine ⟨_, rfl, _, rfl, _, rfl, by omega, by omega, fun D hD => lc_det (R := RN) walk_range pRN hD (by show Builtin.Int.intBits (m : Int) ≤ _; omega) (fun i => if m.testBit i = true then some i else none) (fun _ _ => trivial) (fun i x H1 H2 C Nx hi f1 hy k1 k2 => ?_) fun H2 f2 hl => ?_⟩
  · obtain ⟨rfl, rfl⟩ := hy
    refine ⟨rfl, _, rfl, _, rfl, m, i, rfl, by simp, m >>> i, 1, rfl, rfl, rfl, _, rfl, ?_⟩
    by_cases ht : m.testBit i = true
    · have e := (testBit_shr m i).mpr ht
      rw [e]
      exact ⟨_, rfl, k1 _ _ i (if_pos ht) .refl (by simp [RN])⟩
    · have e : ¬ (m >>> i &&& 1 = 1) := fun z => ht ((testBit_shr m i).mp z)
      have e2 : decide (vn (m >>> i &&& 1) = V.int 1) = false := decide_eq_false fun z => e (vn_inj z)
      rw [e2]
      exact k2 _ (if_neg ht) .refl
  · rw [fm_range'] at hl
    have hl2 := ln_iff.mp hl
    exact ⟨D, _, rfl, .inl ⟨sL hl2, fun l hll => q _ _ (f2.snoc hll) (tn_iff.mpr ⟨l, rfl, upd_same⟩)⟩⟩
/- needed -/
abbrev s_needed : Stmt := topS 18
abbrev N_needed : List Str := ["many", "needs", "found", "change", "other"]
theorem sc_needed : FnScope N_needed ["many", "needs"] (C8.fnScope s_needed) := C8.fnScope_by (by decide +kernel)
def sp_needed : Sp := fun vs H Q _ => ∃ (m : Nat) (v : V) (nd : List (Nat × Nat)), vs = [vn m, v] ∧ NP H v nd ∧ (∀ p ∈ nd, p.1 < m) ∧ m ≤ 1000 ∧ nd.length ≤ 10000 ∧ ∀ p H', Fz N0 H H' → NL (Fr H) H' p ((List.range m).map (needL nd)) → Q (.ref p) H'
theorem ok_needed (T : Tx K mg B W c) : C8.Cal P w K mg base 1 "needed" sp_needed [] := by
  refine calD T.d_needed sc_needed (fun vs H Q E ⟨n, _, _, h, _⟩ => by rw [h]; rfl) fun f cdv A outer s H vs Q E hr h => ?_
  obtain ⟨m, v, nd, rfl, hnd, hlt, hm, hz, q⟩ := h
  obtain ⟨a, vs, rfl, ha, hp⟩ := hnd
  refine ⟨_, (pss_cons (ps_setLc (i := 2) (own := [("change", 3)]) (by rfl) sc_needed.nd rfl rfl (sw_true rfl rfl rfl (by decide +kernel)) (pi_range1 (by rfl) T.z_range (pa_cons (pv 0) pa_nil)) (blkOk_by (own := [("change", 3)]) (N := N_needed) (sc := C8.fnScope s_needed) (by decide +kernel)) (fun _ _ _ _ _ => (pg_name (i := 3) sc_needed.nd rfl (.inl rfl))) (fun _ _ _ _ _ => pts_nil) (fun _ _ _ _ _ => (pe_lst pa_nil)))
      (pss_cons (ps_for PassesOwn.never rfl (pi_tup (pv 1)) (pg_tup rfl (pgs_cons (pg_name (i := 3) sc_needed.nd rfl (.inl rfl)) (pgs_cons (pg_name (i := 4) sc_needed.nd rfl (.inl rfl)) pgs_nil)))
        (pss_one (ps_expr (pe_bm PySem.F.plainAttrs_list PySem.F.slot_list_append PySem.F.type_list_append mt_append (pe_ix ix_list (pv 2) (pv 3) (fun _ _ => rfl)) (pa_cons (pv 4) pa_nil)))))
      (pss_one (ps_ret (pv 2))))), ?_⟩
  refine ⟨_, rfl, _, rfl, by omega, by omega, fun D hD => lc_nest walk_range hD (by show m ≤ _; omega) (fun _ _ => trivial) (fun i x H1 H2 R hi f1 hy k => k _ _ rfl (hy.1 ▸ .refl)) fun H2 f2 nl => ?_⟩
  have ha2 := f2.tup ha
  have hp2 := pPN.all f2 hp
  refine ⟨_, rfl, a, rfl, ⟨_, sT ha2⟩, for_it (walk_tup (K := K) (a := a) (xs := vs)) (fun i σ H' => ∃ u u', σ = [some (vn m), some (.ref a), some (.ref D), u, u'] ∧ Fz N0 H H' ∧ NL (Fr H) H' D ((List.range m).map (needL (nd.take i)))) ⟨_, _, rfl, f2, ?_⟩ (fun i σ H' _ z => by
    obtain ⟨_, _, _, f3, _⟩ := z
    exact sT (f3.tup ha)) ?_ ?_⟩
  · have e : (List.range m).map (needL (nd.take 0)) = List.replicate m [] := by
      refine List.ext_getElem (by simp) fun i h1 h2 => ?_
      simp [needL]
    rw [e]
    exact nl
  · rintro i x σ H1 H' hi ⟨u, u', rfl, f3, n3⟩ ⟨rfl, hx⟩
    obtain ⟨⟨c, d⟩, e1, b, y1, y2, rfl, hb, r1, r2⟩ := pget (pPN.all f3 hp) hx
    obtain rfl := show y1 = vn c from r1
    obtain rfl := show y2 = vn d from r2
    have hc : c < m := hlt (c, d) (List.mem_of_getElem? e1)
    obtain ⟨ps, z, g1, g2, g3, g4, g5, g6⟩ := n3.get (range_get (f := needL (nd.take i)) hc)
    have e2 := take_succ_get e1
    have hl : (needL (nd.take i) c).length < 100000 := by
      have h1 : (needL (nd.take i) c).length ≤ (nd.take i).length := by
        unfold needL
        rw [List.length_map]
        exact List.length_filter_le _ _
      have h2 : (nd.take i).length ≤ nd.length := by
        rw [List.length_take]
        omega
      omega
    refine ⟨b, _, rfl, sT hb, rfl, _, _, rfl, _, _, rfl, rfl, _, rfl, _, rfl, D, _, (c : Int), _, rfl, rfl, sL g1, atN g2, tyL g3, _, rfl, z, _, _, rfl, rfl, g3, by rw [List.length_map]; exact szl hl, _, _, rfl, f3.mut g4 g3, ?_⟩
    have g7 := g6 (needL (nd.take i) c ++ [d])
    rw [range_set (g := needL (nd.take (i + 1))) (by rw [e2, needL_snoc, if_pos rfl]) (fun j hj => by rw [e2, needL_snoc, if_neg fun q => hj q.symm]), List.map_append] at g7
    exact g7
  · rintro σ H' ⟨u, u', rfl, f3, n3⟩
    have e : vs.length = nd.length := plen hp
    rw [e, List.take_length] at n3
    exact ⟨_, rfl, q D H' f3 n3⟩
end
end Rw

/-! books.py: order_of. -/
namespace Rw
open PySem PySem.Spec PyProof.Rows L2
section
variable {P : Program} {w : World} {K : PySem.W.Frag} {mg : Str → Option Value} {base : Heap} {B W c : Addr}
abbrev s_order_of : Stmt := topS 19
abbrev N_order_of : List Str := ["many", "needs", "direct", "readers", "left", "change", "other", "waiting", "found", "here", "row"]
theorem sc_order_of : FnScope N_order_of ["many", "needs"] (C8.fnScope s_order_of) := C8.fnScope_by (by decide +kernel)
def sp_order_of : Sp := fun vs H Q _ => ∃ (m : Nat) (v : V) (nd : List (Nat × Nat)), vs = [vn m, v] ∧ NP H v nd ∧ (∀ p ∈ nd, p.1 < m ∧ p.2 < m) ∧ Acy nd ∧ m ≤ 1000 ∧ nd.length ≤ 10000 ∧ ∀ o p H', Topo nd m o → Fz N0 H H' → Fr H p → H' p = some (.lst (o.map vn)) → Q (.ref p) H'
theorem ok_order_of (T : Tx K mg B W c) : C8.Cal P w K mg base 2 "order_of" sp_order_of [] := by
  refine calD T.d_order_of sc_order_of (fun vs H Q E ⟨n, _, _, h, _⟩ => by rw [h]; rfl) fun f cdv A outer s H vs Q E hr h => ?_
  obtain ⟨m, v, nd, rfl, hnd, hlt, hac, hm, hz, q⟩ := h
  obtain ⟨a, vs, rfl, ha, hp⟩ := id hnd
  refine ⟨_, (pss_cons (ps_set (i := 2) sc_order_of.nd rfl (.inl rfl) (C8.pe_c (ok_needed T) hr (by decide) (by rfl) (pa_cons (pv 0) (pa_cons (pv 1) pa_nil))))
      (pss_cons (ps_setLc (i := 3) (own := [("change", 5)]) (by rfl) sc_order_of.nd rfl rfl (sw_true rfl rfl rfl (by decide +kernel)) (pi_range1 (by rfl) T.z_range (pa_cons (pv 0) pa_nil)) (blkOk_by (own := [("change", 5)]) (N := N_order_of) (sc := C8.fnScope s_order_of) (by decide +kernel)) (fun _ _ _ _ _ => (pg_name (i := 5) sc_order_of.nd rfl (.inl rfl))) (fun _ _ _ _ _ => pts_nil) (fun _ _ _ _ _ => (pe_lst pa_nil)))
      (pss_cons (ps_set (i := 4) sc_order_of.nd rfl (.inr rfl) (pe_lc (own := [("row", 10)]) (by rfl) sc_order_of.nd (pi_list (pv 2)) (blkOk_by (own := [("row", 10)]) (N := N_order_of) (sc := C8.fnScope s_order_of) (by decide +kernel)) (fun _ _ _ _ _ => (pg_name (i := 10) sc_order_of.nd rfl (.inl rfl))) (fun _ _ _ _ _ => pts_nil) (fun _ _ _ _ _ => (pe_callB (lenK (K := K) rfl) (by rfl) T.z_len PySem.boot_len (pa_cons (pv 10) pa_nil)))))
      (pss_cons (ps_for PassesOwn.never rfl (pi_tup (pv 1)) (pg_tup rfl (pgs_cons (pg_name (i := 5) sc_order_of.nd rfl (.inl rfl)) (pgs_cons (pg_name (i := 6) sc_order_of.nd rfl (.inl rfl)) pgs_nil)))
        (pss_one (ps_expr (pe_bm PySem.F.plainAttrs_list PySem.F.slot_list_append PySem.F.type_list_append mt_append (pe_ix ix_list (pv 3) (pv 6) (fun _ _ => rfl)) (pa_cons (pv 5) pa_nil)))))
      (pss_cons (ps_setLc (i := 7) (own := [("change", 5)]) (by rfl) sc_order_of.nd rfl rfl (sw_true rfl rfl rfl (by decide +kernel)) (pi_range1 (by rfl) T.z_range (pa_cons (pv 0) pa_nil)) (blkOk_by (own := [("change", 5)]) (N := N_order_of) (sc := C8.fnScope s_order_of) (by decide +kernel)) (fun _ _ _ _ _ => (pg_name (i := 5) sc_order_of.nd rfl (.inl rfl))) (fun _ _ _ _ _ => (pts_one (pt_cmpR op_eq (pe_ix (ixLk (K := K) rfl) (pv 4) (pv 5) (fun _ _ => rfl)) pe_int (nomark _)))) (fun _ _ _ _ _ => (pv 5)))
      (pss_cons (ps_set (i := 8) sc_order_of.nd rfl (.inl rfl) (pe_lst pa_nil))
      (pss_cons (ps_while PassesOwn.never (pt_cmpR op_gt (pe_callB call_len_seq (by rfl) T.z_len PySem.boot_len (pa_cons (pv 7) pa_nil)) pe_int (nomark _))
        (pss_cons (ps_set (i := 9) sc_order_of.nd rfl (.inl rfl) (pe_bm0 PySem.F.plainAttrs_list PySem.F.slot_list_pop PySem.F.type_list_pop mt_pop (pv 7)))
        (pss_cons (ps_expr (pe_bm PySem.F.plainAttrs_list PySem.F.slot_list_append PySem.F.type_list_append mt_append (pv 8) (pa_cons (pv 9) pa_nil)))
        (pss_one (ps_for PassesOwn.never rfl (pi_list (pe_ix ix_list (pv 3) (pv 9) (fun _ _ => rfl))) (pg_name (i := 5) sc_order_of.nd rfl (.inl rfl))
          (pss_cons (ps_augS (pv 4) (pv 5) get_list pe_int ip_subN set_list)
          (pss_one (ps_if (pt_cmpR op_eq (pe_ix ix_list (pv 4) (pv 5) (fun _ _ => rfl)) pe_int (nomark _))
            (pss_one (ps_expr (pe_bm PySem.F.plainAttrs_list PySem.F.slot_list_append PySem.F.type_list_append mt_append (pv 7) (pa_cons (pv 5) pa_nil))))
            pss_nil))))))))
      (pss_one (ps_ret (pv 8)))))))))), ?_⟩
  refine ⟨_, rfl, _, rfl, m, _, nd, rfl, hnd, fun p h => (hlt p h).1, hm, hz, fun pd H2 f2 n2 => ⟨_, rfl, _, rfl, by omega, by omega, fun pr hpr => lc_nest walk_range hpr (by show m ≤ _; omega) (fun _ _ => trivial) (fun i x H1 H2 R hi f1 hy k => k _ _ rfl (hy.1 ▸ .refl)) fun H3 f3 nl3 => ?_⟩⟩
  have n3 := n2.fz0 f3
  obtain ⟨ps, g1, g2, g3, g4, g5, g6, g7⟩ := n3
  refine ⟨_, rfl, pd, rfl, ⟨_, sL g1⟩, fun pl hpl => lc_det (R := RN) (walk_list (K := K) (a := pd) (xs := ps.map V.ref)) pRN hpl (by rw [List.length_map, g6, List.length_map, List.length_range]; omega) (fun i => some (needL nd i).length) (fun H f => sL (f.at g1 fun z => z)) (fun i x H1 H2 C Nx hi f1 hy k1 k2 => ?_) fun H4 f4 hl => ?_⟩
  · obtain ⟨rfl, hx⟩ := hy
    rw [List.length_map] at hi
    have hi2 : i < m := by
      rw [g6, List.length_map, List.length_range] at hi
      exact hi
    have e1 : ps[i]? = some ps[i] := List.getElem?_eq_getElem hi
    rw [List.getElem?_map, e1] at hx
    obtain rfl := Option.some.inj hx
    have e2 := f1.at (g7 i _ _ e1 (range_get hi2)) fun z => z
    exact ⟨rfl, _, rfl, _, _, rfl, .inl (sL e2), k1 _ _ _ rfl .refl (by simp [RN])⟩
  have hl2 := ln_iff.mp hl
  have eL : (List.range (ps.map V.ref).length).filterMap (fun i => some (needL nd i).length) = (List.range m).map fun c => (needL nd c).length := by
    rw [List.length_map, g6, List.length_map, List.length_range]
    exact congrFun (List.filterMap_eq_map (f := fun c => (needL nd c).length)) _
  rw [eL] at hl2
  have frl : Fr H pl := (f2.trans f3).fr hpl
  have e0 : List.replicate ((m : Nat) : Int).toNat [] = (List.range m).map (readL (nd.take 0)) := by
    refine List.ext_getElem (by simp) fun i h1 h2 => ?_
    simp [readL]
  rw [e0] at nl3
  have nr4 : NL (fun z => Fr H z ∧ z ≠ pl) H4 pr ((List.range m).map (readL (nd.take 0))) := ((nl3.ne hpl).fz0 f4).imp fun z h => ⟨f2.thr z h.1, h.2⟩
  have f04 : Fz N0 H H4 := (f2.trans f3).trans f4
  refine ⟨_, rfl, a, rfl, ⟨_, sT (f04.tup ha)⟩, for_it (walk_tup (K := K) (a := a) (xs := vs)) (fun i σ H' => ∃ u u', σ = [some (vn m), some (.ref a), some (.ref pd), some (.ref pr), some (.ref pl), u, u', none, none, none, none] ∧ Fz N0 H H' ∧ H' pl = some (.lst (((List.range m).map fun c => (needL nd c).length).map vn)) ∧ NL (fun z => Fr H z ∧ z ≠ pl) H' pr ((List.range m).map (readL (nd.take i)))) ⟨_, _, rfl, f04, hl2, nr4⟩ (fun i σ H' _ z => by
    obtain ⟨_, _, _, f3, _⟩ := z
    exact sT (f3.tup ha)) ?_ ?_⟩
  · rintro i x σ H1 H' hi ⟨u, u', rfl, f3, hL, n3⟩ ⟨rfl, hx⟩
    obtain ⟨⟨c, d⟩, e1, b, y1, y2, rfl, hb, r1, r2⟩ := pget (pPN.all f3 hp) hx
    obtain rfl := show y1 = vn c from r1
    obtain rfl := show y2 = vn d from r2
    have hd : d < m := (hlt (c, d) (List.mem_of_getElem? e1)).2
    obtain ⟨ps, z, g1, g2, g3, g4, g5, g6⟩ := n3.get (range_get (f := readL (nd.take i)) hd)
    have e2 := take_succ_get e1
    have hl : (readL (nd.take i) d).length < 100000 := by
      have h1 : (readL (nd.take i) d).length ≤ (nd.take i).length := by
        unfold readL
        rw [List.length_map]
        exact List.length_filter_le _ _
      have h2 : (nd.take i).length ≤ nd.length := by
        rw [List.length_take]
        omega
      omega
    refine ⟨b, _, rfl, sT hb, rfl, _, _, rfl, _, _, rfl, rfl, _, rfl, _, rfl, pr, _, (d : Int), _, rfl, rfl, sL g1, atN g2, tyL g3, _, rfl, z, _, _, rfl, rfl, g3, by rw [List.length_map]; exact szl hl, _, _, rfl, f3.mut g4.1 g3, ?_, ?_⟩
    · rw [upd_ne g4.2.symm]
      exact hL
    · have g7 := g6 (readL (nd.take i) d ++ [c])
      rw [range_set (g := readL (nd.take (i + 1))) (by rw [e2, readL_snoc, if_pos rfl]) (fun j hj => by rw [e2, readL_snoc, if_neg fun q => hj q.symm]), List.map_append] at g7
      exact g7
  rintro σ H5 ⟨u5, u6, rfl, f5, hL5, n5⟩
  rw [show vs.length = nd.length from plen hp, List.take_length] at n5
  refine ⟨_, rfl, _, rfl, by omega, by omega, fun pw hpw => lc_det (R := RN) walk_range pRN hpw (by show m ≤ _; omega) (fun i => if ((needL nd i).length == 0) = true then some i else none) (fun _ _ => trivial) (fun i x H1 H2 C Nx hi f1 hy k1 k2 => ?_) fun H6 f6 hw => ?_⟩
  · obtain ⟨rfl, rfl⟩ := hy
    have hi2 : i < m := hi
    have e1 := f1.at hL5 fun z => z
    refine ⟨rfl, _, rfl, _, rfl, pl, _, (i : Int), _, rfl, by simp, sL e1, atN (vn_get (range_get (f := fun c => (needL nd c).length) hi2)), rfl, _, rfl, ?_⟩
    by_cases h0 : (needL nd i).length = 0
    · have e2 : decide (vn (needL nd i).length = V.int 0) = true := decide_eq_true (by rw [h0]; rfl)
      rw [e2]
      exact ⟨_, rfl, k1 _ _ i (if_pos (by simp [h0])) .refl (by simp [RN])⟩
    · have e2 : decide (vn (needL nd i).length = V.int 0) = false := decide_eq_false fun z => h0 (vn_inj z)
      rw [e2]
      exact k2 _ (if_neg (by simp; exact fun z => h0 (by rw [z]; rfl))) .refl
  rw [fm_range'] at hw
  have hw2 := ln_iff.mp hw
  have hL6 := f6.at hL5 fun z => z
  have nlw : pl ≠ pw := fun z => by rw [z, hpw] at hL5; cases hL5
  refine ⟨Nat.zero_le _, fun pf hpf => ?_⟩
  have nlf : pl ≠ pf := fun z => by rw [z, hpf] at hL6; cases hL6
  have nwf : pw ≠ pf := fun z => by rw [z, hpf] at hw2; cases hw2
  have frw : Fr H pw := f5.fr hpw
  have frf : Fr H pf := (f5.trans f6).fr hpf
  have fw5 : Fr H5 pw := .inl hpw
  have ff5 : Fr H5 pf := f6.fr hpf
  refine ⟨fun k σ Hc => ∃ (w f L : List Nat) (u5 u6 u9 : Option V), k = m - f.length ∧ σ = [some (vn m), some (.ref a), some (.ref pd), some (.ref pr), some (.ref pl), u5, u6, some (.ref pw), some (.ref pf), u9, none] ∧ Fz N0 H Hc ∧ Fz (· = pl) H5 Hc ∧ Hc pl = some (.lst (L.map vn)) ∧ Hc pw = some (.lst (w.map vn)) ∧ Hc pf = some (.lst (f.map vn)) ∧ KM nd m [] w f L,
    ⟨_, _, [], _, u5, u6, none, rfl, rfl, (f5.trans f6).snoc hpf, (f6.snoc hpf).up, by rw [upd_ne nlf]; exact hL6, by rw [upd_ne nwf]; exact hw2, upd_same, KM.init nd m⟩, ?_⟩
  rintro k σ Hc ⟨w, f, L, u5, u6, u9, rfl, rfl, fc, f5c, hlc, hwc, hfc, km⟩
  refine ⟨_, rfl, pw, _, rfl, .inl (sL hwc), _, 0, rfl, rfl, _, rfl, ?_⟩
  rw [List.length_map]
  rcases List.eq_nil_or_concat w with e | ⟨w0, h, e⟩
  · subst e
    exact ⟨_, rfl, q f pf Hc (km.done hac fun p hp => (hlt p hp).2) fc frf hfc⟩
  subst e
  rw [List.concat_eq_append] at *
  have hh : h < m := km.lt h (by simp)
  have few := km.few
  rw [List.length_append, List.length_singleton] at few
  have hpos : decide ((0 : Int) < ((w0 ++ [h]).length : Nat)) = true := decide_eq_true (by rw [List.length_append, List.length_singleton]; omega)
  have km2 := km.pop
  rw [if_pos hpos]
  have ne : ((w0 ++ [h]).map vn)[((w0 ++ [h]).map vn).length - 1]? = some (vn h) := by simp
  have dl : ((w0 ++ [h]).map vn).dropLast = w0.map vn := by simp
  refine ⟨_, fun σ' H' z => z, _, rfl, tyL hwc, pw, _, _, rfl, rfl, hwc, ne, ?_⟩
  rw [dl]
  have e1 : upd Hc pw (.lst (w0.map vn)) pf = some (.lst (f.map vn)) := by rw [upd_ne nwf.symm]; exact hfc
  have fA : Fz N0 H (upd Hc pw (.lst (w0.map vn))) := fc.mut frw hwc
  have fA5 : Fz (· = pl) H5 (upd Hc pw (.lst (w0.map vn))) := f5c.mut fw5 hwc
  refine ⟨_, rfl, tyL e1, _, rfl, pf, _, _, rfl, rfl, e1, by rw [List.length_map]; exact szl (by omega), ?_⟩
  have ef : f.map vn ++ [vn h] = (f ++ [h]).map vn := by simp
  rw [ef]
  have fB : Fz N0 H (upd (upd Hc pw (.lst (w0.map vn))) pf (.lst ((f ++ [h]).map vn))) := fA.mut frf e1
  have fB5 : Fz (· = pl) H5 (upd (upd Hc pw (.lst (w0.map vn))) pf (.lst ((f ++ [h]).map vn))) := fA5.mut ff5 e1
  have hlB : (upd (upd Hc pw (.lst (w0.map vn))) pf (.lst ((f ++ [h]).map vn))) pl = some (.lst (L.map vn)) := by rw [upd_ne nlf, upd_ne nlw]; exact hlc
  have hwB : (upd (upd Hc pw (.lst (w0.map vn))) pf (.lst ((f ++ [h]).map vn))) pw = some (.lst (w0.map vn)) := by rw [upd_ne nwf, upd_same]
  have hfB : (upd (upd Hc pw (.lst (w0.map vn))) pf (.lst ((f ++ [h]).map vn))) pf = some (.lst ((f ++ [h]).map vn)) := upd_same
  generalize upd (upd Hc pw (.lst (w0.map vn))) pf (.lst ((f ++ [h]).map vn)) = HB at fB fB5 hlB hwB hfB
  obtain ⟨ps2, z, y1, y2, y3, y4, y5, _⟩ := n5.get (range_get (f := readL nd) hh)
  have npl : ¬ pr = pl := by
    obtain ⟨_, _, _, _, q4, _⟩ := n5
    exact q4.2
  refine ⟨_, rfl, _, rfl, pr, _, (h : Int), _, rfl, rfl, sL (fB5.at y1 npl), atN y2, z, rfl, ⟨_, sL (fB5.at y3 y4.2)⟩, for_it (walk_list (K := K) (a := z) (xs := (readL nd h).map vn)) (fun i σ Hc => ∃ (w L : List Nat) (u5 : Option V), σ = [some (vn m), some (.ref a), some (.ref pd), some (.ref pr), some (.ref pl), u5, u6, some (.ref pw), some (.ref pf), some (vn h), none] ∧ Fz N0 H Hc ∧ Fz (· = pl) H5 Hc ∧ Hc pl = some (.lst (L.map vn)) ∧ Hc pw = some (.lst (w.map vn)) ∧ Hc pf = some (.lst ((f ++ [h]).map vn)) ∧ KM nd m ((readL nd h).drop i) w (f ++ [h]) L)
    ⟨w0, L, u5, rfl, fB, fB5, hlB, hwB, hfB, km2⟩ (fun i σ Hc _ q => by
      obtain ⟨_, _, _, _, _, q5, _⟩ := q
      exact sL (q5.at y3 y4.2)) ?_ ?_⟩
  · rintro i x σ Hx H1 hi ⟨w, L, u5, rfl, f1, f15, hl1, hw1, hf1, kmi⟩ ⟨rfl, hx⟩
    obtain ⟨c, hc, rfl⟩ := vn_get' hx
    have hcm : c < m := (hlt (c, h) (mem_readL.mp (List.mem_of_getElem? hc))).1
    have ed : (readL nd h).drop i = c :: (readL nd h).drop (i + 1) := by
      rw [List.drop_eq_getElem_cons (List.getElem?_eq_some_iff.mp hc).1, (List.getElem?_eq_some_iff.mp hc).2]
    rw [ed] at kmi
    obtain ⟨x, hx1, kmd⟩ := kmi.dec hcm
    have hcl : c < L.length := by rw [kmi.len]; exact hcm
    have es : (L.map vn).set c (vn (x + 1 - 1)) = (L.set c x).map vn := by rw [List.map_set, Nat.add_sub_cancel]
    refine ⟨_, rfl, _, rfl, pl, _, c, vn (x + 1), rfl, rfl, hl1, vn_get hx1, x + 1, 1, rfl, rfl, by omega, pl, _, (c : Int), c, rfl, rfl, hl1, ixN_nat (by rw [List.length_map]; exact hcl), ?_⟩
    rw [es]
    have h3 : upd H1 pl (.lst ((L.set c x).map vn)) pw = some (.lst (w.map vn)) := by rw [upd_ne nlw.symm]; exact hw1
    have h4 : upd H1 pl (.lst ((L.set c x).map vn)) pf = some (.lst ((f ++ [h]).map vn)) := by rw [upd_ne nlf.symm]; exact hf1
    have fC : Fz N0 H (upd H1 pl (.lst ((L.set c x).map vn))) := f1.mut frl hl1
    have hl5' : ∃ xs, H5 pl = some (.lst xs) := ⟨_, hL5⟩
    have fC5 : Fz (· = pl) H5 (upd H1 pl (.lst ((L.set c x).map vn))) := f15.put hL5 hl1 rfl
    have h5 : upd H1 pl (.lst ((L.set c x).map vn)) pl = some (.lst ((L.set c x).map vn)) := upd_same
    generalize upd H1 pl (.lst ((L.set c x).map vn)) = HC at h3 h4 fC fC5 h5
    refine ⟨_, rfl, _, rfl, pl, _, (c : Int), vn x, rfl, rfl, sL h5, atN (vn_get (List.getElem?_set_self hcl)), rfl, _, rfl, ?_⟩
    have fw := kmi.few
    by_cases h0 : x = 0
    · have e2 : decide (vn x = V.int 0) = true := decide_eq_true (by rw [h0]; rfl)
      rw [e2]
      rw [if_pos h0] at kmd
      have ew : w.map vn ++ [vn c] = (w ++ [c]).map vn := by simp
      refine ⟨_, rfl, tyL h3, _, rfl, pw, _, _, rfl, rfl, h3, by rw [List.length_map]; exact szl (by omega), ?_⟩
      rw [ew]
      exact ⟨_, _, _, rfl, fC.mut frw h3, fC5.mut fw5 h3, by rw [upd_ne nlw]; exact h5, upd_same, by rw [upd_ne nwf.symm]; exact h4, kmd⟩
    · have e2 : decide (vn x = V.int 0) = false := decide_eq_false fun z => h0 (vn_inj z)
      rw [e2]
      rw [if_neg h0] at kmd
      exact ⟨_, _, _, rfl, fC, fC5, h5, h3, h4, kmd⟩
  · rintro σ H' ⟨w, L, u5, rfl, f1, f15, hl1, hw1, hf1, kmi⟩
    rw [List.length_map, List.drop_length] at kmi
    exact ⟨_, by rw [List.length_append, List.length_singleton]; omega, _, _, _, _, _, _, rfl, rfl, f1, f15, hl1, hw1, hf1, kmi⟩
end
end Rw

/-! books.py: the empty book, raw_book, masks_beneath, blocks_of. -/
namespace Rw
open PySem PySem.Spec PyProof.Rows L2
section
variable {P : Program} {w : World} {K : PySem.W.Frag} {mg : Str → Option Value} {base : Heap} {B W c : Addr}
/- check_parts, of the empty book alone -/
abbrev s_check_parts : Stmt := topS 17
abbrev N_check_parts : List Str := ["blocks", "needs", "at", "need", "block"]
theorem sc_check_parts : FnScope N_check_parts ["blocks", "needs"] (C8.fnScope s_check_parts) := C8.fnScope_by (by decide +kernel)
def sp_check_parts : Sp := fun vs H Q _ => ∃ (a b : Addr), vs = [.ref a, .ref b] ∧ H a = some (.tup []) ∧ H b = some (.tup []) ∧ ∀ H', Fz N0 H H' → Q .non H'
theorem ok_check_parts (T : Tx K mg B W c) : C8.Cal P w K mg base 3 "check_parts" sp_check_parts [] := by
  refine calD T.d_check_parts sc_check_parts (fun vs H Q E ⟨_, _, h, _⟩ => by rw [h]; rfl) fun f cdv A outer s H vs Q E hr h => ?_
  obtain ⟨a, b, rfl, ha, hb, q⟩ := h
  refine ⟨_, (pss_cons (ps_if (PW.pt (pw_or (pt_not (pt_val (pe_callB call_is (by rfl) T.z_isinstance (by decide +kernel) (pa_cons (pv 0) (pa_cons (pe_bltn (v := .ty "tuple") (by rfl) T.z_tuple (by decide +kernel) rfl) pa_nil))))) (pw_or1 (pt_cmpR op_gt (pe_callB call_len_seq (by rfl) T.z_len PySem.boot_len (pa_cons (pv 0) pa_nil)) (C8.pe_gc (by rfl) T.c_MOST_CHANGES) (nomark _)))))
          (pss_one ps_never)
          pss_nil)
        (pss_cons (ps_if (pt_not (pt_val (pe_callB (cr_all rfl) (by rfl) T.z_all (by decide +kernel) (pa_cons (pe_lc (own := [("block", 4)]) (by rfl) sc_check_parts.nd (pi_tup (pv 0)) (blkOk_by (own := [("block", 4)]) (N := N_check_parts) (sc := C8.fnScope s_check_parts) (by decide +kernel)) (fun _ _ _ _ _ => (pg_name (i := 4) sc_check_parts.nd rfl (.inl rfl))) (fun _ _ _ _ _ => pts_nil) (fun _ _ _ _ _ => (C8.pe_c (ok_is_within T) hr (by decide) (by rfl) (pa_cons (pv 4) (pa_cons pe_int (pa_cons (C8.pe_gc (by rfl) T.c_MOST_BLOCK) pa_nil)))))) pa_nil))))
          (pss_one ps_never)
          pss_nil)
        (pss_cons (ps_if (PW.pt (pw_or (pt_not (pt_val (pe_callB call_is (by rfl) T.z_isinstance (by decide +kernel) (pa_cons (pv 1) (pa_cons (pe_bltn (v := .ty "tuple") (by rfl) T.z_tuple (by decide +kernel) rfl) pa_nil))))) (pw_or1 (pt_cmpR op_gt (pe_callB call_len_seq (by rfl) T.z_len PySem.boot_len (pa_cons (pv 1) pa_nil)) (C8.pe_gc (by rfl) T.c_MOST_NEEDS) (nomark _)))))
          (pss_one ps_never)
          pss_nil)
        (pss_one (ps_for PassesOwn.never rfl (pi_enumT (by rfl) T.z_enumerate (pa_cons (pv 1) pa_nil)) (pg_tup rfl (pgs_cons (pg_name (i := 2) sc_check_parts.nd rfl (.inl rfl)) (pgs_cons (pg_name (i := 3) sc_check_parts.nd rfl (.inl rfl)) pgs_nil)))
          (pss_one ps_never)))))), ?_⟩
  refine ⟨_, rfl, _, _, _, rfl, .tt ha, _, rfl, _, rfl, a, _, rfl, .inr (sT ha), _, _, rfl, rfl, _, rfl, ?_⟩
  refine ⟨_, rfl, a, rfl, ⟨_, sT ha⟩, fun D hD => lc_true (walk_tup (K := K) (a := a) (xs := [])) hD (by decide) (fun H f => sT (f.tup ha)) (fun i x H1 H2 C hi => absurd hi (Nat.not_lt_zero _)) fun H2 bs f2 hl hb2 => ⟨D, bs, rfl, sL hl, _, rfl, ?_⟩⟩
  rw [hb2]
  have hb2 := f2.tup hb
  refine ⟨_, rfl, _, _, _, rfl, .tt hb2, _, rfl, _, rfl, b, _, rfl, .inr (sT hb2), _, _, rfl, rfl, _, rfl, ?_⟩
  exact ⟨_, rfl, b, [], rfl, sT hb2, for_it (walk_enumT (K := K) (a := b) (xs := [])) (fun i σ H' => Fz N0 H H') f2 (fun i σ H' _ f => sT (f.tup hb)) (fun i x σ H1 H2 hi => absurd hi (Nat.not_lt_zero _)) fun σ H' f => q H' f⟩
/- Book.__init__, of the empty book -/
abbrev s_Book___init__ : Stmt := inClass (topS 20) 0
abbrev N_Book___init__ : List Str := ["self", "blocks", "needs"]
theorem sc_Book___init__ : FnScope N_Book___init__ ["self", "blocks", "needs"] (C8.fnScope s_Book___init__) := C8.fnScope_by (by decide +kernel)
def sp_Book_init (B : Addr) : Sp := fun vs H Q _ => ∃ (H1 : Hp) (x a b dx : Addr), vs = [.ref x, .ref a, .ref b] ∧ H = upd (upd H1 dx (.own x)) x (.ins B dx []) ∧ H1 x = none ∧ H1 dx = none ∧ dx ≠ x ∧ H1 a = some (.tup []) ∧ H1 b = some (.tup []) ∧
  ∀ H', Fz N0 H1 H' → H' x = some (.ins B dx [("blocks", .ref a), ("needs", .ref b)]) → Q .non H'
theorem mk_Book (T : Tx K mg B W c) : C8.Mak P w K mg base 4 "Book" B (sp_Book_init B) [] := by
  refine makD T.k_Book sc_Book___init__ (fun vs H Q E ⟨_, _, _, _, _, h, _⟩ => by rw [h]; rfl) fun f cdv A outer s H vs Q E hr h => ?_
  obtain ⟨H1, x, a, b, dx, rfl, rfl, hx, hdx, ndx, ha, hb, q⟩ := h
  refine ⟨_, (pss_cons (ps_expr (C8.pe_c (ok_check_parts T) hr (by decide) (by rfl) (pa_cons (pv 1) (pa_cons (pv 2) pa_nil))))
      (pss_cons (ps_if (pt_cmpR op_lt (pe_callB call_len_seq (by rfl) T.z_len PySem.boot_len (pa_cons (C8.pe_c (ok_order_of T) hr (by decide) (by rfl) (pa_cons (pe_callB call_len_seq (by rfl) T.z_len PySem.boot_len (pa_cons (pv 1) pa_nil)) (pa_cons (pv 2) pa_nil))) pa_nil)) (pe_callB call_len_seq (by rfl) T.z_len PySem.boot_len (pa_cons (pv 1) pa_nil)) (nomark _))
        (pss_one ps_never)
        pss_nil)
      (pss_cons (ps_fld (pv 0) (pv 1) rfl)
      (pss_one (ps_fld (pv 0) (pv 2) rfl))))), ?_⟩
  have f1 : Fz N0 H1 (upd (upd H1 dx (.own x)) x (.ins B dx [])) := (Fz.new hdx).snoc (by rw [upd_ne ndx.symm]; exact hx)
  have hx1 : (upd (upd H1 dx (.own x)) x (.ins B dx [])) x = some (.ins B dx []) := upd_same
  generalize upd (upd H1 dx (.own x)) x (.ins B dx []) = H at f1 hx1
  refine ⟨_, rfl, _, rfl, a, b, rfl, f1.tup ha, f1.tup hb, fun H2 f2 => ?_⟩
  have f12 := f1.trans f2
  have ha2 := f12.tup ha
  have hb2 := f12.tup hb
  refine ⟨_, rfl, a, _, rfl, .inr (sT ha2), _, rfl, 0, _, [], rfl, ⟨b, [], rfl, hb2, .nil⟩, fun p hp => (nomatch hp), ⟨fun _ => 0, fun c d h => (nomatch h)⟩, by decide, by decide, fun o p H3 ht f3 fp ho => ?_⟩
  have eo : o = [] := List.eq_nil_iff_forall_not_mem.mpr fun c hc => absurd ((ht.all c).mp hc) (Nat.not_lt_zero _)
  subst eo
  refine ⟨p, _, rfl, .inl (sL ho), _, rfl, a, _, rfl, .inr (sT (f3.tup ha2)), 0, 0, rfl, rfl, _, rfl, ?_⟩
  have hx3 := (f2.trans f3).ins hx1
  have f13 := f12.trans f3
  have f4 : Fz N0 H1 (upd H3 x (.ins B dx (putF "blocks" (.ref a) []))) := f13.mut (.inl hx) hx3
  refine ⟨_, rfl, _, rfl, x, B, dx, _, rfl, hx3, T.cB, T.nB_blocks, by decide, _, rfl, _, rfl, x, B, dx, _, rfl, upd_same, T.cB, T.nB_needs, (by decide : 1 < 1000), q _ (f4.mut (.inl hx) upd_same) ?_⟩
  rw [upd_same]
  rfl
/- raw_book -/
/-- a Book -/
def IsB (B : Addr) (H : Hp) (v : V) (bs : List Nat) (nd : List (Nat × Nat)) : Prop := ∃ x dx vb vn, v = .ref x ∧ H x = some (.ins B dx [("blocks", vb), ("needs", vn)]) ∧ TN H vb bs ∧ NP H vn nd
theorem IsB.fz {H H' : Hp} {v : V} {bs : List Nat} {nd : List (Nat × Nat)} {T : Addr → Prop} (h : IsB B H v bs nd) (f : Fz T H H') : IsB B H' v bs nd := by
  obtain ⟨x, dx, vb, vn, e, h1, h2, h3⟩ := h
  exact ⟨x, dx, vb, vn, e, f.ins h1, pTN.go f h2, pNP.go f h3⟩
abbrev s_raw_book : Stmt := topS 21
abbrev N_raw_book : List Str := ["blocks", "needs", "found"]
theorem sc_raw_book : FnScope N_raw_book ["blocks", "needs"] (C8.fnScope s_raw_book) := C8.fnScope_by (by decide +kernel)
def sp_raw_book (B : Addr) : Sp := fun vs H Q _ => ∃ (vb : V) (l : Addr) (bs : List Nat) (ps : List (Nat × Nat)), vs = [vb, .ref l] ∧ TN H vb bs ∧ LL PN H l ps ∧ (∀ p ∈ ps, p.1 < 64 ∧ p.2 < 64) ∧ (∀ L : List (Nat × Nat), L.Nodup → (∀ p ∈ L, p ∈ ps) → L.length + 1 < 64) ∧
  ∀ nd v H', nd.Pairwise PLt → (∀ p, p ∈ nd ↔ p ∈ ps) → Fz N0 H H' → IsB B H' v bs nd → Q v H'
theorem ok_raw_book (T : Tx K mg B W c) : C8.Cal P w K mg base 6 "raw_book" (sp_raw_book B) [] := by
  refine calD T.d_raw_book sc_raw_book (fun vs H Q E ⟨_, _, _, _, h, _⟩ => by rw [h]; rfl) fun f cdv A outer s H vs Q E hr h => ?_
  obtain ⟨vb, l, bs, ps, rfl, hb, hl, hlt, hfew, q⟩ := h
  refine ⟨_, (pss_cons (ps_set (i := 2) sc_raw_book.nd rfl (.inl rfl) (C8.pe_mk (mk_Book T) hr (by decide) (by rfl) (pa_cons (pe_tup pa_nil) (pa_cons (pe_tup pa_nil) pa_nil))))
      (pss_cons (ps_fld (pv 2) (pe_callTy call_tuple_of (by rfl) T.z_tuple (by decide +kernel) (pa_cons (pv 0) pa_nil)) rfl)
      (pss_cons (ps_fld (pv 2) (pe_callTy call_tuple_of (by rfl) T.z_tuple (by decide +kernel) (pa_cons (pe_callB (cr_sortedT rfl) (by rfl) T.z_sorted (by decide +kernel) (pa_cons (pe_callTy (cr_setT rfl hr.units) (by rfl) T.z_set (by decide +kernel) (pa_cons (pv 1) pa_nil)) pa_nil)) pa_nil)) rfl)
      (pss_one (ps_ret (pv 2)))))), ?_⟩
  obtain ⟨ab, rfl, hab⟩ := tn_iff.mp hb
  obtain ⟨vs, hl1, hl2⟩ := hl
  refine ⟨Nat.zero_le _, fun e1 he1 => ⟨Nat.zero_le _, fun e2 he2 x dx hx hdx nxd => ⟨_, x, e1, e2, dx, rfl, rfl, hx, hdx, nxd, ?_, upd_same, fun H2 f2 hx2 => ⟨rfl, ?_⟩⟩⟩⟩
  · have n12 : e1 ≠ e2 := fun z => by
      rw [← z, upd_same] at he2
      cases he2
    rw [upd_ne n12, upd_same]
  have f02 : Fz N0 H (upd (upd H e1 (.tup [])) e2 (.tup [])) := (Fz.new he1).snoc he2
  have frx : Fr H x := f02.fr hx
  have f3 := f02.trans f2
  have f4 : Fz N0 H (upd H2 x (.ins B dx (putF "blocks" (.ref ab) [("blocks", .ref e1), ("needs", .ref e2)]))) := f3.mut frx hx2
  refine ⟨_, rfl, ab, _, rfl, .inr ⟨sT (f3.tup hab), _, rfl, x, B, dx, _, rfl, hx2, T.cB, T.nB_blocks, (by decide : 2 < 1000), _, rfl, ?_⟩⟩
  refine ss_pairs (ps := ps) ⟨vs, f4.at hl1 (fun z => z), pPN.all f4 hl2⟩ hlt hfew fun nd p H5 h1 h2 f5 h5 => ?_
  obtain ⟨ws, h6, h7⟩ := h5
  refine ⟨p, _, rfl, .inl ⟨sL h6, fun tp htp => ?_⟩⟩
  have hx5 := f5.ins (upd_same (H := H2) (a := x))
  have f6 : Fz N0 H (upd H5 tp (.tup ws)) := (f4.trans f5).snoc htp
  have hx6 := (Fz.new (T := N0) (o := .tup ws) htp).ins hx5
  refine ⟨_, rfl, x, B, dx, _, rfl, hx6, T.cB, T.nB_needs, (by decide : 2 < 1000), _, rfl, ?_⟩
  have f7 : Fz N0 H (upd (upd H5 tp (.tup ws)) x (.ins B dx (putF "needs" (.ref tp) (putF "blocks" (.ref ab) [("blocks", .ref e1), ("needs", .ref e2)])))) := f6.mut frx hx6
  have hne : tp ≠ x := fun z => by rw [z, hx5] at htp; cases htp
  have fl : Fz N0 (upd H5 tp (.tup ws)) (upd (upd H5 tp (.tup ws)) x (.ins B dx (putF "needs" (.ref tp) (putF "blocks" (.ref ab) [("blocks", .ref e1), ("needs", .ref e2)])))) → True := fun _ => trivial
  have hp7 : Paired (PN (upd (upd H5 tp (.tup ws)) x (.ins B dx (putF "needs" (.ref tp) (putF "blocks" (.ref ab) [("blocks", .ref e1), ("needs", .ref e2)]))))) ws nd := by
    have h8 := pPN.all (Fz.new (T := N0) (o := .tup ws) htp) h7
    refine L2.Paired.mapP h8 fun v y r => ?_
    obtain ⟨a, u, w, e, ha, r1, r2⟩ := r
    exact ⟨a, u, w, e, by rw [upd_ne fun z => by rw [z, hx6] at ha; cases ha]; exact ha, r1, r2⟩
  refine q nd _ _ h1 h2 f7 ⟨x, dx, _, _, rfl, upd_same, pTN.go f7 hb, tp, ws, rfl, by rw [upd_ne hne, upd_same], hp7⟩
/- blocks_of -/
abbrev s_blocks_of : Stmt := topS 24
abbrev N_blocks_of : List Str := ["book"]
theorem sc_blocks_of : FnScope N_blocks_of ["book"] (C8.fnScope s_blocks_of) := C8.fnScope_by (by decide +kernel)
def sp_blocks_of (B : Addr) : Sp := fun vs H Q _ => ∃ v bs nd, vs = [v] ∧ IsB B H v bs nd ∧ bs.length < 64 ∧ ∀ (ms : List Nat) v' H', ms.Pairwise (· < ·) → (∀ k, k ∈ ms ↔ k ∈ bs) → Fz N0 H H' → TN H' v' ms → Q v' H'
theorem ok_blocks_of (T : Tx K mg B W c) : C8.Cal P w K mg base 2 "blocks_of" (sp_blocks_of B) [] := by
  refine calD T.d_blocks_of sc_blocks_of (fun vs H Q E ⟨_, _, _, h, _⟩ => by rw [h]; rfl) fun f cdv A outer s H vs Q E hr h => ?_
  obtain ⟨v, bs, nd, rfl, ⟨x, dx, vb, vn, rfl, hx, hb, hn⟩, hz, q⟩ := h
  refine ⟨_, (pss_one (ps_ret (C8.pe_c (ok_lot_of T) hr (by decide) (by rfl) (pa_cons (pe_fld (pv 0) rfl) pa_nil)))), ?_⟩
  exact ⟨_, rfl, x, B, dx, _, vb, rfl, hx, T.cB, T.nB_blocks, rfl, vb, bs, rfl, hb, hz, q⟩
end
end Rw

/-! books.py: masks_beneath. -/
namespace Rw
open PySem PySem.Spec PyProof.Rows L2
section
variable {P : Program} {w : World} {K : PySem.W.Frag} {mg : Str → Option Value} {base : Heap} {B W c : Addr}
/-- a book whose needs make no ring -/
structure Bk (bs : List Nat) (nd : List (Nat × Nat)) : Prop where
  lt : ∀ p ∈ nd, p.1 < bs.length ∧ p.2 < bs.length
  acy : Acy nd
  few : bs.length < 60
  nds : nd.length ≤ 10000
abbrev s_masks_beneath : Stmt := topS 22
abbrev N_masks_beneath : List Str := ["book", "direct", "found", "change", "other"]
theorem sc_masks_beneath : FnScope N_masks_beneath ["book"] (C8.fnScope s_masks_beneath) := C8.fnScope_by (by decide +kernel)
def sp_masks_beneath (B : Addr) : Sp := fun vs H Q _ => ∃ v bs nd, vs = [v] ∧ IsB B H v bs nd ∧ Bk bs nd ∧ ∀ bn p H', BN nd bs.length bn → Fz N0 H H' → Fr H p → H' p = some (.lst (bn.map vn)) → Q (.ref p) H'
theorem ok_masks_beneath (T : Tx K mg B W c) : C8.Cal P w K mg base 3 "masks_beneath" (sp_masks_beneath B) [] := by
  refine calD T.d_masks_beneath sc_masks_beneath (fun vs H Q E ⟨_, _, _, h, _⟩ => by rw [h]; rfl) fun f cdv A outer s H vs Q E hr h => ?_
  obtain ⟨v, bs, nd, rfl, hbk, bk, q⟩ := h
  obtain ⟨x, dx, vb, vnn, rfl, hx, hb, hn⟩ := id hbk
  obtain ⟨ab, rfl, hab⟩ := tn_iff.mp hb
  have few := bk.few
  refine ⟨_, (pss_cons (ps_set (i := 1) sc_masks_beneath.nd rfl (.inl rfl) (C8.pe_c (ok_needed T) hr (by decide) (by rfl) (pa_cons (pe_callB call_len_seq (by rfl) T.z_len PySem.boot_len (pa_cons (pe_fld (pv 0) rfl) pa_nil)) (pa_cons (pe_fld (pv 0) rfl) pa_nil))))
      (pss_cons (ps_set (i := 2) sc_masks_beneath.nd rfl (.inl rfl) (pe_op op_rep (pe_lst (pa_cons pe_int pa_nil)) (pe_callB call_len_seq (by rfl) T.z_len PySem.boot_len (pa_cons (pe_fld (pv 0) rfl) pa_nil))))
      (pss_cons (ps_for PassesOwn.never rfl (pi_list (C8.pe_c (ok_order_of T) hr (by decide) (by rfl) (pa_cons (pe_callB call_len_seq (by rfl) T.z_len PySem.boot_len (pa_cons (pe_fld (pv 0) rfl) pa_nil)) (pa_cons (pe_fld (pv 0) rfl) pa_nil)))) (pg_name (i := 3) sc_masks_beneath.nd rfl (.inl rfl))
        (pss_one (ps_for PassesOwn.never rfl (pi_list (pe_ix ix_list (pv 1) (pv 3) (fun _ _ => rfl))) (pg_name (i := 4) sc_masks_beneath.nd rfl (.inl rfl))
          (pss_one (ps_augS (pv 2) (pv 3) get_list (pe_op op_orN (pe_ix ix_list (pv 2) (pv 4) (fun _ _ => rfl)) (pe_op op_shl1 pe_int (pv 4))) ip_or set_list)))))
      (pss_one (ps_ret (pv 2)))))), ?_⟩
  refine ⟨_, rfl, x, B, dx, _, _, rfl, hx, T.cB, T.nB_blocks, rfl, ab, _, rfl, .inr (sT hab), _, rfl, x, B, dx, _, vnn, rfl, hx, T.cB, T.nB_needs, rfl, bs.length, vnn, nd, by rw [List.length_map]; rfl, hn, fun p h => (bk.lt p h).1, by omega, bk.nds, fun pd H2 f2 n2 => ?_⟩
  refine ⟨by decide, fun l1 hl1 => ?_⟩
  have f3 : Fz N0 H (upd H2 l1 (.lst [vn 0])) := f2.snoc hl1
  have hx3 := f3.ins hx
  have hab3 := f3.tup hab
  refine ⟨_, rfl, x, B, dx, _, _, rfl, hx3, T.cB, T.nB_blocks, rfl, ab, _, rfl, .inr (sT hab3), l1, (bs.length : Int), _, rfl, by rw [List.length_map], upd_same, by omega, by omega, by
    have := sizeLine_eq
    simp
    omega, fun pf hpf => ?_⟩
  have er : (List.replicate ((bs.length : Nat) : Int).toNat [V.int 0]).flatten = (List.replicate bs.length 0).map vn := by
    rw [Int.toNat_natCast, List.map_replicate]
    induction bs.length with
    | zero => rfl
    | succ n ih => rw [List.replicate_succ, List.replicate_succ, List.flatten_cons, ih]; rfl
  rw [er]
  have f4 : Fz N0 H (upd (upd H2 l1 (.lst [vn 0])) pf (.lst ((List.replicate bs.length 0).map vn))) := f3.snoc hpf
  have hpf4 : (upd (upd H2 l1 (.lst [vn 0])) pf (.lst ((List.replicate bs.length 0).map vn))) pf = some (.lst ((List.replicate bs.length 0).map vn)) := upd_same
  have n3 : NL (fun z => Fr H z ∧ z ≠ pf) (upd (upd H2 l1 (.lst [vn 0])) pf (.lst ((List.replicate bs.length 0).map vn))) pd ((List.range bs.length).map (needL nd)) := ((n2.fz0 (Fz.new (T := N0) (o := .lst [vn 0]) hl1)).ne hpf).fz0 (Fz.new hpf)
  have frf : Fr H pf := f3.fr hpf
  generalize upd (upd H2 l1 (.lst [vn 0])) pf (.lst ((List.replicate bs.length 0).map vn)) = H4 at f4 hpf4 n3
  have hx4 := f4.ins hx
  have hab4 := f4.tup hab
  have hn4 := pNP.go f4 hn
  refine ⟨_, rfl, x, B, dx, _, _, rfl, hx4, T.cB, T.nB_blocks, rfl, ab, _, rfl, .inr (sT hab4), _, rfl, x, B, dx, _, vnn, rfl, hx4, T.cB, T.nB_needs, rfl, bs.length, vnn, nd, by rw [List.length_map]; rfl, hn4, bk.lt, bk.acy, by omega, bk.nds, fun o po H5 ht f5 frp ho => ?_⟩
  have hpf5 := f5.at hpf4 fun z => z
  have n5 := n3.fz0 f5
  have npo : po ≠ pf := frp.ne' hpf4
  have bl := BO.init nd bs.length
  refine ⟨po, rfl, ⟨_, sL ho⟩, for_it (walk_list (K := K) (a := po) (xs := o.map vn)) (fun i σ Hc => ∃ (bn : List Nat) (u3 u4 : Option V), σ = [some (.ref x), some (.ref pd), some (.ref pf), u3, u4] ∧ Fz N0 H Hc ∧ Fz (· = pf) H5 Hc ∧ Hc pf = some (.lst (bn.map vn)) ∧ BO nd bs.length (o.take i) bn)
    ⟨_, _, _, rfl, f4.trans f5, .refl, hpf5, bl⟩ (fun i σ Hc _ q => by
      obtain ⟨_, _, _, _, _, q5, _⟩ := q
      exact sL (q5.at ho npo)) ?_ ?_⟩
  · rintro i y σ Hx H1 hi ⟨bn, u3, u4, rfl, f1, f15, hl, bo⟩ ⟨rfl, hy⟩
    obtain ⟨c, hc, rfl⟩ := vn_get' hy
    obtain ⟨hcm, hcd, hcn, htk⟩ := ht.at hc
    obtain ⟨ps2, z, y1, y2, y3, y4, y5, _⟩ := n5.get (range_get (f := needL nd) hcm)
    have npd : ¬ pd = pf := by
      obtain ⟨_, _, _, _, q4, _⟩ := n5
      exact q4.2
    refine ⟨_, rfl, _, rfl, pd, _, (c : Int), _, rfl, rfl, sL (f15.at y1 npd), atN y2, z, rfl, ⟨_, sL (f15.at y3 y4.2)⟩, for_it (walk_list (K := K) (a := z) (xs := (needL nd c).map vn)) (fun j σ Hc => ∃ (bn : List Nat) (u4 : Option V), σ = [some (.ref x), some (.ref pd), some (.ref pf), some (vn c), u4] ∧ Fz N0 H Hc ∧ Fz (· = pf) H5 Hc ∧ Hc pf = some (.lst (bn.map vn)) ∧ BJ nd bs.length (o.take i) c ((needL nd c).take j) bn)
      ⟨bn, _, rfl, f1, f15, hl, bo.turn hcd⟩ (fun i σ Hc _ q => by
        obtain ⟨_, _, _, _, q5, _⟩ := q
        exact sL (q5.at y3 y4.2)) ?_ ?_⟩
    · rintro j y σ Hx H2 hj ⟨bn, u4, rfl, f2, f25, hl, bj⟩ ⟨rfl, hy⟩
      obtain ⟨d, hd, rfl⟩ := vn_get' hy
      have hdd := hcn d (List.mem_of_getElem? hd)
      have hdm := (bk.lt _ (mem_needL.mp (List.mem_of_getElem? hd))).2
      obtain ⟨xv, yv, e1, e2, bj2⟩ := bj.step hcm hdm hcd hdd
      have hcl : c < bn.length := by rw [bj.len]; exact hcm
      refine ⟨_, rfl, _, rfl, pf, _, c, vn xv, rfl, rfl, hl, vn_get e1, _, rfl, _, rfl, pf, _, (d : Int), vn yv, rfl, rfl, sL hl, atN (vn_get e2), _, rfl, d, rfl, rfl, by omega, yv, _, rfl, rfl, xv, _, rfl, rfl, pf, _, (c : Int), c, rfl, rfl, hl, ixN_nat (by rw [List.length_map]; exact hcl), bn.set c (xv ||| (yv ||| 2 ^ d)), _, rfl, f2.mut frf hl, f25.put hpf5 hl rfl, ?_, ?_⟩
      · rw [upd_same, List.map_set]
      · rw [take_succ_get hd]
        exact bj2
    · rintro σ Hc ⟨bn, u4, rfl, f2, f25, hl, bj⟩
      rw [List.length_map, List.take_length] at bj
      refine ⟨bn, _, _, rfl, f2, f25, hl, ?_⟩
      rw [htk]
      exact bj.fin
  · rintro σ Hc ⟨bn, u3, u4, rfl, f1, f15, hl, bo⟩
    rw [List.length_map, List.take_length] at bo
    exact ⟨_, rfl, q bn pf Hc (bo.done ht) f1 frf hl⟩
end
end Rw

/-! standings.py: World. -/
namespace Rw
open PySem PySem.Spec PyProof.Rows L2
section
variable {P : Program} {w : World} {K : PySem.W.Frag} {mg : Str → Option Value} {base : Heap} {B W c : Addr}
/-- a World -/
def IsW (W : Addr) (H : Hp) (v : V) (bs bn ms : List Nat) : Prop := ∃ x dx pb pl pw kvs, v = .ref x ∧ H x = some (.ins W dx [("many", vn bs.length), ("beneath", .ref pb), ("blocks", .ref pl), ("within", .ref pw), ("all", vn (2 ^ bs.length - 1))]) ∧
  H pb = some (.lst (bn.map vn)) ∧ H pl = some (.tup (ms.map vn)) ∧ H pw = some (.dK kvs) ∧ ∀ b ∈ ms, valV kvs (.inl (b : Int)) = some (vn (own bs b))
theorem IsW.fz {H H' : Hp} {v : V} {bs bn ms : List Nat} (h : IsW W H v bs bn ms) (f : Fz N0 H H') : IsW W H' v bs bn ms := by
  obtain ⟨x, dx, pb, pl, pw, kvs, e, h1, h2, h3, h4, h5⟩ := h
  exact ⟨x, dx, pb, pl, pw, kvs, e, f.ins h1, f.at h2 fun z => z, f.tup h3, f.dK h4, h5⟩
/- World.__init__ -/
abbrev s_World___init__ : Stmt := inClass (topS 27) 0
abbrev N_World___init__ : List Str := ["self", "book", "change", "block"]
theorem sc_World___init__ : FnScope N_World___init__ ["self", "book"] (C8.fnScope s_World___init__) := C8.fnScope_by (by decide +kernel)
def sp_World_init (B W : Addr) : Sp := fun vs H Q _ => ∃ (H1 : Hp) (x dx : Addr) (vb : V) (bs : List Nat) (nd : List (Nat × Nat)), vs = [.ref x, vb] ∧ H = upd (upd H1 dx (.own x)) x (.ins W dx []) ∧ H1 x = none ∧ H1 dx = none ∧ dx ≠ x ∧ IsB B H1 vb bs nd ∧ Bk bs nd ∧
  ∀ H' bn ms, Fz N0 H1 H' → BN nd bs.length bn → Srt ms bs → IsW W H' (.ref x) bs bn ms → Q .non H'
theorem mk_World (T : Tx K mg B W c) : C8.Mak P w K mg base 4 "World" W (sp_World_init B W) [] := by
  refine makD T.k_World sc_World___init__ (fun vs H Q E ⟨_, _, _, _, _, _, h, _⟩ => by rw [h]; rfl) fun f cdv A outer s H vs Q E hr h => ?_
  obtain ⟨H1, x, dx, vb, bs, nd, rfl, rfl, hx, hdx, ndx, hbk, bk, q⟩ := h
  obtain ⟨b, dxb, vbb, vnn, rfl, hb, hbb, hn⟩ := id hbk
  obtain ⟨ab, rfl, hab⟩ := tn_iff.mp hbb
  have few := bk.few
  refine ⟨_, (pss_cons (ps_fld (pv 0) (pe_callB call_len_seq (by rfl) T.z_len PySem.boot_len (pa_cons (pe_fld (pv 1) rfl) pa_nil)) rfl)
      (pss_cons (ps_fld (pv 0) (C8.pe_c (ok_masks_beneath T) hr (by decide) (by rfl) (pa_cons (pv 1) pa_nil)) rfl)
      (pss_cons (ps_fld (pv 0) (C8.pe_c (ok_blocks_of T) hr (by decide) (by rfl) (pa_cons (pv 1) pa_nil)) rfl)
      (pss_cons (ps_fld (pv 0) (pe_dc (own := [("block", 3)]) (by rfl) sc_World___init__.nd (pi_tup (pe_fld (pv 0) rfl)) (blkOk_by (own := [("block", 3)]) (N := N_World___init__) (sc := C8.fnScope s_World___init__) (by decide +kernel)) (fun _ _ _ _ _ => (pg_name (i := 3) sc_World___init__.nd rfl (.inl rfl))) (fun _ _ _ _ _ => pts_nil) (fun _ _ _ _ _ => (pv 3)) (fun _ _ _ _ _ => pe_int)) rfl)
      (pss_cons (ps_for PassesOwn.never rfl (pi_enumT (by rfl) T.z_enumerate (pa_cons (pe_fld (pv 1) rfl) pa_nil)) (pg_tup rfl (pgs_cons (pg_name (i := 2) sc_World___init__.nd rfl (.inl rfl)) (pgs_cons (pg_name (i := 3) sc_World___init__.nd rfl (.inl rfl)) pgs_nil)))
        (pss_one (ps_daug (hu_of hr) (pe_fld (pv 0) rfl) (pv 3) (pe_op op_shl1 pe_int (pv 2)) in_or (fun _ _ _ => rfl))))
      (pss_one (ps_fld (pv 0) (pe_op op_sub (pe_op op_shl1 pe_int (pe_fld (pv 0) rfl)) pe_int) rfl))))))), ?_⟩
  have f1 : Fz N0 H1 (upd (upd H1 dx (.own x)) x (.ins W dx [])) := (Fz.new hdx).snoc (by rw [upd_ne ndx.symm]; exact hx)
  have hx1 : (upd (upd H1 dx (.own x)) x (.ins W dx [])) x = some (.ins W dx []) := upd_same
  have frx : Fr H1 x := .inl hx
  generalize upd (upd H1 dx (.own x)) x (.ins W dx []) = H at f1 hx1
  -- many
  refine ⟨_, rfl, b, B, dxb, _, _, rfl, f1.ins hb, T.cB, T.nB_blocks, rfl, ab, _, rfl, .inr (sT (f1.tup hab)), _, rfl, x, W, dx, _, rfl, hx1, T.cW, T.nW_many, (by decide : 0 < 1000), ?_⟩
  rw [List.length_map]
  have f2 : Fz N0 H1 (upd H x (.ins W dx (putF "many" (vn bs.length) []))) := f1.mut frx hx1
  have hx2 : (upd H x (.ins W dx (putF "many" (vn bs.length) []))) x = some (.ins W dx [("many", vn bs.length)]) := upd_same
  generalize upd H x (.ins W dx (putF "many" (vn bs.length) [])) = H2 at f2 hx2
  -- beneath
  refine ⟨_, rfl, _, bs, nd, rfl, hbk.fz f2, bk, fun bn pb H3 hbn f3 frb hpb => ⟨_, rfl, x, W, dx, _, rfl, f3.ins hx2, T.cW, T.nW_beneath, (by decide : 1 < 1000), ?_⟩⟩
  have nbx : pb ≠ x := frb.ne' hx2
  have f4 : Fz N0 H1 (upd H3 x (.ins W dx (putF "beneath" (.ref pb) [("many", vn bs.length)]))) := (f2.trans f3).mut frx (f3.ins hx2)
  have hx4 : (upd H3 x (.ins W dx (putF "beneath" (.ref pb) [("many", vn bs.length)]))) x = some (.ins W dx [("many", vn bs.length), ("beneath", .ref pb)]) := upd_same
  have hpb4 : (upd H3 x (.ins W dx (putF "beneath" (.ref pb) [("many", vn bs.length)]))) pb = some (.lst (bn.map vn)) := by rw [upd_ne nbx]; exact hpb
  generalize upd H3 x (.ins W dx (putF "beneath" (.ref pb) [("many", vn bs.length)])) = H4 at f4 hx4 hpb4
  -- blocks
  refine ⟨_, rfl, _, bs, nd, rfl, hbk.fz f4, by omega, fun ms v' H5 hs1 hs2 f5 hms => ?_⟩
  obtain ⟨pl, rfl, hpl⟩ := tn_iff.mp hms
  have sms : Srt ms bs := ⟨hs1, hs2⟩
  have lms := sms.len
  refine ⟨_, rfl, x, W, dx, _, rfl, f5.ins hx4, T.cW, T.nW_blocks, (by decide : 2 < 1000), ?_⟩
  have nlx : pl ≠ x := fun z => by
    have := f5.ins hx4
    rw [← z, hpl] at this
    cases this
  have f6 : Fz N0 H1 (upd H5 x (.ins W dx (putF "blocks" (.ref pl) [("many", vn bs.length), ("beneath", .ref pb)]))) := (f4.trans f5).mut frx (f5.ins hx4)
  have hx6 : (upd H5 x (.ins W dx (putF "blocks" (.ref pl) [("many", vn bs.length), ("beneath", .ref pb)]))) x = some (.ins W dx [("many", vn bs.length), ("beneath", .ref pb), ("blocks", .ref pl)]) := upd_same
  have hpb6 : (upd H5 x (.ins W dx (putF "blocks" (.ref pl) [("many", vn bs.length), ("beneath", .ref pb)]))) pb = some (.lst (bn.map vn)) := by rw [upd_ne nbx]; exact f5.at hpb4 fun z => z
  have hpl6 : (upd H5 x (.ins W dx (putF "blocks" (.ref pl) [("many", vn bs.length), ("beneath", .ref pb)]))) pl = some (.tup (ms.map vn)) := by rw [upd_ne nlx]; exact hpl
  generalize upd H5 x (.ins W dx (putF "blocks" (.ref pl) [("many", vn bs.length), ("beneath", .ref pb)])) = H6 at f6 hx6 hpb6 hpl6
  -- within: nought for each
  refine ⟨_, rfl, x, W, dx, _, _, rfl, hx6, T.cW, T.nW_blocks, rfl, pl, rfl, ⟨_, sT hpl6⟩, fun D hD => dc_tup (K := K) (a := pl) (xs := ms.map vn) (fun i H => ∃ kvs, Fz N0 H6 H ∧ H D = some (.dK kvs) ∧ kvs.length ≤ i ∧ ∀ y ∈ ms.take i, valV kvs (.inl (y : Int)) = some (vn 0)) ⟨[], .new hD, upd_same, Nat.le_refl _, fun y h => by simp at h⟩ (fun i H _ ⟨_, h, _⟩ => sT (h.tup hpl6)) (fun i y H hy ⟨kvs, g1, g2, g3, g4⟩ => ?_) fun H7 ⟨kvs, g1, g2, g3, g4⟩ => ?_⟩
  · obtain ⟨n, hn, rfl⟩ := vn_get' hy
    have hi := (List.getElem?_eq_some_iff.mp hn).1
    have l3 := length_putK kvs (.inl (n : Int)) (V.int 0)
    refine ⟨rfl, _, rfl, kvs, .inl (n : Int), rfl, g2, szl (by omega), _, g1.mut (.inl hD) g2, upd_same, by omega, fun z hz => ?_⟩
    rw [take_succ_get hn, List.mem_append, List.mem_singleton] at hz
    rw [valV_put]
    by_cases e : (Sum.inl (z : Int) : Key) = Sum.inl (n : Int)
    · rw [if_pos e]
      rfl
    · rw [if_neg e]
      rcases hz with hz | hz
      · exact g4 z hz
      · exact absurd (by rw [hz]) e
  rw [List.length_map, List.take_length] at *
  have hx7 := g1.ins hx6
  have nDx : D ≠ x := (Fr.of hD).ne' hx6
  refine ⟨_, rfl, x, W, dx, _, rfl, hx7, T.cW, T.nW_within, (by decide : 3 < 1000), ?_⟩
  have f8 : Fz N0 H1 (upd H7 x (.ins W dx (putF "within" (.ref D) [("many", vn bs.length), ("beneath", .ref pb), ("blocks", .ref pl)]))) := (f6.trans g1).mut frx hx7
  have hx8 : (upd H7 x (.ins W dx (putF "within" (.ref D) [("many", vn bs.length), ("beneath", .ref pb), ("blocks", .ref pl)]))) x = some (.ins W dx [("many", vn bs.length), ("beneath", .ref pb), ("blocks", .ref pl), ("within", .ref D)]) := upd_same
  have hpb8 : (upd H7 x (.ins W dx (putF "within" (.ref D) [("many", vn bs.length), ("beneath", .ref pb), ("blocks", .ref pl)]))) pb = some (.lst (bn.map vn)) := by rw [upd_ne nbx]; exact g1.at hpb6 fun z => z
  have hpl8 : (upd H7 x (.ins W dx (putF "within" (.ref D) [("many", vn bs.length), ("beneath", .ref pb), ("blocks", .ref pl)]))) pl = some (.tup (ms.map vn)) := by rw [upd_ne nlx]; exact g1.tup hpl6
  have hD8 : (upd H7 x (.ins W dx (putF "within" (.ref D) [("many", vn bs.length), ("beneath", .ref pb), ("blocks", .ref pl)]))) D = some (.dK kvs) := by rw [upd_ne nDx]; exact g2
  have npD : pb ≠ D := fun z => by rw [z, hD] at hpb6; cases hpb6
  have nlD : pl ≠ D := fun z => by rw [z, hD] at hpl6; cases hpl6
  have frD : Fr H1 D := f6.fr hD
  generalize upd H7 x (.ins W dx (putF "within" (.ref D) [("many", vn bs.length), ("beneath", .ref pb), ("blocks", .ref pl)])) = H8 at f8 hx8 hpb8 hpl8 hD8
  refine ⟨_, rfl, b, B, dxb, _, _, rfl, f8.ins hb, T.cB, T.nB_blocks, rfl, ab, _, rfl, sT (f8.tup hab), for_it (walk_enumT (K := K) (a := ab) (xs := bs.map vn)) (fun i σ Hc => ∃ (kvs : List (Key × V)) (u2 u3 : Option V), σ = [some (.ref x), some (.ref b), u2, u3] ∧ Fz N0 H1 Hc ∧ Hc x = some (.ins W dx [("many", vn bs.length), ("beneath", .ref pb), ("blocks", .ref pl), ("within", .ref D)]) ∧ Hc pb = some (.lst (bn.map vn)) ∧ Hc pl = some (.tup (ms.map vn)) ∧ Hc D = some (.dK kvs) ∧ kvs.length ≤ 60 + i ∧ ∀ y ∈ ms, valV kvs (.inl (y : Int)) = some (vn (pick (fun c => bs[c]? == some y) (List.range i))))
    ⟨kvs, _, _, rfl, f8, hx8, hpb8, hpl8, hD8, by omega, g4⟩ (fun i σ Hc _ q => by
      obtain ⟨_, _, _, _, q5, _⟩ := q
      exact sT (q5.tup hab)) ?_ ?_⟩
  · rintro i y σ Hc H' hi ⟨kvs, u2, u3, rfl, j1, j2, j3, j4, j5, j6, j7⟩ ⟨p, a1, a2, rfl, hp, rfl, ea, eb⟩
    obtain rfl := Option.some.inj ea
    obtain ⟨n, hn, rfl⟩ := vn_get' eb
    have fn : Fz N0 Hc (upd Hc p (.tup [.int (i : Nat), vn n])) := .new hp
    have k1 := j1.trans fn
    have k2 := fn.ins j2
    have k3 := fn.at j3 fun z => z
    have k4 := fn.tup j4
    have k5 := fn.dK j5
    rw [List.length_map] at hi
    have hmn : n ∈ ms := (hs2 n).mpr (List.mem_of_getElem? hn)
    refine ⟨p, _, rfl, sT upd_same, rfl, _, _, rfl, _, _, rfl, rfl, ?_⟩
    have l3 := length_putK kvs (.inl (n : Int)) (vn (pick (fun c => bs[c]? == some n) (List.range i) ||| 2 ^ i))
    refine ⟨_, rfl, x, W, dx, _, _, rfl, k2, T.cW, T.nW_within, rfl, _, rfl, D, _, rfl, DGn k5 (j7 n hmn), _, rfl, i, rfl, rfl, by omega, _, _, rfl, rfl, _, DPn n _ k5 (by omega), putK kvs (.inl (n : Int)) (vn (pick (fun c => bs[c]? == some n) (List.range i) ||| 2 ^ i)), _, _, rfl, k1.mut frD k5, by rw [upd_ne nDx.symm]; exact k2, by rw [upd_ne npD]; exact k3, by rw [upd_ne nlD]; exact k4, upd_same, by omega, fun y hy => ?_⟩
    rw [vput, List.range_succ, pick_snoc, hn]
    by_cases e : y = n
    · subst e
      rw [if_pos rfl, if_pos (by simp)]
    · rw [if_neg e, if_neg (by simp; exact fun z => e z.symm)]
      exact j7 y hy
  · rintro σ Hc ⟨kvs, u2, u3, rfl, j1, j2, j3, j4, j5, j6, j7⟩
    rw [List.length_map] at j7
    refine ⟨_, rfl, x, W, dx, _, _, rfl, j2, T.cW, T.nW_many, rfl, bs.length, rfl, rfl, by omega, ((2 ^ bs.length : Nat) : Int), 1, rfl, rfl, _, rfl, x, W, dx, _, rfl, j2, T.cW, T.nW_all, (by decide : 4 < 1000), q _ bn ms (j1.mut frx j2) hbn sms ⟨x, dx, pb, pl, D, kvs, rfl, ?_, ?_, ?_, ?_, j7⟩⟩
    · rw [upd_same]
      have hp := Nat.two_pow_pos bs.length
      have e : V.int (((2 ^ bs.length : Nat) : Int) - 1) = vn (2 ^ bs.length - 1) := by
        show V.int _ = V.int _
        congr 1
        omega
      rw [← e]
      rfl
    · rw [upd_ne nbx]; exact j3
    · rw [upd_ne nlx]; exact j4
    · rw [upd_ne nDx]; exact j5
end
end Rw

/-! standings.py: brought, ripe. -/
namespace Rw
open PySem PySem.Spec PyProof.Rows L2
section
variable {P : Program} {w : World} {K : PySem.W.Frag} {mg : Str → Option Value} {base : Heap} {B W c : Addr}
/-- what a World is good for -/
structure Gw (bs bn ms : List Nat) : Prop where
  len : bn.length = bs.length
  few : bs.length < 60
  srt : Srt ms bs
/- World.brought -/
abbrev s_World_brought : Stmt := inClass (topS 27) 1
abbrev N_World_brought : List Str := ["self", "standing", "block", "found", "own", "change"]
theorem sc_World_brought : FnScope N_World_brought ["self", "standing", "block"] (C8.fnScope s_World_brought) := C8.fnScope_by (by decide +kernel)
def sp_brought (W : Addr) : Sp := fun vs H Q _ => ∃ (v : V) (S b : Nat) (bs bn ms : List Nat), vs = [v, vn S, vn b] ∧ IsW W H v bs bn ms ∧ b ∈ ms ∧ Gw bs bn ms ∧ ∀ H', Fz N0 H H' → Q (vn (brW bs bn S b)) H'
theorem ok_World_brought (T : Tx K mg B W c) : C8.Met P w K mg base 2 W "brought" (sp_brought W) [] := by
  refine metD T.m_World_brought sc_World_brought (fun vs H Q E ⟨_, _, _, _, _, _, h, _⟩ => by rw [h]; rfl) fun f cdv A outer s H vs Q E hr h => ?_
  obtain ⟨v, S, b, bs, bn, ms, rfl, ⟨x, dx, pb, pl, pw, kvs, rfl, hx, hpb, hpl, hpw, hv⟩, hb, g, q⟩ := h
  have few := g.few
  refine ⟨_, (pss_cons (ps_set (i := 3) sc_World_brought.nd rfl (.inl rfl) pe_int)
      (pss_cons (ps_set (i := 4) sc_World_brought.nd rfl (.inl rfl) (pe_dget (hu_of hr) (pe_fld (pv 0) rfl) (pv 2) (fun _ _ => rfl)))
      (pss_cons (ps_for PassesOwn.never rfl (pi_tup (C8.pe_c (ok_lot_of_mask T) hr (by decide) (by rfl) (pa_cons (pe_op op_andX (pv 4) (pe_un un_inv (pv 1))) pa_nil))) (pg_name (i := 5) sc_World_brought.nd rfl (.inl rfl))
        (pss_one (ps_if (pt_cmpR op_eq (pe_op op_andX (pe_ix ix_list (pe_fld (pv 0) rfl) (pv 5) (fun _ _ => rfl)) (pe_un un_inv (pe_op op_orN (pv 1) (pv 4)))) pe_int (nomark _))
          (pss_one (ps_aug (i := 3) sc_World_brought.nd rfl (.inl rfl) (pe_op op_shl1 pe_int (pv 5)) ip_or))
          pss_nil)))
      (pss_one (ps_ret (pv 3)))))), ?_⟩
  have ow : own bs b < 2 ^ 64 := Nat.lt_of_lt_of_le own_lt (Nat.pow_le_pow_right (by decide) (by omega))
  refine ⟨_, rfl, x, W, dx, _, _, rfl, hx, T.cW, T.nW_within, rfl, _, rfl, pw, _, rfl, DGn hpw (hv b hb), ?_⟩
  refine ⟨_, rfl, _, rfl, S, rfl, own bs b, S, rfl, rfl, nand (own bs b) S, rfl, Nat.lt_of_le_of_lt (nand_le _ _) ow, fun v' H2 f2 ht => ?_⟩
  obtain ⟨l, rfl, hl⟩ := tn_iff.mp ht
  refine ⟨l, rfl, ⟨_, sT hl⟩, for_it (walk_tup (K := K) (a := l) (xs := (lotM (nand (own bs b) S)).map vn)) (fun i σ Hc => ∃ u, σ = [some (.ref x), some (vn S), some (vn b), some (vn (pick (fun c => nand (bn.getD c 0) (S ||| own bs b) == 0) ((lotM (nand (own bs b) S)).take i))), some (vn (own bs b)), u] ∧ Hc = H2) ⟨_, rfl, rfl⟩ (fun i σ Hc _ z => by obtain ⟨_, _, rfl⟩ := z; exact sT hl) ?_ ?_⟩
  · rintro i y σ Hx H1 hi ⟨u, rfl, rfl⟩ ⟨rfl, hy⟩
    obtain ⟨c, hc, rfl⟩ := vn_get' hy
    have hcb := own_bit.mp ((nand_bits.mp (mem_lotM.mp (List.mem_of_getElem? hc))).1)
    have hcn : c < bn.length := by rw [g.len]; exact (List.getElem?_eq_some_iff.mp hcb).1
    have e1 : bn[c]? = some (bn.getD c 0) := by rw [List.getElem?_eq_getElem hcn, List.getD_eq_getElem?_getD, List.getElem?_eq_getElem hcn]; rfl
    refine ⟨_, rfl, x, W, dx, _, _, rfl, f2.ins hx, T.cW, T.nW_beneath, rfl, _, rfl, pb, _, (c : Int), _, rfl, rfl, sL (f2.at hpb fun z => z), atN (vn_get e1), _, rfl, _, rfl, S, own bs b, rfl, rfl, S ||| own bs b, rfl, bn.getD c 0, S ||| own bs b, rfl, rfl, rfl, _, rfl, ?_⟩
    rw [take_succ_get hc, pick_snoc, show V.int 0 = vn 0 from rfl, dvn]
    by_cases h0 : nand (bn.getD c 0) (S ||| own bs b) = 0
    · rw [h0, if_pos (by rfl)]
      exact ⟨_, rfl, _, rfl, c, rfl, rfl, by have := g.len; omega, _, _, rfl, rfl, _, rfl, rfl⟩
    · rw [decide_eq_false h0, if_neg (by simpa using h0)]
      exact ⟨_, rfl, rfl⟩
  · rintro σ Hc ⟨u, rfl, rfl⟩
    rw [List.length_map, List.take_length]
    exact ⟨_, rfl, q _ f2⟩
/- World.ripe -/
abbrev s_World_ripe : Stmt := inClass (topS 27) 2
abbrev N_World_ripe : List Str := ["self", "standing", "block"]
theorem sc_World_ripe : FnScope N_World_ripe ["self", "standing"] (C8.fnScope s_World_ripe) := C8.fnScope_by (by decide +kernel)
def sp_ripe (W : Addr) : Sp := fun vs H Q _ => ∃ (v : V) (S : Nat) (bs bn ms : List Nat), vs = [v, vn S] ∧ IsW W H v bs bn ms ∧ Gw bs bn ms ∧ ∀ v' H', Fz N0 H H' → TN H' v' (ripeW bs bn ms S) → Q v' H'
theorem ok_World_ripe (T : Tx K mg B W c) : C8.Met P w K mg base 3 W "ripe" (sp_ripe W) [] := by
  refine metD T.m_World_ripe sc_World_ripe (fun vs H Q E ⟨_, _, _, _, _, h, _⟩ => by rw [h]; rfl) fun f cdv A outer s H vs Q E hr h => ?_
  obtain ⟨v, S, bs, bn, ms, rfl, hw, g, q⟩ := h
  obtain ⟨x, dx, pb, pl, pw, kvs, rfl, hx, hpb, hpl, hpw, hv⟩ := id hw
  have few := g.few
  have lms := g.srt.len
  refine ⟨_, (pss_one (ps_ret (pe_callTy call_tuple_of (by rfl) T.z_tuple (by decide +kernel) (pa_cons (pe_lc (own := [("block", 2)]) (by rfl) sc_World_ripe.nd (pi_tup (pe_fld (pv 0) rfl)) (blkOk_by (own := [("block", 2)]) (N := N_World_ripe) (sc := C8.fnScope s_World_ripe) (by decide +kernel)) (fun _ _ _ _ _ => (pg_name (i := 2) sc_World_ripe.nd rfl (.inl rfl))) (fun _ _ _ _ _ => (pts_one (pt_cmpR op_gt (C8.pe_mt (ok_World_brought T) hr (by decide) (pv 0) (pa_cons (pv 1) (pa_cons (pv 2) pa_nil))) pe_int (nomark _)))) (fun _ _ _ _ _ => (pv 2))) pa_nil)))), ?_⟩
  refine ⟨_, rfl, x, W, dx, _, _, rfl, hx, T.cW, T.nW_blocks, rfl, pl, rfl, ⟨_, sT hpl⟩, fun D hD => lc_det (R := RN) (walk_tup (K := K) (a := pl) (xs := ms.map vn)) pRN hD (by rw [List.length_map]; omega) (fun i => ms[i]?.bind fun b => if decide (0 < brW bs bn S b) = true then some b else none) (fun H f => sT (f.tup hpl)) (fun i y H1 H2 C Nx hi f1 hy k1 k2 => ?_) fun H2 f2 hl => ?_⟩
  · obtain ⟨rfl, hy⟩ := hy
    obtain ⟨b, hb, rfl⟩ := vn_get' hy
    refine ⟨rfl, _, rfl, x, dx, _, rfl, f1.ins hx, rfl, _, rfl, _, rfl, _, S, b, bs, bn, ms, rfl, hw.fz f1, List.mem_of_getElem? hb, g, fun H3 f3 => ⟨_, 0, rfl, rfl, _, rfl, ?_⟩⟩
    have hh : decide (((brW bs bn S b : Nat) : Int) > 0) = decide (0 < brW bs bn S b) := decide_eq_decide.mpr (by omega)
    by_cases h0 : 0 < brW bs bn S b
    · have e : decide ((0 : Int) < ((brW bs bn S b : Nat) : Int)) = true := decide_eq_true (by omega)
      rw [e]
      exact ⟨_, rfl, k1 _ _ b (by rw [hb]; exact if_pos (decide_eq_true h0)) f3 rfl⟩
    · have e : decide ((0 : Int) < ((brW bs bn S b : Nat) : Int)) = false := decide_eq_false (by omega)
      rw [e]
      exact k2 _ (by rw [hb]; exact if_neg (by simpa using h0)) f3
  · have e : (List.range (ms.map vn).length).filterMap (fun i => ms[i]?.bind fun b => if decide (0 < brW bs bn S b) = true then some b else none) = ripeW bs bn ms S := by
      rw [List.length_map, fm_get]
      unfold ripeW
      rw [← List.filterMap_eq_filter]
      congr
    rw [e] at hl
    have hl2 := ln_iff.mp hl
    exact ⟨D, _, rfl, .inl ⟨sL hl2, fun l hll => q _ _ (f2.snoc hll) (tn_iff.mpr ⟨l, rfl, upd_same⟩)⟩⟩
end
end Rw

/-! standings.py: coming. -/
namespace Rw
open PySem PySem.Spec PyProof.Rows L2
section
variable {P : Program} {w : World} {K : PySem.W.Frag} {mg : Str → Option Value} {base : Heap} {B W c : Addr}
/-- a list's pairs stay where another list or table is written -/
theorem PN.upd {H : Hp} {p : Addr} {o o' : HO} (hp : H p = some o) (ho : ∀ ys, o ≠ .tup ys) {v : V} {x : Nat × Nat} (r : PN H v x) : PN (upd H p o') v x := by
  obtain ⟨a, u, w, e, ha, r1, r2⟩ := r
  exact ⟨a, u, w, e, by rw [upd_ne fun z => by rw [z, hp] at ha; exact ho _ (Option.some.inj ha)]; exact ha, r1, r2⟩
theorem LLp.upd {H : Hp} {p l : Addr} {o o' : HO} {xs : List (Nat × Nat)} (h : LL PN H l xs) (hp : H p = some o) (ho : ∀ ys, o ≠ .tup ys) (n : l ≠ p) : LL PN (upd H p o') l xs := by
  obtain ⟨vs, h1, h2⟩ := h
  exact ⟨vs, by rw [upd_ne n]; exact h1, L2.Paired.mapP h2 fun v x r => PN.upd hp ho r⟩
theorem LLp.fz {H H' : Hp} {l : Addr} {xs : List (Nat × Nat)} (h : LL PN H l xs) (f : Fz N0 H H') : LL PN H' l xs := by
  obtain ⟨vs, h1, h2⟩ := h
  exact ⟨vs, f.at h1 fun z => z, pPN.all f h2⟩
theorem valV_out {kvs : List (Key × V)} {k : Key} (h : k ∉ kvs.map (·.1)) : valV kvs k = none := by
  unfold valV
  rw [List.find?_eq_none.mpr fun p hp => by
    simp only [decide_eq_true_eq]
    exact fun z => h (z ▸ List.mem_map_of_mem hp)]
  rfl
/-- keys that are numbers -/
def ky (n : Nat) : Key := .inl (n : Int)
theorem ky_inj {a b : Nat} (h : ky a = ky b) : a = b := Int.ofNat.inj (Sum.inl.inj h)
/-- the search's heap -/
structure CS (bs bn ms : List Nat) (H Hc : Hp) (pf pw pk : Addr) (f w : List Nat) (kf kk : List (Key × V)) : Prop where
  fz : Fz N0 H Hc
  hf : Hc pf = some (.dK kf)
  hw : Hc pw = some (.lst (w.map vn))
  hk : Hc pk = some (.dK kk)
  keys : kf.map (·.1) = f.map ky
  len : kk.length = f.length + w.length
  known : ∀ t : Nat, (valV kk (.inl (t : Int))).isSome = true ↔ t ∈ f ++ w
  vals : ∀ s ∈ f, ∃ l, valV kf (.inl (s : Int)) = some (.ref l) ∧ l ≠ pw ∧ LL PN Hc l (waysW bs bn ms s)
/-- the ways told: the table at d -/
def WayD (bs bn ms : List Nat) (S0 : Nat) (H : Hp) (d : Addr) (ns : List Nat) : Prop := ∃ kf, H d = some (.dK kf) ∧ kf.map (·.1) = ns.map ky ∧ ns.Nodup ∧ S0 ∈ ns ∧ (∀ s ∈ ns, Reach bs bn ms S0 s) ∧ (∀ s ∈ ns, ∀ p ∈ waysW bs bn ms s, p.2 ∈ ns) ∧
  ∀ s ∈ ns, ∃ l, valV kf (.inl (s : Int)) = some (.ref l) ∧ LL PN H l (waysW bs bn ms s)
abbrev s_World_coming : Stmt := inClass (topS 27) 3
abbrev N_World_coming : List Str := ["self", "begin", "found", "waiting", "known", "here", "block", "there"]
theorem sc_World_coming : FnScope N_World_coming ["self", "begin"] (C8.fnScope s_World_coming) := C8.fnScope_by (by decide +kernel)
def sp_coming (W : Addr) : Sp := fun vs H Q _ => ∃ (v : V) (S0 : Nat) (bs bn ms : List Nat), vs = [v, vn S0] ∧ IsW W H v bs bn ms ∧ Gw bs bn ms ∧ (∀ l : List Nat, l.Nodup → (∀ s ∈ l, Reach bs bn ms S0 s) → l.length ≤ 2000) ∧
  ∀ d H' ns, Fz N0 H H' → WayD bs bn ms S0 H' d ns → Q (.ref d) H'
theorem ok_World_coming (T : Tx K mg B W c) : C8.Met P w K mg base 4 W "coming" (sp_coming W) [] := by
  refine metD T.m_World_coming sc_World_coming (fun vs H Q E ⟨_, _, _, _, _, h, _⟩ => by rw [h]; rfl) fun f cdv A outer s H vs Q E hr h => ?_
  obtain ⟨v, S0, bs, bn, ms, rfl, hw, g, hR, q⟩ := h
  obtain ⟨x, dx, pb, pl, pw0, kvs, rfl, hx, hpb, hpl, hpw, hv⟩ := id hw
  have few := g.few
  have lms := g.srt.len
  refine ⟨_, (pss_cons (ps_set (i := 2) sc_World_coming.nd rfl (.inl rfl) pe_dnewK)
      (pss_cons (ps_set (i := 3) sc_World_coming.nd rfl (.inl rfl) (pe_lst (pa_cons (pv 1) pa_nil)))
      (pss_cons (ps_set (i := 4) sc_World_coming.nd rfl (.inl rfl) (pe_disp (pps_cons (pv 1) pe_bl pps_nil) (by rfl) (by rfl) (fun z => by cases z) (by decide)))
      (pss_cons (ps_while PassesOwn.never (pt_cmpR op_gt (pe_callB call_len_seq (by rfl) T.z_len PySem.boot_len (pa_cons (pv 3) pa_nil)) pe_int (nomark _))
        (pss_cons (ps_set (i := 5) sc_World_coming.nd rfl (.inr rfl) (pe_bm0 PySem.F.plainAttrs_list PySem.F.slot_list_pop PySem.F.type_list_pop mt_pop (pv 3)))
        (pss_cons (ps_dput (hu_of hr) (pv 2) (pv 5) (pe_lc (own := [("block", 6)]) (by rfl) sc_World_coming.nd (pi_tup (C8.pe_mt (ok_World_ripe T) hr (by decide) (pv 0) (pa_cons (pv 5) pa_nil))) (blkOk_by (own := [("block", 6)]) (N := N_World_coming) (sc := C8.fnScope s_World_coming) (by decide +kernel)) (fun _ _ _ _ _ => (pg_name (i := 6) sc_World_coming.nd rfl (.inl rfl))) (fun _ _ _ _ _ => pts_nil) (fun _ _ _ _ _ => (pe_tup (pa_cons (pv 6) (pa_cons (pe_op op_orN (pv 5) (C8.pe_mt (ok_World_brought T) hr (by decide) (pv 0) (pa_cons (pv 5) (pa_cons (pv 6) pa_nil)))) pa_nil))))) rfl)
        (pss_cons (ps_for PassesOwn.never rfl (pi_list (pe_dget (hu_of hr) (pv 2) (pv 5) (fun _ _ => rfl))) (pg_tup rfl (pgs_cons (pg_name (i := 6) sc_World_coming.nd rfl (.inl rfl)) (pgs_cons (pg_name (i := 7) sc_World_coming.nd rfl (.inl rfl)) pgs_nil)))
          (pss_one (ps_if (pt_cmp (pc_dnotin (hu_of hr) (pv 7) (pv 4)))
            (pss_cons (ps_dput (hu_of hr) (pv 4) (pv 7) pe_bl rfl)
            (pss_one (ps_expr (pe_bm PySem.F.plainAttrs_list PySem.F.slot_list_append PySem.F.type_list_append mt_append (pv 3) (pa_cons (pv 7) pa_nil)))))
            pss_nil)))
        (pss_one (ps_if (pt_cmpR op_gt (pe_callB call_lenD (by rfl) T.z_len PySem.boot_len (pa_cons (pv 4) pa_nil)) (C8.pe_gc (by rfl) T.c_MOST_STANDINGS) (nomark _))
          (pss_one ps_never)
          pss_nil))))))
      (pss_one (ps_ret (pv 2))))))), ?_⟩
  refine fun pf hpf => ⟨_, rfl, Nat.zero_lt_succ _, fun pw hpw => ?_⟩
  refine fun pk hpk => ⟨_, rfl, upd_same, [(.inl (S0 : Int), .bl true)], rfl, (by decide : 1 ≤ 15), ?_⟩
  have nfw : pf ≠ pw := fun z => by rw [← z, upd_same] at hpw; cases hpw
  have nwk : pw ≠ pk := fun z => by rw [← z, upd_same] at hpk; cases hpk
  have nfk : pf ≠ pk := fun z => by rw [← z, upd_ne nfw, upd_same] at hpk; cases hpk
  have fk : Fz N0 H (upd (upd (upd (upd H pf (.dK [])) pw (.lst [vn S0])) pk (.dK [])) pk (.dK [(.inl (S0 : Int), .bl true)])) := (((Fz.new hpf).snoc hpw).snoc hpk).mut (((Fz.new (T := N0) hpf).snoc hpw).fr hpk) upd_same
  have frf : Fr H pf := .inl hpf
  have frw : Fr H pw := (Fz.new (T := N0) hpf).fr hpw
  have frk : Fr H pk := ((Fz.new (T := N0) hpf).snoc hpw).fr hpk
  have cs0 : CS bs bn ms H (upd (upd (upd (upd H pf (.dK [])) pw (.lst [vn S0])) pk (.dK [])) pk (.dK [(.inl (S0 : Int), .bl true)])) pf pw pk [] [S0] [] [(.inl (S0 : Int), .bl true)] := by
    refine ⟨fk, by rw [upd_ne nfk, upd_ne nfk, upd_ne nfw, upd_same], by rw [upd_ne nwk, upd_ne nwk, upd_same]; rfl, upd_same, rfl, rfl, fun t => ?_, fun s h => (nomatch h)⟩
    have e := vput [] S0 t (.bl true)
    have e2 : valV [((.inl (S0 : Int) : Key), V.bl true)] (.inl (t : Int)) = if t = S0 then some (.bl true) else valV ([] : List (Key × V)) (.inl (t : Int)) := e
    rw [e2, List.nil_append, List.mem_singleton]
    by_cases h : t = S0
    · rw [if_pos h]; simp [h]
    · rw [if_neg h]; simp [h, valV_nil]
  show (tWhile _ _) _ _ (upd (upd (upd (upd H pf (.dK [])) pw (.lst [vn S0])) pk (.dK [])) pk (.dK [(.inl (S0 : Int), .bl true)]))
  generalize upd (upd (upd (upd H pf (.dK [])) pw (.lst [vn S0])) pk (.dK [])) pk (.dK [(.inl (S0 : Int), .bl true)]) = HA at cs0
  refine ⟨fun k σ Hc => ∃ (F w : List Nat) (kf kk : List (Key × V)) (u5 u6 u7 : Option V), k = 2000 - F.length ∧ σ = [some (.ref x), some (vn S0), some (.ref pf), some (.ref pw), some (.ref pk), u5, u6, u7] ∧ CS bs bn ms H Hc pf pw pk F w kf kk ∧ CM bs bn ms S0 F w [],
    ⟨_, [], [S0], _, _, none, none, none, rfl, rfl, cs0, .init⟩, ?_⟩
  rintro k σ Hc ⟨F, w, kf, kk, u5, u6, u7, rfl, rfl, cs, cm⟩
  refine ⟨_, rfl, pw, _, rfl, .inl (sL cs.hw), _, 0, rfl, rfl, _, rfl, ?_⟩
  rw [List.length_map]
  rcases List.eq_nil_or_concat w with e | ⟨w0, h, e⟩
  · subst e
    have hcl := cm.closed
    have hnd := cm.nodup
    have hre := cm.reach
    have hz := cm.zero
    rw [List.append_nil] at *
    refine ⟨_, rfl, q pf Hc F cs.fz ⟨kf, cs.hf, cs.keys, hnd, hz, hre, fun s hs p hp => ?_, fun s hs => ?_⟩⟩
    · rcases hcl s hs p hp with y | y
      · exact y
      · cases y
    · obtain ⟨l, e1, _, e2⟩ := cs.vals s hs
      exact ⟨l, e1, e2⟩
  subst e
  rw [List.concat_eq_append] at *
  have hlen := hR _ cm.nodup cm.reach
  rw [List.length_append, List.length_append, List.length_singleton] at hlen
  have hpos : decide ((0 : Int) < ((w0 ++ [h]).length : Nat)) = true := decide_eq_true (by rw [List.length_append, List.length_singleton]; omega)
  rw [if_pos hpos]
  have hF : h ∉ F := fun z => by
    have h1 := cm.nodup
    rw [List.nodup_append] at h1
    exact h1.2.2 h z h (by simp) rfl
  have cm2 := cm.pop
  have ne : ((w0 ++ [h]).map vn)[((w0 ++ [h]).map vn).length - 1]? = some (vn h) := by simp
  have dl : ((w0 ++ [h]).map vn).dropLast = w0.map vn := by simp
  refine ⟨_, fun σ' H' z => z, _, rfl, tyL cs.hw, pw, _, _, rfl, rfl, cs.hw, ne, ?_⟩
  rw [dl]
  -- behind the pop
  have fB : Fz N0 H (upd Hc pw (.lst (w0.map vn))) := cs.fz.mut frw cs.hw
  have hfB : (upd Hc pw (.lst (w0.map vn))) pf = some (.dK kf) := by rw [upd_ne nfw]; exact cs.hf
  have hwB : (upd Hc pw (.lst (w0.map vn))) pw = some (.lst (w0.map vn)) := upd_same
  have hkB : (upd Hc pw (.lst (w0.map vn))) pk = some (.dK kk) := by rw [upd_ne nwk.symm]; exact cs.hk
  have vlB : ∀ s ∈ F, ∃ l, valV kf (.inl (s : Int)) = some (.ref l) ∧ l ≠ pw ∧ LL PN (upd Hc pw (.lst (w0.map vn))) l (waysW bs bn ms s) := fun s hs => by
    obtain ⟨l, e1, e2, e3⟩ := cs.vals s hs
    exact ⟨l, e1, e2, LLp.upd e3 cs.hw (fun ys z => nomatch z) e2⟩
  generalize upd Hc pw (.lst (w0.map vn)) = HB at fB hfB hwB hkB vlB
  refine ⟨_, rfl, x, dx, _, rfl, fB.ins hx, rfl, _, rfl, _, h, bs, bn, ms, rfl, hw.fz fB, g, fun v' H2 f2 hl => ?_⟩
  obtain ⟨rl, rfl, hrl⟩ := tn_iff.mp hl
  have lrip : (ripeW bs bn ms h).length ≤ ms.length := List.length_filter_le _ _
  refine ⟨rl, rfl, ⟨_, sT hrl⟩, fun D hD => lc_det (R := PN) (walk_tup (K := K) (a := rl) (xs := (ripeW bs bn ms h).map vn)) pPN hD (by rw [List.length_map]; omega) (fun i => (ripeW bs bn ms h)[i]?.bind fun b => some (b, h ||| brW bs bn h b)) (fun H f => sT (f.tup hrl)) (fun i y H1 H3 C Nx hi f1 hy k1 k2 => ?_) fun H3 f3 hl3 => ?_⟩
  · obtain ⟨rfl, hy⟩ := hy
    obtain ⟨b, hb, rfl⟩ := vn_get' hy
    have hbm : b ∈ ms := (List.mem_filter.mp (List.mem_of_getElem? hb)).1
    have f12 := (fB.trans f2).trans f1
    refine ⟨rfl, _, rfl, _, rfl, _, rfl, x, dx, _, rfl, f12.ins hx, rfl, _, rfl, _, rfl, _, h, b, bs, bn, ms, rfl, hw.fz f12, hbm, g, fun H4 f4 => ⟨h, brW bs bn h b, rfl, rfl, sz (show 2 ≤ 100000 by decide), fun p hp => k1 _ _ (b, h ||| brW bs bn h b) (by rw [hb]; rfl) (f4.snoc hp) ⟨p, _, _, rfl, upd_same, rfl, rfl⟩⟩⟩
  have e : (List.range ((ripeW bs bn ms h).map vn).length).filterMap (fun i => (ripeW bs bn ms h)[i]?.bind fun b => some (b, h ||| brW bs bn h b)) = waysW bs bn ms h := by
    rw [List.length_map, fm_get]
    exact congrFun (List.filterMap_eq_map (f := fun b => (b, h ||| brW bs bn h b))) _
  rw [e] at hl3
  have f23 := f2.trans f3
  have hf3 := f23.dK hfB
  have hw3 := f23.at hwB fun z => z
  have hk3 := f23.dK hkB
  have kn : valV kf (.inl (h : Int)) = none := valV_out (by
    rw [cs.keys]
    intro z
    obtain ⟨y, hy, e⟩ := List.mem_map.mp z
    exact hF (ky_inj e ▸ hy))
  have lkf : kf.length = F.length := by
    have := congrArg List.length cs.keys
    rw [List.length_map, List.length_map] at this
    exact this
  have nDw : D ≠ pw := (Fr.of hD).ne' (f2.at hwB fun z => z)
  have nDf : D ≠ pf := (Fr.of hD).ne' (f2.dK hfB)
  have nDk : D ≠ pk := (Fr.of hD).ne' (f2.dK hkB)
  refine ⟨_, rfl, _, rfl, pf, _, rfl, DPn h _ hf3 (by omega), ?_⟩
  -- behind the entry
  have fC : Fz N0 H (upd H3 pf (.dK (putK kf (.inl (h : Int)) (.ref D)))) := (fB.trans f23).mut frf hf3
  have hwC : (upd H3 pf (.dK (putK kf (.inl (h : Int)) (.ref D)))) pw = some (.lst (w0.map vn)) := by rw [upd_ne nfw.symm]; exact hw3
  have hkC : (upd H3 pf (.dK (putK kf (.inl (h : Int)) (.ref D)))) pk = some (.dK kk) := by rw [upd_ne nfk.symm]; exact hk3
  have hfC : (upd H3 pf (.dK (putK kf (.inl (h : Int)) (.ref D)))) pf = some (.dK (putK kf (.inl (h : Int)) (.ref D))) := upd_same
  have vlC : ∀ s ∈ F ++ [h], ∃ l, valV (putK kf (.inl (h : Int)) (.ref D)) (.inl (s : Int)) = some (.ref l) ∧ l ≠ pw ∧ LL PN (upd H3 pf (.dK (putK kf (.inl (h : Int)) (.ref D)))) l (waysW bs bn ms s) := fun s hs => by
    rw [vput]
    by_cases hsh : s = h
    · rw [if_pos hsh, hsh]
      exact ⟨D, rfl, nDw, LLp.upd hl3 hf3 (fun ys z => nomatch z) nDf⟩
    · rw [if_neg hsh]
      have hs' : s ∈ F := by
        rcases List.mem_append.mp hs with z | z
        · exact z
        · exact absurd (List.mem_singleton.mp z) hsh
      obtain ⟨l, e1, e2, e3⟩ := vlB s hs'
      obtain ⟨vs3, g1, g2⟩ := id (LLp.fz e3 f23)
      exact ⟨l, e1, e2, LLp.upd (LLp.fz e3 f23) hf3 (fun ys z => nomatch z) fun z => by rw [z, hf3] at g1; cases g1⟩
  have kyC : (putK kf (.inl (h : Int)) (.ref D)).map (·.1) = (F ++ [h]).map ky := by
    rw [putK_new _ kn, List.map_append, List.map_append, cs.keys]
    rfl
  have csC : CS bs bn ms H (upd H3 pf (.dK (putK kf (.inl (h : Int)) (.ref D)))) pf pw pk (F ++ [h]) w0 (putK kf (.inl (h : Int)) (.ref D)) kk := by
    have hl := cs.len
    refine ⟨fC, hfC, hwC, hkC, kyC, by rw [hl]; simp; omega, fun t => ?_, vlC⟩
    rw [cs.known t]
    simp
    constructor <;> (rintro (z | z | z) <;> simp [z])
  obtain ⟨lD, hvD, hlDw, hlD⟩ := vlC h (by simp)
  rw [vput, if_pos rfl] at hvD
  obtain rfl := V.ref.inj (Option.some.inj hvD)
  generalize upd H3 pf (.dK (putK kf (.inl (h : Int)) (.ref D))) = HC at fC hwC hkC hfC vlC csC hlD
  obtain ⟨vs, hv1, hv2⟩ := id hlD
  refine ⟨_, rfl, _, rfl, pf, _, rfl, DGn hfC (by rw [vput, if_pos rfl]), D, rfl, ⟨_, sL hv1⟩, for_it (walk_list (K := K) (a := D) (xs := vs)) (fun i σ Hc => ∃ (w : List Nat) (kk : List (Key × V)) (u6 u7 : Option V), σ = [some (.ref x), some (vn S0), some (.ref pf), some (.ref pw), some (.ref pk), some (vn h), u6, u7] ∧ CS bs bn ms H Hc pf pw pk (F ++ [h]) w (putK kf (.inl (h : Int)) (.ref D)) kk ∧ Hc D = some (.lst vs) ∧ Paired (PN Hc) vs (waysW bs bn ms h) ∧ CM bs bn ms S0 (F ++ [h]) w (((waysW bs bn ms h).map (fun p : Nat × Nat => p.2)).drop i))
    ⟨w0, kk, _, _, rfl, csC, hv1, hv2, cm2⟩ (fun i σ Hc _ q => by
      obtain ⟨_, _, _, _, _, _, q5, _⟩ := q
      exact sL q5) ?_ ?_⟩
  · rintro i y σ Hx H1 hi ⟨w, kk, u6, u7, rfl, cs, hd, hp, cmi⟩ ⟨rfl, hy⟩
    obtain ⟨⟨b, t⟩, e1, a, y1, y2, rfl, ha, r1, r2⟩ := pget hp hy
    obtain rfl := show y1 = vn b from r1
    obtain rfl := show y2 = vn t from r2
    have e2 : ((waysW bs bn ms h).map (fun p : Nat × Nat => p.2))[i]? = some t := by rw [List.getElem?_map, e1]; rfl
    have ed : ((waysW bs bn ms h).map (fun p : Nat × Nat => p.2)).drop i = t :: ((waysW bs bn ms h).map (fun p : Nat × Nat => p.2)).drop (i + 1) := by
      rw [List.drop_eq_getElem_cons (List.getElem?_eq_some_iff.mp e2).1, (List.getElem?_eq_some_iff.mp e2).2]
    rw [ed] at cmi
    refine ⟨a, _, rfl, sT ha, rfl, _, _, rfl, _, _, rfl, rfl, ?_⟩
    refine ⟨_, rfl, _, rfl, pk, _, rfl, DGo t cs.hk, _, rfl, ?_⟩
    have kt := cs.known t
    have lenC := hR _ cmi.nodup cmi.reach
    rw [List.length_append] at lenC
    have lk := cs.len
    by_cases ht : t ∈ (F ++ [h]) ++ w
    · rw [kt.mpr ht]
      exact ⟨w, kk, _, _, rfl, cs, hd, hp, cmi.old ht⟩
    · have hno : (valV kk (.inl (t : Int))).isSome = false := by
        cases q : (valV kk (.inl (t : Int))).isSome with
        | false => rfl
        | true => exact absurd (kt.mp q) ht
      have hnn : valV kk (.inl (t : Int)) = none := by simpa using hno
      rw [hno]
      refine ⟨_, rfl, _, rfl, pk, _, rfl, DPn t _ cs.hk (by omega), ?_⟩
      have hk2 : (upd H1 pk (.dK (putK kk (.inl (t : Int)) (.bl true)))) pk = some (.dK (putK kk (.inl (t : Int)) (.bl true))) := upd_same
      have hw2 : (upd H1 pk (.dK (putK kk (.inl (t : Int)) (.bl true)))) pw = some (.lst (w.map vn)) := by rw [upd_ne nwk]; exact cs.hw
      have hf2 : (upd H1 pk (.dK (putK kk (.inl (t : Int)) (.bl true)))) pf = some (.dK (putK kf (.inl (h : Int)) (.ref D))) := by rw [upd_ne nfk]; exact cs.hf
      have hd2 : (upd H1 pk (.dK (putK kk (.inl (t : Int)) (.bl true)))) D = some (.lst vs) := by rw [upd_ne nDk]; exact hd
      have hp2 : Paired (PN (upd H1 pk (.dK (putK kk (.inl (t : Int)) (.bl true))))) vs (waysW bs bn ms h) := L2.Paired.mapP hp fun v x r => PN.upd cs.hk (fun ys z => nomatch z) r
      have fz2 : Fz N0 H (upd H1 pk (.dK (putK kk (.inl (t : Int)) (.bl true)))) := cs.fz.mut frk cs.hk
      have vl2 : ∀ s ∈ F ++ [h], ∃ l, valV (putK kf (.inl (h : Int)) (.ref D)) (.inl (s : Int)) = some (.ref l) ∧ l ≠ pw ∧ LL PN (upd H1 pk (.dK (putK kk (.inl (t : Int)) (.bl true)))) l (waysW bs bn ms s) := fun s hs => by
        obtain ⟨l, e1, e2, e3⟩ := cs.vals s hs
        obtain ⟨vs3, g1, g2⟩ := id e3
        exact ⟨l, e1, e2, LLp.upd e3 cs.hk (fun ys z => nomatch z) fun z => by rw [z, cs.hk] at g1; cases g1⟩
      have lput : (putK kk (.inl (t : Int)) (.bl true)).length = kk.length + 1 := by rw [putK_new _ hnn, List.length_append]; rfl
      have kn2 : ∀ z : Nat, (valV (putK kk (.inl (t : Int)) (.bl true)) (.inl (z : Int))).isSome = true ↔ z ∈ (F ++ [h]) ++ (w ++ [t]) := fun z => by
        rw [vput, ← List.append_assoc, List.mem_append (s := F ++ [h] ++ w), List.mem_singleton]
        by_cases hz : z = t
        · rw [if_pos hz]; simp [hz]
        · rw [if_neg hz, cs.known z]
          exact ⟨.inl, fun y => y.resolve_right hz⟩
      generalize upd H1 pk (.dK (putK kk (.inl (t : Int)) (.bl true))) = H5 at hk2 hw2 hf2 hd2 hp2 fz2 vl2
      refine ⟨_, rfl, tyL hw2, _, rfl, pw, _, _, rfl, rfl, hw2, by rw [List.length_map]; exact szl (by omega), w ++ [t], putK kk (.inl (t : Int)) (.bl true), _, _, rfl, ⟨fz2.mut frw hw2, by rw [upd_ne nfw]; exact hf2, by rw [upd_same, List.map_append]; rfl, by rw [upd_ne nwk.symm]; exact hk2, kyC, by rw [lput, lk, List.length_append (as := w)]; rfl, kn2, fun s hs => ?_⟩, by rw [upd_ne nDw]; exact hd2, L2.Paired.mapP hp2 fun v x r => PN.upd hw2 (fun ys z => nomatch z) r, cmi.new ht⟩
      obtain ⟨l, e1, e2, e3⟩ := vl2 s hs
      exact ⟨l, e1, e2, LLp.upd e3 hw2 (fun ys z => nomatch z) e2⟩
  · rintro σ Hc ⟨w, kk, u6, u7, rfl, cs, hd, hp, cmi⟩
    have lv : vs.length = ((waysW bs bn ms h).map (fun p : Nat × Nat => p.2)).length := by rw [List.length_map]; exact plen hp
    rw [lv, List.drop_length] at cmi
    have lenC := hR _ cmi.nodup cmi.reach
    rw [List.length_append] at lenC
    have lk := cs.len
    refine ⟨_, rfl, pk, kk, rfl, cs.hk, _, _, rfl, rfl, _, rfl, ?_⟩
    have e0 : decide ((2000 : Int) < (kk.length : Nat)) = false := decide_eq_false (by omega)
    rw [e0]
    exact ⟨_, by rw [List.length_append, List.length_singleton] at *; omega, F ++ [h], w, _, kk, _, _, _, rfl, rfl, cs, cmi⟩
end
end Rw

/-! standings.py: masks_led, by_count. -/
namespace Rw
open PySem PySem.Spec PyProof.Rows L2
section
variable {P : Program} {w : World} {K : PySem.W.Frag} {mg : Str → Option Value} {base : Heap} {B W c : Addr}
theorem at_last {α : Type} (xs : List α) (z : α) : atI (xs ++ [z]) (-1) = some z := by
  unfold atI ixN
  have h1 : ¬ (0 : Int) ≤ -1 := by decide
  have h2 : -(((xs ++ [z]).length : Nat) : Int) ≤ -1 := by rw [List.length_append, List.length_singleton]; omega
  have h3 : ((-1 : Int) + ((xs ++ [z]).length : Nat)).toNat = xs.length := by rw [List.length_append, List.length_singleton]; omega
  rw [if_neg h1, if_pos h2, h3]
  show (xs ++ [z])[xs.length]? = some z
  simp
/-- the standing behind the first writes -/
def stW (bs bn : List Nat) (S0 : Nat) (row : List Nat) : Nat := row.foldl (fun S b => S ||| brW bs bn S b) S0
theorem stW_snoc (bs bn : List Nat) (S0 : Nat) (row : List Nat) (b : Nat) : stW bs bn S0 (row ++ [b]) = stW bs bn S0 row ||| brW bs bn (stW bs bn S0 row) b := by
  unfold stW
  rw [List.foldl_append]
  rfl
/-- the standings along a row -/
def ledW (bs bn : List Nat) (S0 : Nat) (row : List Nat) : List Nat := (List.range (row.length + 1)).map fun i => stW bs bn S0 (row.take i)
abbrev s_masks_led : Stmt := topS 28
abbrev N_masks_led : List Str := ["world", "standing", "row", "found", "block"]
theorem sc_masks_led : FnScope N_masks_led ["world", "standing", "row"] (C8.fnScope s_masks_led) := C8.fnScope_by (by decide +kernel)
def sp_masks_led (W : Addr) : Sp := fun vs H Q _ => ∃ (v vr : V) (S0 : Nat) (row bs bn ms : List Nat), vs = [v, vn S0, vr] ∧ IsW W H v bs bn ms ∧ Gw bs bn ms ∧ (LL RN H (match vr with | .ref p => p | _ => 0) row ∧ ∃ p, vr = .ref p) ∧ (∀ b ∈ row, b ∈ ms) ∧ row.length ≤ 1000 ∧ ∀ p H', Fz N0 H H' → H' p = some (.lst ((ledW bs bn S0 row).map vn)) → Q (.ref p) H'
theorem ok_masks_led (T : Tx K mg B W c) : C8.Cal P w K mg base 3 "masks_led" (sp_masks_led W) [] := by
  refine calD T.d_masks_led sc_masks_led (fun vs H Q E ⟨_, _, _, _, _, _, _, h, _⟩ => by rw [h]; rfl) fun f cdv A outer s H vs Q E hr h => ?_
  obtain ⟨v, vr, S0, row, bs, bn, ms, rfl, hw, g, ⟨hrow, pr, rfl⟩, hin, hz, q⟩ := h
  obtain ⟨x, dx, pb, pl, pw0, kvs, rfl, hx, hpb, hpl, hpw, hv⟩ := id hw
  replace hrow := ln_iff.mp hrow
  refine ⟨_, (pss_cons (ps_set (i := 3) sc_masks_led.nd rfl (.inl rfl) (pe_lst (pa_cons (pv 1) pa_nil)))
      (pss_cons (ps_for PassesOwn.never rfl (pi_list (pv 2)) (pg_name (i := 4) sc_masks_led.nd rfl (.inl rfl))
        (pss_one (ps_expr (pe_bm PySem.F.plainAttrs_list PySem.F.slot_list_append PySem.F.type_list_append mt_append (pv 3) (pa_cons (pe_op op_orN (pe_ix ix_list (pv 3) (pe_un un_neg pe_int) (fun _ _ => rfl)) (C8.pe_mt (ok_World_brought T) hr (by decide) (pv 0) (pa_cons (pe_ix ix_list (pv 3) (pe_un un_neg pe_int) (fun _ _ => rfl)) (pa_cons (pv 4) pa_nil)))) pa_nil)))))
      (pss_one (ps_ret (pv 3))))), ?_⟩
  refine ⟨_, rfl, Nat.zero_lt_succ _, fun pf hpf => ?_⟩
  have f1 : Fz N0 H (upd H pf (.lst [vn S0])) := .new hpf
  refine ⟨_, rfl, pr, rfl, ⟨_, sL (f1.at hrow fun z => z)⟩, for_it (walk_list (K := K) (a := pr) (xs := row.map vn)) (fun i σ Hc => ∃ u, σ = [some (.ref x), some (vn S0), some (.ref pr), some (.ref pf), u] ∧ Fz N0 H Hc ∧ Hc pf = some (.lst (((List.range (i + 1)).map fun j => stW bs bn S0 (row.take j)).map vn))) ⟨_, rfl, f1, upd_same⟩ (fun i σ Hc _ z => by
    obtain ⟨_, _, f, _⟩ := z
    exact sL (f.at hrow fun z => z)) ?_ ?_⟩
  · rintro i y σ Hx H1 hi ⟨u, rfl, f2, hl⟩ ⟨rfl, hy⟩
    obtain ⟨b, hb, rfl⟩ := vn_get' hy
    have hi2 := (List.getElem?_eq_some_iff.mp hb).1
    have er : (List.range (i + 1)).map (fun j => stW bs bn S0 (row.take j)) = (List.range i).map (fun j => stW bs bn S0 (row.take j)) ++ [stW bs bn S0 (row.take i)] := by
      rw [List.range_succ, List.map_append]
      rfl
    have er2 : (List.range (i + 1 + 1)).map (fun j => stW bs bn S0 (row.take j)) = (List.range (i + 1)).map (fun j => stW bs bn S0 (row.take j)) ++ [stW bs bn S0 (row.take i) ||| brW bs bn (stW bs bn S0 (row.take i)) b] := by
      rw [List.range_succ, List.map_append]
      show _ ++ [stW bs bn S0 (row.take (i + 1))] = _
      rw [take_succ_get hb, stW_snoc]
    have ha : atI (((List.range (i + 1)).map fun j => stW bs bn S0 (row.take j)).map vn) (-1) = some (vn (stW bs bn S0 (row.take i))) := by
      rw [er, List.map_append]
      exact at_last _ _
    refine ⟨_, rfl, tyL hl, _, rfl, 1, rfl, pf, _, -1, _, rfl, rfl, sL hl, ha, _, rfl, x, dx, _, rfl, f2.ins hx, rfl, _, rfl, 1, rfl, pf, _, -1, _, rfl, rfl, sL hl, ha, _, rfl, _, _, b, bs, bn, ms, rfl, hw.fz f2, hin b (List.mem_of_getElem? hb), g, fun H3 f3 => ⟨_, _, rfl, rfl, ?_⟩⟩
    have hl3 := f3.at hl fun z => z
    refine ⟨pf, _, _, rfl, rfl, hl3, by rw [List.length_map, List.length_map, List.length_range]; exact szl (by omega), _, rfl, (f2.trans f3).mut (.inl hpf) hl3, ?_⟩
    rw [upd_same, er2, List.map_append]
    rfl
  · rintro σ Hc ⟨u, rfl, f2, hl⟩
    rw [List.length_map] at hl
    exact ⟨_, rfl, q pf Hc f2 hl⟩
/-- a def with a lambda: its code object is c -/
theorem calL {x : Str} {st : Stmt} {N ps : List Str} {k : Nat} {sp : Sp} (D : Dl K mg c x st ps) (S : FnScope N ps (C8.fnScope st)) (len : ∀ vs H Q E, sp vs H Q E → vs.length = ps.length)
    (hbody : ∀ (f : Addr) (A : Around) (outer : List Env) (s : Shared) (H : Hp) (vs : List V) (Q : VK) (E : XK), Room k (A.deeper (envOfC x (C8.fnScope st) s.heap.objs.size f (.ref c))) → sp vs H Q E →
      ∃ t, PSs (cxOf C8.CX0 P w K mg base N x (C8.fnScope st) f (.ref c) A outer s H E).nox (C8.fnBody st) t ∧ t { nx := fun _ H' => Q .non H', rt := Q } (start N vs) H) : C8.Cal P w K mg base (k + 1) x sp [] := by
  obtain ⟨f, fd, F, b, hc⟩ := D.ex
  refine ⟨f, fd, ps, [], ?_, F.mgf, F.kp, b, .nil⟩
  obtain ⟨oc, od, dV, kV, doc, pm, an, cdv, ct, osl, rfl, lk, hcd⟩ := F.fn.ex
  obtain rfl : cdv = .ref c := hc
  refine fn_of lk hcd S len fun A outer s H vs Q E hr hsp => ?_
  obtain ⟨t, h, q⟩ := hbody f A outer s H vs Q E hr hsp
  exact ⟨t, h.nox, q⟩
abbrev s_by_count : Stmt := topS 29
abbrev N_by_count : List Str := ["ways"]
theorem sc_by_count : FnScope N_by_count ["ways"] (C8.fnScope s_by_count) := C8.fnScope_by (by decide +kernel)
def sp_by_count : Sp := fun vs H Q _ => ∃ (d : Addr) (kvs : List (Key × V)) (ns : List Nat), vs = [.ref d] ∧ H d = some (.dK kvs) ∧ kvs.map (·.1) = ns.map ky ∧ ns.length ≤ 10000 ∧ (∀ n ∈ ns, n < 2 ^ 64) ∧ TS H ∧
  ∀ (p : Addr) (H' : Hp) (ns' : List Nat), Fz N0 H H' → H' p = some (.lst (ns'.map vn)) → ns'.Perm ns → (ns'.Pairwise fun a b => (lotM b).length ≤ (lotM a).length) → Q (.ref p) H'
theorem ok_by_count (T : Tx K mg B W c) (TB : LamX.TabB base mg c tP) : C8.Cal P w K mg base 6 "by_count" sp_by_count [] := by
  refine calL T.d_by_count sc_by_count (fun vs H Q E ⟨_, _, _, h, _⟩ => by rw [h]; rfl) fun f A outer s H vs Q E hr h => ?_
  obtain ⟨d, kvs, ns, rfl, hd, hk, hz, hlt, hT, q⟩ := h
  refine ⟨_, pss_one (ps_ret (pe_sortLam (c := c) (x := "mask") (k := 2) rfl TB rfl rfl (C8.fnScope_by (by decide +kernel)) rfl (by decide +kernel) rfl (fun _ _ _ _ _ => by rfl) hr (by rfl) T.z_sorted (fun qual f c' A outer s H hr => pe_un un_neg (pe_callB (lenK (K := K) rfl) (by rfl) T.z_len PySem.boot_len (pa_cons (C8.pe_c (ok_lot_of_mask T) hr (by decide) (by rfl) (pa_cons (pv 0) pa_nil)) pa_nil))) (pv 0))), ?_⟩
  refine ⟨_, rfl, d, kvs, ns.map fun n : Nat => (n : Int), fun z => -((lotM z.toNat).length : Int), rfl, hd, ?_, by rw [List.length_map]; omega, hT, fun n hn H2 f2 => ?_, fun H2 p ns' f2 hp hpm hpw => ?_⟩
  · rw [hk, List.map_map]
    rfl
  · obtain ⟨m, hm, rfl⟩ := List.mem_map.mp hn
    refine ⟨_, rfl, m, rfl, hlt m hm, fun v' H3 f3 ht => ?_⟩
    obtain ⟨l, rfl, hl⟩ := tn_iff.mp ht
    refine ⟨l, _, rfl, .inr (sT hl), _, rfl, ?_, f3⟩
    rw [List.length_map]
    show V.int (-((lotM m).length : Int)) = V.int (-((lotM (Int.toNat (m : Int))).length : Int))
    rw [Int.toNat_natCast]
  · obtain ⟨ms, rfl⟩ := nats_of ns' fun z hz => by
      obtain ⟨n, _, rfl⟩ := List.mem_map.mp (hpm.mem_iff.mp hz)
      omega
    have pm : ms.Perm ns := by
      have := hpm.map Int.toNat
      rw [List.map_map, List.map_map] at this
      have e : ∀ l : List Nat, l.map (Int.toNat ∘ fun n : Nat => (n : Int)) = l := fun l => by
        rw [show (Int.toNat ∘ fun n : Nat => (n : Int)) = id from funext fun n => Int.toNat_natCast n, List.map_id]
      rw [e, e] at this
      exact this
    refine q p _ ms (f2.snoc hp) (by rw [upd_same, map_vn]) pm ?_
    rw [List.pairwise_map] at hpw
    exact hpw.imp fun {a b} h => by
      have h' : -(((lotM (Int.toNat (a : Int))).length : Nat) : Int) ≤ -(((lotM (Int.toNat (b : Int))).length : Nat) : Int) := h
      rw [Int.toNat_natCast, Int.toNat_natCast] at h'
      omega
end
end Rw

/-! standings.py: many_rows. -/
namespace Rw
open PySem PySem.Spec PyProof.Rows L2
section
variable {P : Program} {w : World} {K : PySem.W.Frag} {mg : Str → Option Value} {base : Heap} {B W c : Addr}
/-- F counts the rows from each standing -/
def RowF (bs bn ms : List Nat) (F : Nat → Nat) : Prop := ∀ s, Reach bs bn ms 0 s → F s = if s = 2 ^ bs.length - 1 then 1 else ((waysW bs bn ms s).map fun p => F p.2).sum
abbrev s_many_rows : Stmt := topS 30
abbrev N_many_rows : List Str := ["book", "world", "ways", "found", "here", "block", "there"]
theorem sc_many_rows : FnScope N_many_rows ["book"] (C8.fnScope s_many_rows) := C8.fnScope_by (by decide +kernel)
def sp_many_rows (B : Addr) : Sp := fun vs H Q _ => ∃ (v : V) (bs : List Nat) (nd : List (Nat × Nat)), vs = [v] ∧ IsB B H v bs nd ∧ Bk bs nd ∧ TS H ∧ ∀ bn ms, BN nd bs.length bn → Srt ms bs → (∀ l : List Nat, l.Nodup → (∀ s ∈ l, Reach bs bn ms 0 s) → l.length ≤ 2000) ∧
  ∃ F, RowF bs bn ms F ∧ ∀ H', Fz N0 H H' → Q (vn (F 0)) H'
theorem ok_many_rows (T : Tx K mg B W c) (TB : LamX.TabB base mg c tP) : C8.Cal P w K mg base 7 "many_rows" (sp_many_rows B) [] := by
  refine calD T.d_many_rows sc_many_rows (fun vs H Q E ⟨_, _, _, h, _⟩ => by rw [h]; rfl) fun f cdv A outer s H vs Q E hr h => ?_
  obtain ⟨v, bs, nd, rfl, hbk, bk, hT, q⟩ := h
  have few := bk.few
  refine ⟨_, (pss_cons (ps_set (i := 1) sc_many_rows.nd rfl (.inl rfl) (C8.pe_mk (mk_World T) hr (by decide) (by rfl) (pa_cons (pv 0) pa_nil)))
      (pss_cons (ps_set (i := 2) sc_many_rows.nd rfl (.inl rfl) (C8.pe_mt (ok_World_coming T) hr (by decide) (pv 1) (pa_cons pe_int pa_nil)))
      (pss_cons (ps_set (i := 3) sc_many_rows.nd rfl (.inr rfl) pe_dnewK)
      (pss_cons (ps_for PassesOwn.never rfl (pi_list (C8.pe_c (ok_by_count T TB) hr (by decide) (by rfl) (pa_cons (pv 2) pa_nil))) (pg_name (i := 4) sc_many_rows.nd rfl (.inl rfl))
        (pss_one (ps_dput (hu_of hr) (pv 3) (pv 4) (pe_ifExp (pt_cmpR op_eq (pv 4) (pe_fld (pv 1) rfl) (nomark _)) pe_int (pe_callB (cr_sum rfl) (by rfl) T.z_sum (by decide +kernel) (pa_cons (pe_lc (own := [("block", 5), ("there", 6)]) (by rfl) sc_many_rows.nd (pi_list (pe_dget (hu_of hr) (pv 2) (pv 4) (fun _ _ => rfl))) (blkOk_by (own := [("block", 5), ("there", 6)]) (N := N_many_rows) (sc := C8.fnScope s_many_rows) (by decide +kernel)) (fun _ _ _ _ _ => (pgtK (K := K) (n := 2) rfl rfl (pgs_cons (pg_name (i := 5) sc_many_rows.nd rfl (.inl rfl)) (pgs_cons (pg_name (i := 6) sc_many_rows.nd rfl (.inl rfl)) pgs_nil)) rfl)) (fun _ _ _ _ _ => pts_nil) (fun _ _ _ _ _ => (pe_dget (hu_of hr) (pv 3) (pv 6) (fun _ _ => rfl)))) pa_nil))) rfl)))
      (pss_one (ps_ret (pe_dget (hu_of hr) (pv 3) pe_int (fun _ _ => rfl)))))))), ?_⟩
  refine ⟨_, rfl, fun x dx hx hdx ndx => ⟨H, x, dx, v, bs, nd, rfl, rfl, hx, hdx, ndx, hbk, bk, fun H1 bn ms f1 hbn hms hw => ⟨rfl, ?_⟩⟩⟩
  obtain ⟨hR, F, hF, q⟩ := q bn ms hbn hms
  obtain ⟨x', dx', pb, pl, pw0, kvs, e, hx1, hpb, hpl, hpw, hv⟩ := id hw
  obtain rfl := V.ref.inj e
  have g : Gw bs bn ms := ⟨hbn.1, few, hms⟩
  refine ⟨_, rfl, x, dx', _, rfl, hx1, rfl, _, 0, bs, bn, ms, rfl, hw, g, hR, fun d H2 ns f2 wd => ?_⟩
  obtain ⟨kf, hd, hkeys, hnd, hz, hre, hcl, hvals⟩ := wd
  refine fun pf hpf => ?_
  have f3 : Fz N0 H2 (upd H2 pf (.dK [])) := .new hpf
  have f03 := (f1.trans f2).trans f3
  have lns := hR ns hnd hre
  refine ⟨_, rfl, d, kf, ns, rfl, f3.dK hd, hkeys, by omega, fun n hn => Nat.lt_of_lt_of_le (hre n hn).lt (Nat.pow_le_pow_right (by decide) (by omega)), f03.tab hT, fun po H4 ns' f4 ho hpm hpw2 => ?_⟩
  have f24 := f3.trans f4
  have hf4 := f4.dK (upd_same (H := H2) (a := pf) (o := .dK []))
  have nfo : po ≠ pf := fun z => by rw [z, hf4] at ho; cases ho
  refine ⟨po, rfl, ⟨_, sL ho⟩, for_it (walk_list (K := K) (a := po) (xs := ns'.map vn)) (fun i σ Hc => ∃ (kvs : List (Key × V)) (u4 u5 u6 : Option V), σ = [some v, some (.ref x), some (.ref d), some (.ref pf), u4, u5, u6] ∧ Fz N0 H2 Hc ∧ Hc po = some (.lst (ns'.map vn)) ∧ Hc pf = some (.dK kvs) ∧ kvs.length ≤ i ∧ ∀ s ∈ ns'.take i, valV kvs (.inl (s : Int)) = some (vn (F s)))
    ⟨[], _, _, _, rfl, f24, ho, hf4, Nat.le_refl _, fun s h => by simp at h⟩ (fun i σ Hc _ z => by
      obtain ⟨_, _, _, _, _, _, h, _⟩ := z
      exact sL h) ?_ ?_⟩
  · rintro i y σ Hx Hc hi ⟨kvs, u4, u5, u6, rfl, fc, ho, hk, hl, hvv⟩ ⟨rfl, hy⟩
    obtain ⟨n, hn, rfl⟩ := vn_get' hy
    have hi2 := (List.getElem?_eq_some_iff.mp hn).1
    have hnn : n ∈ ns := hpm.mem_iff.mp (List.mem_of_getElem? hn)
    have lns' : ns'.length = ns.length := hpm.length_eq
    -- what is written
    have put : ∀ H5, Fz N0 Hc H5 → ∃ (kvs' : List (Key × V)) (u4 u5 u6 : Option V), [some v, some (.ref x), some (.ref d), some (.ref pf), some (vn n), u5, u6] = [some v, some (.ref x), some (.ref d), some (.ref pf), u4, u5, u6] ∧ Fz N0 H2 (upd H5 pf (.dK (putK kvs (.inl (n : Int)) (vn (F n))))) ∧ (upd H5 pf (.dK (putK kvs (.inl (n : Int)) (vn (F n))))) po = some (.lst (ns'.map vn)) ∧ (upd H5 pf (.dK (putK kvs (.inl (n : Int)) (vn (F n))))) pf = some (.dK kvs') ∧ kvs'.length ≤ i + 1 ∧ ∀ s ∈ ns'.take (i + 1), valV kvs' (.inl (s : Int)) = some (vn (F s)) := fun H5 f5 => by
      have h5 := f5.dK hk
      have l3 := length_putK kvs (.inl (n : Int)) (vn (F n))
      refine ⟨putK kvs (.inl (n : Int)) (vn (F n)), _, none, none, rfl, (fc.trans f5).mut (.inl hpf) h5, by rw [upd_ne nfo]; exact f5.at ho fun z => z, upd_same, by omega, fun s hs => ?_⟩
      rw [take_succ_get hn, List.mem_append, List.mem_singleton] at hs
      rw [vput]
      by_cases e : s = n
      · rw [if_pos e, e]
      · rw [if_neg e]
        exact hvv s (hs.resolve_right e)
    have eF := hF n (hre n hnn)
    have hx2 := fc.ins (f2.ins hx1)
    refine ⟨_, rfl, _, rfl, x, W, dx', _, _, rfl, hx2, T.cW, T.nW_all, rfl, rfl, _, rfl, ?_⟩
    rw [dvn]
    by_cases hall : n = 2 ^ bs.length - 1
    · rw [decide_eq_true hall]
      rw [if_pos hall] at eF
      have e1 : V.int 1 = vn (F n) := by rw [eF]; rfl
      refine ⟨_, rfl, _, rfl, pf, _, rfl, DPn n (.int 1) hk (by omega), ?_⟩
      rw [e1]
      obtain ⟨kvs', u4, _, _, e, r⟩ := put Hc .refl
      exact ⟨kvs', _, u5, u6, rfl, r⟩
    · rw [decide_eq_false hall]
      rw [if_neg hall] at eF
      obtain ⟨l, hvl, hll⟩ := hvals n hnn
      obtain ⟨vs, hl1, hl2⟩ := LLp.fz hll fc
      have lw : (waysW bs bn ms n).length ≤ ms.length := by
        unfold waysW ripeW
        rw [List.length_map]
        exact List.length_filter_le _ _
      have lms := hms.len
      have hdc := fc.dK hd
      refine ⟨_, rfl, _, rfl, d, _, rfl, DGn hdc hvl, l, rfl, ⟨_, sL hl1⟩, fun D hD => lc_det (R := RN) (walk_list (K := K) (a := l) (xs := vs)) pRN hD (by rw [plen hl2]; omega) (fun i => (waysW bs bn ms n)[i]?.bind fun p => some (F p.2)) (fun H f => sL (f.at hl1 fun z => z)) (fun j y H1 H3 C Nx hj f1 hy k1 k2 => ?_) fun H3 f3 hl3 => ?_⟩
      · obtain ⟨rfl, hy⟩ := hy
        obtain ⟨⟨b, t⟩, e1, a, y1, y2, rfl, ha, r1, r2⟩ := pget (pPN.all f1 hl2) hy
        obtain rfl := show y1 = vn b from r1
        obtain rfl := show y2 = vn t from r2
        have hp := List.mem_of_getElem? e1
        have htn : t ∈ ns := hcl n hnn _ hp
        obtain ⟨j2, hj2, ej2⟩ := List.getElem_of_mem (hpm.mem_iff.mpr htn)
        have hlt : j2 < i := by
          refine Classical.byContradiction fun hge => ?_
          have hmore := way_more hp
          by_cases e : i = j2
          · subst e
            rw [(List.getElem?_eq_some_iff.mp hn).2] at ej2
            rw [ej2] at hmore
            exact Nat.lt_irrefl _ hmore
          · have h := List.pairwise_iff_getElem.mp hpw2 i j2 hi2 hj2 (by omega)
            rw [(List.getElem?_eq_some_iff.mp hn).2, ej2] at h
            have hmore' : (lotM n).length < (lotM t).length := hmore
            omega
        have htk : t ∈ ns'.take i := by
          rw [← ej2]
          exact List.mem_take_iff_getElem.mpr ⟨j2, by omega, rfl⟩
        refine ⟨a, _, rfl, sT ha, rfl, _, _, rfl, _, _, rfl, rfl, rfl, _, rfl, _, rfl, pf, _, rfl, DGn (f1.dK hk) (hvv t htk), k1 _ _ (F t) (by rw [e1]; rfl) .refl rfl⟩
      · have e : (List.range vs.length).filterMap (fun i => (waysW bs bn ms n)[i]?.bind fun p => some (F p.2)) = (waysW bs bn ms n).map fun p => F p.2 := by
          rw [plen hl2, fm_get]
          exact congrFun (List.filterMap_eq_map (f := fun p : Nat × Nat => F p.2)) _
        rw [e] at hl3
        have hl4 := ln_iff.mp hl3
        rw [map_vn] at hl4
        refine ⟨D, _, rfl, sL hl4, ?_⟩
        rw [sum_cast, ← eF]
        refine ⟨_, rfl, _, rfl, pf, _, rfl, DPn n _ (f3.dK hk) (by omega), ?_⟩
        obtain ⟨kvs', u4, _, _, e, r⟩ := put H3 f3
        exact ⟨kvs', _, u5, u6, rfl, r⟩
  · rintro σ Hc ⟨kvs, u4, u5, u6, rfl, fc, ho, hk, hl, hvv⟩
    rw [List.length_map, List.take_length] at hvv
    exact ⟨_, rfl, pf, _, rfl, DGn (n := 0) hk (hvv 0 (hpm.mem_iff.mpr hz)), q Hc ((f1.trans f2).trans fc)⟩
end
end Rw

/-! toldback.py: the checks. -/
namespace Rw
open PySem PySem.Spec PyProof.Rows L2
section
variable {P : Program} {w : World} {K : PySem.W.Frag} {mg : Str → Option Value} {base : Heap} {B W c : Addr}
/-- a log of these blocks -/
structure LogOk (bs : List Nat) (log : List (Nat × List Nat)) : Prop where
  ne : ∀ e ∈ log, e.2 ≠ []
  srt : ∀ e ∈ log, e.2.Pairwise (· < ·)
  blk : ∀ e ∈ log, ∀ c ∈ e.2, bs[c]? = some e.1
  part : (log.map (·.2)).flatten.Perm (List.range bs.length)
  adj : ∀ i e e', log[i]? = some e → log[i + 1]? = some e' → e.1 ≠ e'.1
  few : bs.length < 12
  val : ∀ b ∈ bs, b < 50
/- check_blocks -/
abbrev s_check_blocks : Stmt := topS 32
abbrev N_check_blocks : List Str := ["thing", "block"]
theorem sc_check_blocks : FnScope N_check_blocks ["thing"] (C8.fnScope s_check_blocks) := C8.fnScope_by (by decide +kernel)
def sp_check_blocks : Sp := fun vs H Q _ => ∃ (v : V) (bs : List Nat), vs = [v] ∧ TN H v bs ∧ bs.length ≤ 200 ∧ (∀ b ∈ bs, b < 50) ∧ ∀ H', Fz N0 H H' → Q .non H'
theorem ok_check_blocks (T : Tx K mg B W c) : C8.Cal P w K mg base 3 "check_blocks" sp_check_blocks [] := by
  refine calD T.d_check_blocks sc_check_blocks (fun vs H Q E ⟨_, _, h, _⟩ => by rw [h]; rfl) fun f cdv A outer s H vs Q E hr h => ?_
  obtain ⟨v, bs, rfl, ht, hz, hv, q⟩ := h
  obtain ⟨a, rfl, ha⟩ := tn_iff.mp ht
  refine ⟨_, (pss_cons (ps_if (PW.pt (pw_or (pt_not (pt_val (pe_callB call_is (by rfl) T.z_isinstance (by decide +kernel) (pa_cons (pv 0) (pa_cons (pe_bltn (v := .ty "tuple") (by rfl) T.z_tuple (by decide +kernel) rfl) pa_nil))))) (pw_or1 (pt_cmpR op_gt (pe_callB call_len_seq (by rfl) T.z_len PySem.boot_len (pa_cons (pv 0) pa_nil)) (C8.pe_gc (by rfl) T.c_MOST_CHANGES) (nomark _)))))
        (pss_one ps_never)
        pss_nil)
      (pss_one (ps_if (pt_not (pt_val (pe_callB (cr_all rfl) (by rfl) T.z_all (by decide +kernel) (pa_cons (pe_lc (own := [("block", 1)]) (by rfl) sc_check_blocks.nd (pi_tup (pv 0)) (blkOk_by (own := [("block", 1)]) (N := N_check_blocks) (sc := C8.fnScope s_check_blocks) (by decide +kernel)) (fun _ _ _ _ _ => (pg_name (i := 1) sc_check_blocks.nd rfl (.inl rfl))) (fun _ _ _ _ _ => pts_nil) (fun _ _ _ _ _ => (C8.pe_c (ok_is_within T) hr (by decide) (by rfl) (pa_cons (pv 1) (pa_cons pe_int (pa_cons (C8.pe_gc (by rfl) T.c_MOST_BLOCK) pa_nil)))))) pa_nil))))
        (pss_one ps_never)
        pss_nil))), ?_⟩
  refine ⟨_, rfl, _, _, _, rfl, .tt ha, _, rfl, _, rfl, a, _, rfl, .inr (sT ha), _, _, rfl, rfl, _, rfl, ?_⟩
  have e0 : decide ((200 : Int) < ((bs.map vn).length : Nat)) = false := decide_eq_false (by rw [List.length_map]; omega)
  rw [e0]
  refine ⟨_, rfl, a, rfl, ⟨_, sT ha⟩, fun D hD => lc_true (walk_tup (K := K) (a := a) (xs := bs.map vn)) hD (by rw [List.length_map]; omega) (fun H f => sT (f.tup ha)) (fun i x H1 H2 C hi f1 hy k1 => ?_) fun H2 bs2 f2 hl hb2 => ⟨D, bs2, rfl, sL hl, _, rfl, ?_⟩⟩
  · obtain ⟨rfl, hy⟩ := hy
    obtain ⟨b, hb, rfl⟩ := vn_get' hy
    have := hv b (List.mem_of_getElem? hb)
    exact ⟨rfl, _, rfl, (b : Int), 0, 49, rfl, by omega, by omega, k1 _ .refl⟩
  · rw [hb2]
    exact q H2 f2
/- is_entry -/
abbrev s_is_entry : Stmt := topS 33
abbrev N_is_entry : List Str := ["blocks", "thing", "change"]
theorem sc_is_entry : FnScope N_is_entry ["blocks", "thing"] (C8.fnScope s_is_entry) := C8.fnScope_by (by decide +kernel)
def sp_is_entry : Sp := fun vs H Q _ => ∃ (vb v : V) (bs : List Nat) (e : Nat × List Nat), vs = [vb, v] ∧ TN H vb bs ∧ EN H v e ∧ bs.length ≤ 200 ∧ e.2 ≠ [] ∧ e.2.Pairwise (· < ·) ∧ (∀ c ∈ e.2, bs[c]? = some e.1) ∧ ∀ H', Fz N0 H H' → Q (.bl true) H'
theorem ok_is_entry (T : Tx K mg B W c) : C8.Cal P w K mg base 4 "is_entry" sp_is_entry [] := by
  refine calD T.d_is_entry sc_is_entry (fun vs H Q E ⟨_, _, _, _, h, _⟩ => by rw [h]; rfl) fun f cdv A outer s H vs Q E hr h => ?_
  obtain ⟨vb, v, bs, ⟨b, l⟩, rfl, ht, he, hz, hne, hs, hb, q⟩ := h
  obtain ⟨ab, rfl, hab⟩ := tn_iff.mp ht
  obtain ⟨a, u, w, rfl, ha, ru, rw'⟩ := he
  obtain rfl := show u = vn b from ru
  obtain ⟨al, rfl, hal⟩ := tn_iff.mp rw'
  have hlt : ∀ c ∈ l, c < bs.length := fun c hc => (List.getElem?_eq_some_iff.mp (hb c hc)).1
  have hll : l.length ≤ bs.length := by
    have := nodup_sub (b := List.range bs.length) (nodup_of_lt hs) fun c hc => List.mem_range.mpr (hlt c hc)
    rw [List.length_range] at this
    exact this
  refine ⟨_, (pss_cons (ps_if (PW.pt (pw_or (pt_not (pt_val (C8.pe_c (ok_is_pair T) hr (by decide) (by rfl) (pa_cons (pv 1) pa_nil)))) (pw_or (pt_not (pt_val (C8.pe_c (ok_is_integer T) hr (by decide) (by rfl) (pa_cons (pe_ix ix_tup (pv 1) pe_int (fun _ _ => rfl)) pa_nil)))) (pw_or (pt_not (pt_val (C8.pe_c (ok_is_lot T) hr (by decide) (by rfl) (pa_cons (pe_ix ix_tup (pv 1) pe_int (fun _ _ => rfl)) (pa_cons (pe_callB call_len_seq (by rfl) T.z_len PySem.boot_len (pa_cons (pv 0) pa_nil)) pa_nil))))) (pw_or1 (pt_cmpR op_eq (pe_callB call_len_seq (by rfl) T.z_len PySem.boot_len (pa_cons (pe_ix ix_tup (pv 1) pe_int (fun _ _ => rfl)) pa_nil)) pe_int (nomark _)))))))
        (pss_one (ps_ret pe_bl))
        pss_nil)
      (pss_one (ps_ret (pe_callB (cr_all rfl) (by rfl) T.z_all (by decide +kernel) (pa_cons (pe_lc (own := [("change", 2)]) (by rfl) sc_is_entry.nd (pi_tup (pe_ix ix_tup (pv 1) pe_int (fun _ _ => rfl))) (blkOk_by (own := [("change", 2)]) (N := N_is_entry) (sc := C8.fnScope s_is_entry) (by decide +kernel)) (fun _ _ _ _ _ => (pg_name (i := 2) sc_is_entry.nd rfl (.inl rfl))) (fun _ _ _ _ _ => pts_nil) (fun _ _ _ _ _ => (pe_cmpR op_eq (pe_ix (ixTk (K := K) rfl) (pv 0) (pv 2) (fun _ _ => rfl)) (pe_ix (ixTk (K := K) rfl) (pv 1) pe_int (fun _ _ => rfl)) (nomark _)))) pa_nil))))), ?_⟩
  refine ⟨_, rfl, a, _, _, rfl, ha, _, rfl, ?_⟩
  refine ⟨_, rfl, a, _, 0, _, rfl, rfl, sT ha, rfl, (b : Int), rfl, _, rfl, ?_⟩
  refine ⟨_, rfl, a, _, 1, _, rfl, rfl, sT ha, rfl, _, rfl, ab, _, rfl, .inr (sT hab), _, l, bs.length, by rw [List.length_map]; rfl, tn_iff.mpr ⟨al, rfl, hal⟩, hs, hlt, by omega, _, rfl, ?_⟩
  refine ⟨_, rfl, a, _, 1, _, rfl, rfl, sT ha, rfl, al, _, rfl, .inr (sT hal), rfl, _, rfl, ?_⟩
  have hpos : 0 < l.length := List.length_pos_iff.mpr hne
  have e0 : decide (V.int ((l.map vn).length : Nat) = V.int 0) = false := decide_eq_false fun z => by
    have := V.int.inj z
    rw [List.length_map] at this
    omega
  rw [e0]
  refine ⟨_, rfl, a, _, 1, _, rfl, rfl, sT ha, rfl, al, rfl, ⟨_, sT hal⟩, fun D hD => lc_true (walk_tup (K := K) (a := al) (xs := l.map vn)) hD (by rw [List.length_map]; omega) (fun H f => sT (f.tup hal)) (fun i x H1 H2 C hi f1 hy k1 => ?_) fun H2 bs2 f2 hl hb2 => ⟨D, bs2, rfl, sL hl, ?_⟩⟩
  · obtain ⟨rfl, hy⟩ := hy
    obtain ⟨n, hn, rfl⟩ := vn_get' hy
    have h1 := vn_get (hb n (List.mem_of_getElem? hn))
    refine ⟨rfl, _, rfl, _, rfl, ab, _, (n : Int), _, rfl, rfl, sT (f1.tup hab), atN h1, _, rfl, a, _, 0, _, rfl, rfl, sT (f1.tup ha), rfl, rfl, ?_⟩
    have e1 : decide (vn b = vn b) = true := decide_eq_true rfl
    rw [e1]
    exact k1 _ .refl
  · rw [hb2]
    exact q H2 f2
end
end Rw

/-! toldback.py: is_log_of, check_log. -/
namespace Rw
open PySem PySem.Spec PyProof.Rows L2
section
variable {P : Program} {w : World} {K : PySem.W.Frag} {mg : Str → Option Value} {base : Heap} {B W c : Addr}
theorem LogOk.len {bs : List Nat} {log : List (Nat × List Nat)} (h : LogOk bs log) : log.length ≤ bs.length := by
  have h1 := h.part.length_eq
  rw [List.length_range] at h1
  have h2 : ∀ l : List (Nat × List Nat), (∀ e ∈ l, e.2 ≠ []) → l.length ≤ ((l.map (·.2)).flatten).length := by
    intro l
    induction l with
    | nil => intro _; exact Nat.le_refl _
    | cons e l ih =>
      intro hne
      have := ih fun x hx => hne x (List.mem_cons_of_mem _ hx)
      have := List.length_pos_iff.mpr (hne e (List.mem_cons_self))
      rw [List.map_cons, List.flatten_cons, List.length_append, List.length_cons]
      omega
  have := h2 log h.ne
  omega
theorem flat_take {α : Type} {l : List (List α)} {i : Nat} {x : List α} (h : l[i]? = some x) : (l.take (i + 1)).flatten = (l.take i).flatten ++ x := by
  rw [take_succ_get h, List.flatten_append, List.flatten_cons, List.flatten_nil, List.append_nil]
theorem flat_take_le {α : Type} (l : List (List α)) (i : Nat) : ((l.take i).flatten).length ≤ (l.flatten).length := by
  have e : l.flatten = (l.take i).flatten ++ (l.drop i).flatten := by rw [← List.flatten_append, List.take_append_drop]
  rw [e, List.length_append]
  omega
abbrev s_is_log_of : Stmt := topS 34
abbrev N_is_log_of : List Str := ["blocks", "thing", "came", "block", "lot", "entry", "here", "there"]
theorem sc_is_log_of : FnScope N_is_log_of ["blocks", "thing"] (C8.fnScope s_is_log_of) := C8.fnScope_by (by decide +kernel)
def sp_is_log_of : Sp := fun vs H Q _ => ∃ (vb v : V) (bs : List Nat) (log : List (Nat × List Nat)), vs = [vb, v] ∧ TN H vb bs ∧ LG H v log ∧ LogOk bs log ∧ ∀ H', Fz N0 H H' → Q (.bl true) H'
theorem ok_is_log_of (T : Tx K mg B W c) : C8.Cal P w K mg base 5 "is_log_of" sp_is_log_of [] := by
  refine calD T.d_is_log_of sc_is_log_of (fun vs H Q E ⟨_, _, _, _, h, _⟩ => by rw [h]; rfl) fun f cdv A outer s H vs Q E hr h => ?_
  obtain ⟨vb, v, bs, log, rfl, ht, hl, ok, q⟩ := h
  obtain ⟨ab, rfl, hab⟩ := tn_iff.mp ht
  obtain ⟨a, vs, rfl, ha, hp⟩ := hl
  have few := ok.few
  have lvs : vs.length = log.length := plen hp
  have llog := ok.len
  have lpart := ok.part.length_eq
  rw [List.length_range] at lpart
  refine ⟨_, (pss_cons (ps_if (PW.pt (pw_or (pt_not (pt_val (pe_callB call_is (by rfl) T.z_isinstance (by decide +kernel) (pa_cons (pv 1) (pa_cons (pe_bltn (v := .ty "tuple") (by rfl) T.z_tuple (by decide +kernel) rfl) pa_nil))))) (pw_or1 (pt_not (pt_val (pe_callB (cr_all rfl) (by rfl) T.z_all (by decide +kernel) (pa_cons (pe_lc (own := [("entry", 5)]) (by rfl) sc_is_log_of.nd (pi_tup (pv 1)) (blkOk_by (own := [("entry", 5)]) (N := N_is_log_of) (sc := C8.fnScope s_is_log_of) (by decide +kernel)) (fun _ _ _ _ _ => (pg_name (i := 5) sc_is_log_of.nd rfl (.inl rfl))) (fun _ _ _ _ _ => pts_nil) (fun _ _ _ _ _ => (C8.pe_c (ok_is_entry T) hr (by decide) (by rfl) (pa_cons (pv 0) (pa_cons (pv 5) pa_nil))))) pa_nil)))))))
        (pss_one (ps_ret pe_bl))
        pss_nil)
      (pss_cons (ps_set (i := 2) sc_is_log_of.nd rfl (.inl rfl) (pe_lst pa_nil))
      (pss_cons (ps_for PassesOwn.never rfl (pi_tup (pv 1)) (pg_tup rfl (pgs_cons (pg_name (i := 3) sc_is_log_of.nd rfl (.inl rfl)) (pgs_cons (pg_name (i := 4) sc_is_log_of.nd rfl (.inl rfl)) pgs_nil)))
        (pss_one (ps_expr (pe_bm PySem.F.plainAttrs_list PySem.F.slot_list_extend PySem.F.type_list_extend mt_extT (pv 2) (pa_cons (pv 4) pa_nil)))))
      (pss_cons (ps_if (pt_cmpR (op_neD hr.units) (pe_callB cr_sorted (by rfl) T.z_sorted (by decide +kernel) (pa_cons (pv 2) pa_nil)) (pe_listRg rfl (by rfl) T.z_list (prg_1 (by rfl) T.z_range (pe_callB call_len_seq (by rfl) T.z_len PySem.boot_len (pa_cons (pv 0) pa_nil)))) (nomark _))
        (pss_one (ps_ret pe_bl))
        pss_nil)
      (pss_one (ps_ret (pe_callB (cr_all rfl) (by rfl) T.z_all (by decide +kernel) (pa_cons (pe_lc (own := [("here", 6), ("there", 7)]) (by rfl) sc_is_log_of.nd (RZ.pi_zipA (by rfl) T.z_zip (pa_cons (pv 1) (pa_cons (pe_slice sl_tupA (pv 1) (po_some pe_int) po_none) pa_nil))) (blkOk_by (own := [("here", 6), ("there", 7)]) (N := N_is_log_of) (sc := C8.fnScope s_is_log_of) (by decide +kernel)) (fun _ _ _ _ _ => (pgtK (K := K) (n := 2) rfl rfl (pgs_cons (pg_name (i := 6) sc_is_log_of.nd rfl (.inl rfl)) (pgs_cons (pg_name (i := 7) sc_is_log_of.nd rfl (.inl rfl)) pgs_nil)) rfl)) (fun _ _ _ _ _ => pts_nil) (fun _ _ _ _ _ => (pe_cmpR op_ne (pe_ix (ixTk (K := K) rfl) (pv 6) pe_int (fun _ _ => rfl)) (pe_ix (ixTk (K := K) rfl) (pv 7) pe_int (fun _ _ => rfl)) (nomark _)))) pa_nil)))))))), ?_⟩
  refine ⟨_, rfl, _, _, _, rfl, .tt ha, _, rfl, ?_⟩
  refine ⟨_, rfl, a, rfl, ⟨_, sT ha⟩, fun D hD => lc_true (walk_tup (K := K) (a := a) (xs := vs)) hD (by omega) (fun H f => sT (f.tup ha)) (fun i x H1 H2 C hi f1 hy k1 => ?_) fun H2 bs2 f2 hl2 hb2 => ⟨D, bs2, rfl, sL hl2, _, rfl, ?_⟩⟩
  · obtain ⟨rfl, hy⟩ := hy
    obtain ⟨e, he, re⟩ := pget hp hy
    have hm := List.mem_of_getElem? he
    exact ⟨rfl, _, rfl, _, rfl, _, _, bs, e, rfl, pTN.go f1 ht, pEN.go f1 re, by omega, ok.ne e hm, ok.srt e hm, ok.blk e hm, k1⟩
  rw [hb2]
  refine ⟨Nat.zero_le _, fun pc hpc => ?_⟩
  have f3 : Fz N0 H (upd H2 pc (.lst [])) := f2.snoc hpc
  have frc : Fr H pc := f2.fr hpc
  refine ⟨_, rfl, a, rfl, ⟨_, sT (f3.tup ha)⟩, for_it (walk_tup (K := K) (a := a) (xs := vs)) (fun i σ Hc => ∃ u3 u4, σ = [some (.ref ab), some (.ref a), some (.ref pc), u3, u4, none, none, none] ∧ Fz N0 H Hc ∧ Hc pc = some (.lst ((((log.map (·.2)).take i).flatten).map vn))) ⟨_, _, rfl, f3, upd_same⟩ (fun i σ Hc _ z => by
    obtain ⟨_, _, _, z, _⟩ := z
    exact sT (z.tup ha)) ?_ ?_⟩
  · rintro i y σ Hx Hc hi ⟨u3, u4, rfl, fc, hc⟩ ⟨rfl, hy⟩
    obtain ⟨⟨b, l⟩, he, b1, y1, y2, rfl, hb, r1, r2⟩ := pget (pEN.all fc hp) hy
    obtain rfl := show y1 = vn b from r1
    obtain ⟨al, rfl, hal⟩ := tn_iff.mp r2
    have e2 : (log.map (fun e : Nat × List Nat => e.2))[i]? = some l := by rw [List.getElem?_map, he]; rfl
    have hle := flat_take_le (log.map (fun e : Nat × List Nat => e.2)) (i + 1)
    rw [flat_take e2, List.length_append] at hle
    have hsz : ((((log.map (fun e : Nat × List Nat => e.2)).take i).flatten).map vn).length + (l.map vn).length ≤ sizeLine := by
      rw [List.length_map (f := vn), List.length_map (f := vn)]
      exact sz (by omega)
    refine ⟨b1, _, rfl, sT hb, rfl, _, _, rfl, _, _, rfl, rfl, _, rfl, tyL hc, _, rfl, pc, al, _, _, rfl, rfl, hc, hal, hsz, _, _, rfl, fc.mut frc hc, ?_⟩
    rw [upd_same, flat_take e2, List.map_append]
  rintro σ H4 ⟨u3, u4, rfl, f4, hc4⟩
  rw [lvs, show log.length = (log.map (fun e : Nat × List Nat => e.2)).length by rw [List.length_map], List.take_length, map_vn] at hc4
  have hab4 := f4.tup hab
  have ha4 := f4.tup ha
  refine ⟨_, rfl, pc, _, rfl, sL hc4, by rw [List.length_map]; omega, fun ns' p1 hpm hps hp1 => ?_⟩
  have f5 : Fz N0 H (upd H4 p1 (.lst ((List.range bs.length).map vn))) := f4.snoc hp1
  have esr := sorted_range hpm hps ok.part
  rw [esr]
  refine ⟨_, rfl, ab, _, rfl, .inr (sT (f5.tup hab)), _, rfl, by rw [List.length_map]; exact rgok (by omega), fun p2 hp2 => ?_⟩
  rw [List.length_map, rg_nat]
  have h1 : (upd (upd H4 p1 (.lst ((List.range bs.length).map vn))) p2 (.lst ((List.range bs.length).map vn))) p1 = some (.lst ((List.range bs.length).map vn)) := (Fz.new (T := N0) hp2).at upd_same fun z => z
  have h2 : (upd (upd H4 p1 (.lst ((List.range bs.length).map vn))) p2 (.lst ((List.range bs.length).map vn))) p2 = some (.lst ((List.range bs.length).map vn)) := upd_same
  refine neD_same (d := .list ((List.range bs.length).map dN)) (k := 1) (dpL (fun _ _ => dpRN) (ln_iff.mpr h1)) (dpL (fun _ _ => dpRN) (ln_iff.mpr h2)) (gdL gdN _) (by decide) ⟨_, rfl, ?_⟩
  have f6 : Fz N0 H (upd (upd H4 p1 (.lst ((List.range bs.length).map vn))) p2 (.lst ((List.range bs.length).map vn))) := f5.snoc hp2
  generalize upd (upd H4 p1 (.lst ((List.range bs.length).map vn))) p2 (.lst ((List.range bs.length).map vn)) = H6 at f6
  refine ⟨_, rfl, _, rfl, 1, rfl, sl_tail (f6.tup ha) fun b H7 f7 hb => ?_⟩
  have f67 := f6.trans f7
  have hp7 := pEN.all f67 hp
  refine ⟨a, b, _, _, rfl, .inr ⟨sT (f67.tup ha), sT hb, fun D2 hD2 => lc_true (walk_zipT (K := K) (a := a) (b := b) (xs := vs) (ys := vs.drop 1) rfl) hD2 (by rw [List.length_drop]; omega) (fun H f => ⟨sT (f.tup (f67.tup ha)), sT (f.tup hb)⟩) (fun i x H1 H3 C hi f1 hy k1 => ?_) fun H8 bs3 f8 hl3 hb3 => ⟨D2, bs3, rfl, sL hl3, ?_⟩⟩⟩
  · obtain ⟨p, x1, x2, rfl, hp0, rfl, e1, e2⟩ := hy
    have fn : Fz N0 H1 (upd H1 p (.tup [x1, x2])) := .new hp0
    have e2 : (vs.drop 1)[i]? = some x2 := e2
    rw [List.getElem?_drop] at e2
    have hpp := pEN.all (f1.trans fn) hp7
    obtain ⟨⟨b1, l1⟩, g1, a1, y1, z1, rfl, ha1, r1, _⟩ := pget hpp e1
    obtain ⟨⟨b2, l2⟩, g2, a2, y2, z2, rfl, ha2, r2, _⟩ := pget hpp e2
    obtain rfl := show y1 = vn b1 from r1
    obtain rfl := show y2 = vn b2 from r2
    have hne := ok.adj i _ _ g1 (by rw [Nat.add_comm]; exact g2)
    refine ⟨p, _, rfl, sT upd_same, rfl, _, _, rfl, _, _, rfl, rfl, rfl, _, rfl, a1, _, 0, _, rfl, rfl, sT ha1, rfl, _, rfl, a2, _, 0, _, rfl, rfl, sT ha2, rfl, rfl, ?_⟩
    have e0 : (!decide (vn b1 = vn b2)) = true := by rw [dvn, decide_eq_false hne]; rfl
    rw [e0]
    exact k1 _ fn
  · rw [hb3]
    exact q _ (f67.trans f8)
abbrev s_check_log : Stmt := topS 36
abbrev N_check_log : List Str := ["blocks", "log"]
theorem sc_check_log : FnScope N_check_log ["blocks", "log"] (C8.fnScope s_check_log) := C8.fnScope_by (by decide +kernel)
def sp_check_log : Sp := fun vs H Q _ => ∃ (vb v : V) (bs : List Nat) (log : List (Nat × List Nat)), vs = [vb, v] ∧ TN H vb bs ∧ LG H v log ∧ LogOk bs log ∧ ∀ H', Fz N0 H H' → Q .non H'
theorem ok_check_log (T : Tx K mg B W c) : C8.Cal P w K mg base 6 "check_log" sp_check_log [] := by
  refine calD T.d_check_log sc_check_log (fun vs H Q E ⟨_, _, _, _, h, _⟩ => by rw [h]; rfl) fun f cdv A outer s H vs Q E hr h => ?_
  obtain ⟨vb, v, bs, log, rfl, ht, hl, ok, q⟩ := h
  have few := ok.few
  refine ⟨_, (pss_cons (ps_expr (C8.pe_c (ok_check_blocks T) hr (by decide) (by rfl) (pa_cons (pv 0) pa_nil)))
      (pss_one (ps_if (pt_not (pt_val (C8.pe_c (ok_is_log_of T) hr (by decide) (by rfl) (pa_cons (pv 0) (pa_cons (pv 1) pa_nil)))))
        (pss_one ps_never)
        pss_nil))), ?_⟩
  exact ⟨_, rfl, vb, bs, rfl, ht, by omega, ok.val, fun H2 f2 => ⟨_, rfl, _, rfl, vb, v, bs, log, rfl, pTN.go f2 ht, pLG.go f2 hl, ok, fun H3 f3 => ⟨_, rfl, q H3 (f2.trans f3)⟩⟩⟩
end
end Rw

/-! toldback.py: makes. -/
namespace Rw
open PySem PySem.Spec PyProof.Rows L2
section
variable {P : Program} {w : World} {K : PySem.W.Frag} {mg : Str → Option Value} {base : Heap} {B W c : Addr}
/-- the book brings, at each write of the log, what the log says -/
def Made (bs bn : List Nat) (log : List (Nat × List Nat)) : Prop := ∀ i e, log[i]? = some e → brW bs bn (stM log i) e.1 = mskL e.2
theorem Made.led {bs bn : List Nat} {log : List (Nat × List Nat)} (h : Made bs bn log) : ∀ i, i ≤ log.length → stW bs bn 0 ((log.map (fun e => e.1)).take i) = stM log i
  | 0, _ => by
    rw [List.take_zero]
    unfold stW stM bro
    rw [List.take_zero]
    rfl
  | i + 1, hi => by
    have e1 : log[i]? = some (log[i]'(by omega)) := List.getElem?_eq_getElem _
    have e2 : (log.map (fun e => e.1))[i]? = some (log[i]'(by omega)).1 := by rw [List.getElem?_map, e1]; rfl
    rw [take_succ_get e2, stW_snoc, h.led i (by omega), h i _ e1, stM_succ e1]
theorem Made.lot {bs bn : List Nat} {log : List (Nat × List Nat)} (h : Made bs bn log) {i : Nat} {e : Nat × List Nat} (he : log[i]? = some e) (hs : e.2.Pairwise (· < ·)) : lotM (nand (stM log (i + 1)) (stM log i)) = e.2 := by
  have : nand (stM log (i + 1)) (stM log i) = mskL e.2 := bits_ext fun k => by
    rw [nand_bits, stM_succ he, Nat.testBit_or, Bool.or_eq_true, mskL_bit]
    constructor
    · rintro ⟨q | q, n⟩
      · exact absurd q n
      · exact q
    · intro q
      have hb : (brW bs bn (stM log i) e.1).testBit k = true := by rw [h i e he]; exact mskL_bit.mpr q
      exact ⟨.inr q, (brW_bit.mp hb).2.1⟩
  rw [this, lotM_mskL hs]
abbrev s_makes : Stmt := topS 35
abbrev N_makes : List Str := ["book", "log", "masks", "block", "lot", "here", "there"]
theorem sc_makes : FnScope N_makes ["book", "log"] (C8.fnScope s_makes) := C8.fnScope_by (by decide +kernel)
def sp_makes (B : Addr) : Sp := fun vs H Q _ => ∃ (v vl : V) (bs : List Nat) (nd : List (Nat × Nat)) (log : List (Nat × List Nat)), vs = [v, vl] ∧ IsB B H v bs nd ∧ Bk bs nd ∧ LG H vl log ∧ LogOk bs log ∧ (∀ bn, BN nd bs.length bn → Made bs bn log) ∧ ∀ H', Fz N0 H H' → Q (.bl true) H'
theorem ok_makes (T : Tx K mg B W c) : C8.Cal P w K mg base 6 "makes" (sp_makes B) [] := by
  refine calD T.d_makes sc_makes (fun vs H Q E ⟨_, _, _, _, _, h, _⟩ => by rw [h]; rfl) fun f cdv A outer s H vs Q E hr h => ?_
  obtain ⟨v, vl, bs, nd, log, rfl, hbk, bk, hl, ok, hmk, q⟩ := h
  obtain ⟨x, dx, vb, vnn, rfl, hx, hb, hn⟩ := id hbk
  obtain ⟨a, vs, rfl, ha, hp⟩ := id hl
  have few := ok.few
  have lvs : vs.length = log.length := plen hp
  have llog := ok.len
  refine ⟨_, (pss_cons (ps_if (pt_not (pt_val (C8.pe_c (ok_is_log_of T) hr (by decide) (by rfl) (pa_cons (pe_fld (pv 0) rfl) (pa_cons (pv 1) pa_nil)))))
        (pss_one ps_never)
        pss_nil)
      (pss_cons (ps_set (i := 2) sc_makes.nd rfl (.inl rfl) (C8.pe_c (ok_masks_led T) hr (by decide) (by rfl) (pa_cons (C8.pe_mk (mk_World T) hr (by decide) (by rfl) (pa_cons (pv 0) pa_nil)) (pa_cons pe_int (pa_cons (pe_lc (own := [("block", 3), ("lot", 4)]) (by rfl) sc_makes.nd (pi_tup (pv 1)) (blkOk_by (own := [("block", 3), ("lot", 4)]) (N := N_makes) (sc := C8.fnScope s_makes) (by decide +kernel)) (fun _ _ _ _ _ => (pgtK (K := K) (n := 2) rfl rfl (pgs_cons (pg_name (i := 3) sc_makes.nd rfl (.inl rfl)) (pgs_cons (pg_name (i := 4) sc_makes.nd rfl (.inl rfl)) pgs_nil)) rfl)) (fun _ _ _ _ _ => pts_nil) (fun _ _ _ _ _ => (pv 3))) pa_nil)))))
      (pss_one (ps_ret (pe_cmpR (op_eqD hr.units) (pe_lc (own := [("block", 3), ("lot", 4)]) (by rfl) sc_makes.nd (pi_tup (pv 1)) (blkOk_by (own := [("block", 3), ("lot", 4)]) (N := N_makes) (sc := C8.fnScope s_makes) (by decide +kernel)) (fun _ _ _ _ _ => (pgtK (K := K) (n := 2) rfl rfl (pgs_cons (pg_name (i := 3) sc_makes.nd rfl (.inl rfl)) (pgs_cons (pg_name (i := 4) sc_makes.nd rfl (.inl rfl)) pgs_nil)) rfl)) (fun _ _ _ _ _ => pts_nil) (fun _ _ _ _ _ => (pv 4))) (pe_lc (own := [("here", 5), ("there", 6)]) (by rfl) sc_makes.nd (RZ.pi_zipA (by rfl) T.z_zip (pa_cons (pv 2) (pa_cons (pe_slice sl_list (pv 2) (po_some pe_int) po_none) pa_nil))) (blkOk_by (own := [("here", 5), ("there", 6)]) (N := N_makes) (sc := C8.fnScope s_makes) (by decide +kernel)) (fun _ _ _ _ _ => (pgtK (K := K) (n := 2) rfl rfl (pgs_cons (pg_name (i := 5) sc_makes.nd rfl (.inl rfl)) (pgs_cons (pg_name (i := 6) sc_makes.nd rfl (.inl rfl)) pgs_nil)) rfl)) (fun _ _ _ _ _ => pts_nil) (fun _ _ _ _ _ => (C8.pe_c (ok_lot_of_mask T) hr (by decide) (by rfl) (pa_cons (pe_op op_andX (pv 6) (pe_un un_inv (pv 5))) pa_nil)))) (nomark _)))))), ?_⟩
  refine ⟨_, rfl, x, B, dx, _, _, rfl, hx, T.cB, T.nB_blocks, rfl, _, rfl, _, _, bs, log, rfl, hb, hl, ok, fun H1 f1 => ⟨_, rfl, ?_⟩⟩
  refine ⟨_, rfl, fun y dy hy hdy ndy => ⟨H1, y, dy, _, bs, nd, rfl, rfl, hy, hdy, ndy, hbk.fz f1, bk, fun H2 bn ms f2 hbn hms hw => ⟨rfl, ?_⟩⟩⟩
  have f12 := f1.trans f2
  have hmade := hmk bn hbn
  refine ⟨_, rfl, a, rfl, ⟨_, sT (f12.tup ha)⟩, fun D hD => lc_det (R := RN) (walk_tup (K := K) (a := a) (xs := vs)) pRN hD (by omega) (fun i => log[i]?.bind fun e => some e.1) (fun H f => sT (f.tup (f12.tup ha))) (fun i x H3 H4 C Nx hi f3 hy k1 k2 => ?_) fun H3 f3 hl3 => ?_⟩
  · obtain ⟨rfl, hy⟩ := hy
    obtain ⟨⟨b, l⟩, he, b1, y1, y2, rfl, hb1, r1, r2⟩ := pget (pEN.all (f12.trans f3) hp) hy
    obtain rfl := show y1 = vn b from r1
    exact ⟨b1, _, rfl, sT hb1, rfl, _, _, rfl, _, _, rfl, rfl, rfl, _, rfl, k1 _ _ b (by rw [he]; rfl) .refl rfl⟩
  have e : (List.range vs.length).filterMap (fun i => log[i]?.bind fun e => some e.1) = log.map (fun e => e.1) := by
    rw [lvs, fm_get]
    exact congrFun (List.filterMap_eq_map (f := fun e : Nat × List Nat => e.1)) _
  rw [e] at hl3
  have hblk : ∀ b ∈ log.map (fun e => e.1), b ∈ ms := fun b hb => by
    obtain ⟨e, he, rfl⟩ := List.mem_map.mp hb
    obtain ⟨k, hk⟩ := List.exists_mem_of_ne_nil _ (ok.ne e he)
    exact (hms.2 _).mpr (List.mem_of_getElem? (ok.blk e he k hk))
  have g : Gw bs bn ms := ⟨hbn.1, by omega, hms⟩
  refine ⟨_, _, 0, _, bs, bn, ms, rfl, hw.fz f3, g, ⟨hl3, D, rfl⟩, hblk, by rw [List.length_map]; omega, fun pm H4 f4 hpm => ?_⟩
  have f14 := (f12.trans f3).trans f4
  have eled : ledW bs bn 0 (log.map (fun e => e.1)) = (List.range (log.length + 1)).map fun i => stM log i := by
    unfold ledW
    rw [List.length_map]
    exact List.map_congr_left fun i hi => hmade.led i (by have := List.mem_range.mp hi; omega)
  rw [eled] at hpm
  -- the lots told
  refine ⟨_, rfl, a, rfl, ⟨_, sT (f14.tup ha)⟩, fun D1 hD1 => lc_det (R := TN) (walk_tup (K := K) (a := a) (xs := vs)) pTN hD1 (by omega) (fun i => log[i]?.bind fun e => some e.2) (fun H f => sT (f.tup (f14.tup ha))) (fun i x H5 H6 C Nx hi f5 hy k1 k2 => ?_) fun H5 f5 hl5 => ?_⟩
  · obtain ⟨rfl, hy⟩ := hy
    obtain ⟨⟨b, l⟩, he, b1, y1, y2, rfl, hb1, r1, r2⟩ := pget (pEN.all (f14.trans f5) hp) hy
    exact ⟨b1, _, rfl, sT hb1, rfl, _, _, rfl, _, _, rfl, rfl, rfl, _, rfl, k1 _ _ l (by rw [he]; rfl) .refl r2⟩
  have e2 : (List.range vs.length).filterMap (fun i => log[i]?.bind fun e => some e.2) = log.map (fun e => e.2) := by
    rw [lvs, fm_get]
    exact congrFun (List.filterMap_eq_map (f := fun e : Nat × List Nat => e.2)) _
  rw [e2] at hl5
  have hpm5 := f5.at hpm fun z => z
  -- the lots made
  refine ⟨_, rfl, _, rfl, 1, rfl, pm, _, rfl, sL hpm5, fun pt hpt => ?_⟩
  rw [cut_tail]
  have f6 : Fz N0 H5 (upd H5 pt (.lst (((((List.range (log.length + 1)).map fun i => stM log i).map vn).drop 1)))) := .new hpt
  refine ⟨pm, pt, _, _, rfl, .inl ⟨sL (f6.at hpm5 fun z => z), sL upd_same, fun D2 hD2 => lc_det (R := TN) (walk_zip (K := K) (a := pm) (b := pt) (n := log.length) (xs := ((List.range (log.length + 1)).map fun i => stM log i).map vn) (ys := (((List.range (log.length + 1)).map fun i => stM log i).map vn).drop 1) (by simp)) pTN hD2 (by omega) (fun i => log[i]?.bind fun e => some e.2) (fun H f => ⟨sL (f.at (f6.at hpm5 fun z => z) fun z => z), sL (f.at upd_same fun z => z)⟩) (fun i x H7 H8 C Nx hi f7 hy k1 k2 => ?_) fun H7 f7 hl7 => ?_⟩⟩
  · obtain ⟨p, x1, x2, rfl, hp0, rfl, e1, e2⟩ := hy
    have fn : Fz N0 H7 (upd H7 p (.tup [x1, x2])) := .new hp0
    have e2 : ((((List.range (log.length + 1)).map fun i => stM log i).map vn).drop 1)[i]? = some x2 := e2
    have e1 : (((List.range (log.length + 1)).map fun i => stM log i).map vn)[i]? = some x1 := e1
    rw [List.getElem?_drop, show 1 + i = i + 1 from Nat.add_comm 1 i, vn_get (range_get (by omega))] at e2
    rw [vn_get (range_get (by omega))] at e1
    obtain rfl := Option.some.inj e1
    obtain rfl := Option.some.inj e2
    have he : log[i]? = some (log[i]'hi) := List.getElem?_eq_getElem hi
    have hlot := hmade.lot he (ok.srt _ (List.getElem_mem hi))
    have hlt : nand (stM log (i + 1)) (stM log i) < 2 ^ 64 := by
      refine Nat.lt_of_lt_of_le (lt_of_bits (n := bs.length) fun k hk => ?_) (Nat.pow_le_pow_right (by decide) (by omega))
      have h2 : k ∈ lotM (nand (stM log (i + 1)) (stM log i)) := mem_lotM.mpr hk
      rw [hlot] at h2
      exact (List.getElem?_eq_some_iff.mp (ok.blk _ (List.getElem_mem hi) k h2)).1
    exact ⟨p, _, rfl, sT upd_same, rfl, _, _, rfl, _, _, rfl, rfl, rfl, _, rfl, _, rfl, _, rfl, stM log (i + 1), stM log i, rfl, rfl, _, rfl, hlt, fun v' H9 f9 ht => k1 _ _ _ (by rw [he]; rfl) (fn.trans f9) (by rw [← hlot]; exact ht)⟩
  have e3 : (List.range log.length).filterMap (fun i => log[i]?.bind fun e => some e.2) = log.map (fun e => e.2) := by
    rw [← e2, lvs]
  rw [e3] at hl7
  have f57 := f6.trans f7
  have hl5' : LL TN H7 D1 (log.map (fun e => e.2)) := by
    obtain ⟨ws, g1, g2⟩ := hl5
    exact ⟨ws, f57.at g1 fun z => z, pTN.all f57 g2⟩
  exact eqD_same (d := .list ((log.map (fun e => e.2)).map dTN)) (k := 2) (dpL (fun _ _ => dpTN) hl5') (dpL (fun _ _ => dpTN) hl7) (gdL gdTN _) (by decide) (q H7 ((f14.trans f5).trans f57))
end
end Rw

/-! toldback.py: between_of. -/
namespace Rw
open PySem PySem.Spec PyProof.Rows L2
section
variable {P : Program} {w : World} {K : PySem.W.Frag} {mg : Str → Option Value} {base : Heap} {B W c : Addr}
/-- a table's entry: a late change and the list of what came between -/
def BtR (H : Hp) (kv : Key × V) (e : Nat × List Nat) : Prop := kv.1 = ky e.1 ∧ ∃ l, kv.2 = .ref l ∧ H l = some (.lst (e.2.map vn))
theorem BtR.fz {H H' : Hp} {kvs : List (Key × V)} {es : List (Nat × List Nat)} (h : Paired (BtR H) kvs es) (f : Fz N0 H H') : Paired (BtR H') kvs es :=
  L2.Paired.mapP h fun kv e ⟨h1, l, h2, h3⟩ => ⟨h1, l, h2, f.at h3 fun z => z⟩
theorem BtR.updD {H : Hp} {p : Addr} {k : List (Key × V)} {o : HO} {kvs : List (Key × V)} {es : List (Nat × List Nat)} (h : Paired (BtR H) kvs es) (hp : H p = some (.dK k)) : Paired (BtR (upd H p o)) kvs es :=
  L2.Paired.mapP h fun kv e ⟨h1, l, h2, h3⟩ => ⟨h1, l, h2, by rw [upd_ne fun z => by rw [z, hp] at h3; cases h3]; exact h3⟩
theorem BtR.keys {H : Hp} : ∀ {kvs : List (Key × V)} {es : List (Nat × List Nat)}, Paired (BtR H) kvs es → kvs.map (·.1) = es.map fun e => ky e.1
  | _, _, .nil => rfl
  | _, _, .cons h t => by rw [List.map_cons, List.map_cons, BtR.keys t, h.1]
abbrev s_between_of : Stmt := topS 37
abbrev N_between_of : List Str := ["log", "found", "last", "at", "block", "lot", "came", "other", "more", "change"]
theorem sc_between_of : FnScope N_between_of ["log"] (C8.fnScope s_between_of) := C8.fnScope_by (by decide +kernel)
def sp_between_of : Sp := fun vs H Q _ => ∃ (v : V) (bs : List Nat) (log : List (Nat × List Nat)), vs = [v] ∧ LG H v log ∧ LogOk bs log ∧ ∀ d H' kvs, Fz N0 H H' → Fr H d → H' d = some (.dK kvs) → Paired (BtR H') kvs (lateL log log.length) → Q (.ref d) H'
theorem ok_between_of (T : Tx K mg B W c) : C8.Cal P w K mg base 1 "between_of" sp_between_of [] := by
  refine calD T.d_between_of sc_between_of (fun vs H Q E ⟨_, _, _, h, _⟩ => by rw [h]; rfl) fun f cdv A outer s H vs Q E hr h => ?_
  obtain ⟨v, bs, log, rfl, hl, ok, q⟩ := h
  obtain ⟨a, vs, rfl, ha, hp⟩ := id hl
  have few := ok.few
  have lvs : vs.length = log.length := plen hp
  have llog := ok.len
  have lpart := ok.part.length_eq
  rw [List.length_range] at lpart
  have npart : ((log.map fun e => e.2).flatten).Nodup := ok.part.nodup_iff.mpr List.nodup_range
  refine ⟨_, (pss_cons (ps_set (i := 1) sc_between_of.nd rfl (.inl rfl) pe_dnewK)
      (pss_cons (ps_set (i := 2) sc_between_of.nd rfl (.inl rfl) pe_dnewK)
      (pss_cons (ps_for PassesOwn.never rfl (pi_enumT (by rfl) T.z_enumerate (pa_cons (pv 0) pa_nil)) (pg_tup rfl (pgs_cons (pg_name (i := 3) sc_between_of.nd rfl (.inl rfl)) (pgs_cons (pg_tup rfl (pgs_cons (pg_name (i := 4) sc_between_of.nd rfl (.inl rfl)) (pgs_cons (pg_name (i := 5) sc_between_of.nd rfl (.inl rfl)) pgs_nil))) pgs_nil)))
        (pss_cons (ps_if (pt_cmp (pc_din (hu_of hr) (pv 4) (pv 2)))
          (pss_cons (ps_set (i := 6) sc_between_of.nd rfl (.inl rfl) (pe_lst pa_nil))
          (pss_cons (ps_for PassesOwn.never rfl (pi_tup (pe_slice sl_tupA (pv 0) (po_some (pe_op op_add (pe_dget (hu_of hr) (pv 2) (pv 4) (fun _ _ => rfl)) pe_int)) (po_some (pv 3)))) (pg_tup rfl (pgs_cons (pg_name (i := 7) sc_between_of.nd rfl (.inl rfl)) (pgs_cons (pg_name (i := 8) sc_between_of.nd rfl (.inl rfl)) pgs_nil)))
            (pss_one (ps_expr (pe_bm PySem.F.plainAttrs_list PySem.F.slot_list_extend PySem.F.type_list_extend mt_extT (pv 6) (pa_cons (pv 8) pa_nil)))))
          (pss_one (ps_for PassesOwn.never rfl (pi_tup (pv 5)) (pg_name (i := 9) sc_between_of.nd rfl (.inl rfl))
            (pss_one (ps_dput (hu_of hr) (pv 1) (pv 9) (pe_callB cr_sorted (by rfl) T.z_sorted (by decide +kernel) (pa_cons (pv 6) pa_nil)) rfl))))))
          pss_nil)
        (pss_one (ps_dput (hu_of hr) (pv 2) (pv 4) (pv 3) rfl))))
      (pss_one (ps_ret (pv 1)))))), ?_⟩
  refine fun pf hpf => ?_
  refine fun pl hpl => ?_
  have nfl : pf ≠ pl := fun z => by rw [← z, upd_same] at hpl; cases hpl
  have f0 : Fz N0 H (upd (upd H pf (.dK [])) pl (.dK [])) := (Fz.new hpf).snoc hpl
  have frf : Fr H pf := .inl hpf
  have frl : Fr H pl := (Fz.new (T := N0) hpf).fr hpl
  refine ⟨_, rfl, a, _, rfl, sT (f0.tup ha), for_it (walk_enumT (K := K) (a := a) (xs := vs)) (fun i σ Hc => ∃ (kf kl : List (Key × V)) (u3 u4 u5 u6 u7 u8 u9 : Option V), σ = [some (.ref a), some (.ref pf), some (.ref pl), u3, u4, u5, u6, u7, u8, u9] ∧ Fz N0 H Hc ∧ Hc pf = some (.dK kf) ∧ Hc pl = some (.dK kl) ∧ Paired (BtR Hc) kf (lateL log i) ∧ kl.length ≤ i ∧ ∀ b : Nat, valV kl (.inl (b : Int)) = (lastW log i b).map vn)
    ⟨[], [], none, none, none, none, none, none, none, rfl, f0, by rw [upd_ne nfl, upd_same], upd_same, .nil, Nat.le_refl _, fun b => rfl⟩ (fun i σ Hc _ z => by
      obtain ⟨_, _, _, _, _, _, _, _, _, _, z, _⟩ := z
      exact sT (z.tup ha)) ?_ ?_⟩
  · rintro i y σ Hc H' hi ⟨kf, kl, u3, u4, u5, u6, u7, u8, u9, rfl, fc, hf, hl, hb, lkl, hlast⟩ ⟨p, a1, a2, rfl, hp0, rfl, ea, eb⟩
    obtain rfl := Option.some.inj ea
    have fn : Fz N0 Hc (upd Hc p (.tup [.int (i : Nat), a2])) := .new hp0
    obtain ⟨⟨b, lot⟩, he, e1, y1, y2, rfl, he1, r1, r2⟩ := pget (pEN.all (fc.trans fn) hp) eb
    obtain rfl := show y1 = vn b from r1
    obtain ⟨al, rfl, hal⟩ := tn_iff.mp r2
    have hil : i < log.length := by omega
    have hf1 := fn.dK hf
    have hl1 := fn.dK hl
    have hb1 := BtR.fz hb fn
    have fc1 := fc.trans fn
    have lkf := plen hb
    have hsub : (lateL log i).length ≤ 12 := by
      have h1 := lateL_len (log := log) (i := i) (by omega)
      have h2 := (bro_sub log i).length_le
      omega
    have hbs : (bro log (i + 1)).Nodup := npart.sublist (bro_sub log (i + 1))
    rw [bro_succ he] at hbs
    have llot : lot.length ≤ 12 := by
      have h2 := (bro_sub log (i + 1)).length_le
      rw [bro_succ he, List.length_append] at h2
      have h3 : (bro log i).length + lot.length ≤ ((log.map fun e => e.2).flatten).length := h2
      omega
    refine ⟨p, _, rfl, sT upd_same, rfl, _, _, rfl, _, _, rfl, ⟨e1, _, rfl, sT he1, rfl, _, _, rfl, _, _, rfl, rfl, rfl, ?_⟩⟩
    generalize upd Hc p (.tup [.int (i : Nat), .ref e1]) = H1 at hf1 hl1 hb1 fc1 hal he1
    have l3 := length_putK kl (.inl (b : Int)) (vn i)
    have hlast2 : ∀ b2 : Nat, valV (putK kl (.inl (b : Int)) (vn i)) (.inl (b2 : Int)) = (lastW log (i + 1) b2).map vn := fun b2 => by
      rw [vput]
      unfold lastW
      rw [he]
      by_cases e : b2 = b
      · rw [if_pos e, if_pos (by rw [e]; rfl)]
        rfl
      · rw [if_neg e, show Option.map (fun e : Nat × List Nat => e.1) (some (b, lot)) = some b from rfl, if_neg (fun z => e (Option.some.inj z).symm)]
        exact hlast b2
    have es := lateL_succ he
    cases hj : lastW log i b with
    | none =>
      have e0 := hlast b
      rw [hj] at e0
      rw [hj, List.append_nil] at es
      refine ⟨_, rfl, _, rfl, pl, _, rfl, DGo b hl1, _, rfl, ?_⟩
      rw [e0]
      refine ⟨_, rfl, _, rfl, _, rfl, pl, _, rfl, DPn b _ hl1 (by omega), kf, putK kl (.inl (b : Int)) (vn i), _, _, _, _, _, _, _, rfl, fc1.mut frl hl1, by rw [upd_ne nfl]; exact hf1, upd_same, ?_, by omega, hlast2⟩
      rw [es]
      exact BtR.updD hb1 hl1
    | some j =>
      have e0 := hlast b
      rw [hj] at e0
      rw [hj] at es
      obtain ⟨hji, _, _⟩ := lastW_lt hj
      refine ⟨_, rfl, _, rfl, pl, _, rfl, DGo b hl1, _, rfl, ?_⟩
      rw [e0]
      refine ⟨Nat.zero_le _, fun pc hpc => ?_⟩
      have f2 : Fz N0 H1 (upd H1 pc (.lst [])) := .new hpc
      have frc : Fr H pc := fc1.fr hpc
      have ncf : pc ≠ pf := fun z => by rw [z, hf1] at hpc; cases hpc
      have ncl : pc ≠ pl := fun z => by rw [z, hl1] at hpc; cases hpc
      have hpe := pEN.all (fc1.trans f2) hp
      refine ⟨_, rfl, _, rfl, _, rfl, pl, _, rfl, DGn (f2.dK hl1) e0, j, 1, rfl, rfl, _, rfl, _, rfl, _, rfl, sl_nat (lo := j + 1) (hi := i) ((fc1.trans f2).tup ha) (by omega) (by omega) fun b2 H3 f3 hb2 => ?_⟩
      have f13 := f2.trans f3
      have hps : Paired (EN H3) ((vs.take i).drop (j + 1)) ((log.take i).drop (j + 1)) := pdrop _ (ptake _ (pEN.all f3 hpe))
      have lps := plen hps
      have hpc3 := f3.at (upd_same (H := H1) (a := pc) (o := .lst [])) fun z => z
      have hsubb := (btw_sub log j i).length_le
      refine ⟨b2, rfl, ⟨_, sT hb2⟩, for_it (walk_tup (K := K) (a := b2) (xs := (vs.take i).drop (j + 1))) (fun k σ Hx => ∃ (u7 u8 : Option V), σ = [some (.ref a), some (.ref pf), some (.ref pl), some (vn i), some (vn b), some (.ref al), some (.ref pc), u7, u8, u9] ∧ Fz N0 H1 Hx ∧ Hx b2 = some (.tup ((vs.take i).drop (j + 1))) ∧ Paired (EN Hx) ((vs.take i).drop (j + 1)) ((log.take i).drop (j + 1)) ∧ Hx pc = some (.lst ((((((log.take i).drop (j + 1)).map fun e => e.2).take k).flatten).map vn)))
        ⟨_, _, rfl, f13, hb2, hps, hpc3⟩ (fun k σ Hx _ z => by
          obtain ⟨_, _, _, _, z, _⟩ := z
          exact sT z) ?_ ?_⟩
      · rintro k y σ Hy Hx hk ⟨u7, u8, rfl, f4, hb2, hps, hpc4⟩ ⟨rfl, hy⟩
        obtain ⟨⟨b3, l3⟩, he3, e3, y1, y2, rfl, he3', r1, r2⟩ := pget hps hy
        obtain rfl := show y1 = vn b3 from r1
        obtain ⟨al3, rfl, hal3⟩ := tn_iff.mp r2
        have e2 : (((log.take i).drop (j + 1)).map fun e => e.2)[k]? = some l3 := by rw [List.getElem?_map, he3]; rfl
        have hle := flat_take_le (((log.take i).drop (j + 1)).map fun e => e.2) (k + 1)
        rw [flat_take e2, List.length_append] at hle
        have hle2 : (((log.take i).drop (j + 1)).map fun e => e.2).flatten.length ≤ 12 := Nat.le_trans hsubb (by omega)
        have hsz : ((((((log.take i).drop (j + 1)).map fun e => e.2).take k).flatten).map vn).length + (l3.map vn).length ≤ sizeLine := by
          rw [List.length_map (f := vn), List.length_map (f := vn)]
          exact sz (by omega)
        have ncb : b2 ≠ pc := fun z => by rw [z, hpc4] at hb2; cases hb2
        refine ⟨e3, _, rfl, sT he3', rfl, _, _, rfl, _, _, rfl, rfl, _, rfl, tyL hpc4, _, rfl, pc, al3, _, _, rfl, rfl, hpc4, hal3, hsz, _, _, rfl, f4.mut (.inl hpc) hpc4, by rw [upd_ne ncb]; exact hb2, ?_, ?_⟩
        · have fT : Fz (fun z => z = pc) Hx (upd Hx pc (.lst (((((((log.take i).drop (j + 1)).map fun e => e.2).take k).flatten).map vn) ++ l3.map vn))) := Fz.refl.put hpc4 hpc4 rfl
          exact pEN.all fT hps
        · rw [upd_same, flat_take e2, List.map_append]
      · rintro σ H5 ⟨u7, u8, rfl, f5, hb2, hps, hpc5⟩
        have lm : ((vs.take i).drop (j + 1)).length = (((log.take i).drop (j + 1)).map fun e => e.2).length := by rw [List.length_map, lps]
        rw [lm, List.take_length] at hpc5
        have hbt : (((log.take i).drop (j + 1)).map fun e => e.2).flatten = btw log j i := rfl
        rw [hbt] at hpc5
        have hal5 := f5.tup hal
        have lbt : (btw log j i).length ≤ 12 := by omega
        have nal1 : al ≠ pf := fun z => by rw [z, hf1] at hal; cases hal
        refine ⟨_, rfl, al, rfl, ⟨_, sT hal5⟩, for_it (walk_tup (K := K) (a := al) (xs := lot.map vn)) (fun k σ Hx => ∃ (kf' : List (Key × V)) (u9 : Option V), σ = [some (.ref a), some (.ref pf), some (.ref pl), some (vn i), some (vn b), some (.ref al), some (.ref pc), u7, u8, u9] ∧ Fz N0 H Hx ∧ Hx pf = some (.dK kf') ∧ Hx pl = some (.dK kl) ∧ Hx pc = some (.lst ((btw log j i).map vn)) ∧ Hx al = some (.tup (lot.map vn)) ∧ Paired (BtR Hx) kf' (lateL log i ++ (lot.take k).map fun c => (c, lotM (mskL (btw log j i)))))
          ⟨kf, _, rfl, fc1.trans f5, f5.dK hf1, f5.dK hl1, hpc5, hal5, by
            rw [List.take_zero, List.map_nil, List.append_nil]
            exact BtR.fz hb1 f5⟩ (fun k σ Hx _ z => by
            obtain ⟨_, _, _, _, _, _, _, z, _⟩ := z
            exact sT z) ?_ ?_⟩
        · rintro k y σ Hy Hx hk ⟨kf', u9, rfl, f6, g1, g2, g3, g4, g5⟩ ⟨rfl, hy⟩
          obtain ⟨ch, hch, rfl⟩ := vn_get' hy
          have g3' := g3
          rw [map_vn] at g3'
          have nbt : (btw log j i).Nodup := npart.sublist (btw_sub log j i)
          refine ⟨_, rfl, pc, _, rfl, sL g3', by rw [List.length_map]; omega, fun ns' p1 hpm hps hp1 => ?_⟩
          have es1 := sorted_msk hpm hps nbt
          have f7 : Fz N0 Hx (upd Hx p1 (.lst (ns'.map V.int))) := .new hp1
          have hp1' : (upd Hx p1 (.lst (ns'.map V.int))) p1 = some (.lst ((lotM (mskL (btw log j i))).map vn)) := by rw [upd_same, es1, ← map_vn]
          have lkf' := plen g5
          rw [List.length_append, List.length_map, List.length_take] at lkf'
          have nf1 : p1 ≠ pf := fun z => by rw [z, g1] at hp1; cases hp1
          refine ⟨_, rfl, _, rfl, pf, _, rfl, DPn ch _ (f7.dK g1) (by omega), putK kf' (.inl (ch : Int)) (.ref p1), _, rfl, (f6.trans f7).mut frf (f7.dK g1), upd_same, by rw [upd_ne nfl.symm]; exact f7.dK g2, by rw [upd_ne ncf]; exact f7.at g3 fun z => z, by rw [upd_ne nal1]; exact f7.tup g4, ?_⟩
          have g6 := BtR.updD (o := .dK (putK kf' (.inl (ch : Int)) (.ref p1))) (BtR.fz g5 f7) (f7.dK g1)
          have hout : valV kf' (.inl (ch : Int)) = none := valV_out (by
            rw [BtR.keys g5]
            intro z
            obtain ⟨e, he, ee⟩ := List.mem_map.mp z
            have ech : e.1 = ch := ky_inj ee
            have nd2 := List.nodup_append.mp hbs
            have hcl : ch ∈ lot := List.mem_of_getElem? hch
            rcases List.mem_append.mp he with q | q
            · have := lateL_bro e q
              rw [ech] at this
              exact nd2.2.2 ch this ch hcl rfl
            · obtain ⟨c2, hc2, rfl⟩ := List.mem_map.mp q
              have h1 : lot.Nodup := nd2.2.1
              have h3 := List.nodup_append.mp (show (lot.take k ++ [ch]).Nodup by rw [← take_succ_get hch]; exact h1.sublist (List.take_sublist _ _))
              exact h3.2.2 c2 hc2 ch (by simp) ech)
          rw [putK_new _ hout] at g6 ⊢
          rw [take_succ_get hch, List.map_append, ← List.append_assoc]
          exact papp g6 (.cons ⟨rfl, p1, rfl, by rw [upd_ne nf1]; exact hp1'⟩ .nil)
        · rintro σ H6 ⟨kf', u9, rfl, f6, g1, g2, g3, g4, g5⟩
          rw [List.length_map, List.take_length, ← es] at g5
          exact ⟨_, rfl, _, rfl, _, rfl, pl, _, rfl, DPn b _ g2 (by omega), kf', putK kl (.inl (b : Int)) (vn i), _, _, _, _, _, _, _, rfl, f6.mut frl g2, by rw [upd_ne nfl]; exact g1, upd_same, BtR.updD g5 g2, by omega, hlast2⟩
  · rintro σ Hc ⟨kf, kl, u3, u4, u5, u6, u7, u8, u9, rfl, fc, hf, hl, hb, lkl, hlast⟩
    rw [lvs] at hb
    exact ⟨_, rfl, q pf Hc kf fc frf hf hb⟩
end
end Rw

/-! toldback.py: times_of, pairs_of, fewest_needs. -/
namespace Rw
open PySem PySem.Spec PyProof.Rows L2
section
variable {P : Program} {w : World} {K : PySem.W.Frag} {mg : Str → Option Value} {base : Heap} {B W c : Addr}
theorem LogOk.nd {bs : List Nat} {log : List (Nat × List Nat)} (h : LogOk bs log) : ((log.map fun e => e.2).flatten).Nodup := h.part.nodup_iff.mpr List.nodup_range
/-- a table of times -/
def TimK (kvs : List (Key × V)) (log : List (Nat × List Nat)) : Prop := ∀ (i : Nat) (e : Nat × List Nat) (c : Nat), log[i]? = some e → c ∈ e.2 → valV kvs (.inl (c : Int)) = some (vn i)
abbrev s_times_of : Stmt := topS 38
abbrev N_times_of : List Str := ["log", "found", "at", "block", "lot", "change"]
theorem sc_times_of : FnScope N_times_of ["log"] (C8.fnScope s_times_of) := C8.fnScope_by (by decide +kernel)
def sp_times_of : Sp := fun vs H Q _ => ∃ (v : V) (bs : List Nat) (log : List (Nat × List Nat)), vs = [v] ∧ LG H v log ∧ LogOk bs log ∧ ∀ d H' kvs, Fz N0 H H' → H' d = some (.dK kvs) → TimK kvs log → Q (.ref d) H'
theorem ok_times_of (T : Tx K mg B W c) : C8.Cal P w K mg base 1 "times_of" sp_times_of [] := by
  refine calD T.d_times_of sc_times_of (fun vs H Q E ⟨_, _, _, h, _⟩ => by rw [h]; rfl) fun f cdv A outer s H vs Q E hr h => ?_
  obtain ⟨v, bs, log, rfl, hl, ok, q⟩ := h
  obtain ⟨a, vs, rfl, ha, hp⟩ := id hl
  have few := ok.few
  have lvs : vs.length = log.length := plen hp
  have llog := ok.len
  have lpart := ok.part.length_eq
  rw [List.length_range] at lpart
  refine ⟨_, (pss_cons (ps_set (i := 1) sc_times_of.nd rfl (.inl rfl) pe_dnewK)
      (pss_cons (ps_for PassesOwn.never rfl (pi_enumT (by rfl) T.z_enumerate (pa_cons (pv 0) pa_nil)) (pg_tup rfl (pgs_cons (pg_name (i := 2) sc_times_of.nd rfl (.inl rfl)) (pgs_cons (pg_tup rfl (pgs_cons (pg_name (i := 3) sc_times_of.nd rfl (.inl rfl)) (pgs_cons (pg_name (i := 4) sc_times_of.nd rfl (.inl rfl)) pgs_nil))) pgs_nil)))
        (pss_one (ps_for PassesOwn.never rfl (pi_tup (pv 4)) (pg_name (i := 5) sc_times_of.nd rfl (.inl rfl))
          (pss_one (ps_dput (hu_of hr) (pv 1) (pv 5) (pv 2) rfl)))))
      (pss_one (ps_ret (pv 1))))), ?_⟩
  refine fun pf hpf => ?_
  have f0 : Fz N0 H (upd H pf (.dK [])) := .new hpf
  refine ⟨_, rfl, a, _, rfl, sT (f0.tup ha), for_it (walk_enumT (K := K) (a := a) (xs := vs)) (fun i σ Hc => ∃ (kf : List (Key × V)) (u2 u3 u4 u5 : Option V), σ = [some (.ref a), some (.ref pf), u2, u3, u4, u5] ∧ Fz N0 H Hc ∧ Hc pf = some (.dK kf) ∧ kf.length ≤ i * 12 ∧ ∀ (j : Nat) (e : Nat × List Nat) (c : Nat), j < i → log[j]? = some e → c ∈ e.2 → valV kf (.inl (c : Int)) = some (vn j))
    ⟨[], none, none, none, none, rfl, f0, upd_same, Nat.zero_le _, fun j e c h => by omega⟩ (fun i σ Hc _ z => by
      obtain ⟨_, _, _, _, _, _, z, _⟩ := z
      exact sT (z.tup ha)) ?_ ?_⟩
  · rintro i y σ Hc H' hi ⟨kf, u2, u3, u4, u5, rfl, fc, hf, lkf, hv⟩ ⟨p, a1, a2, rfl, hp0, rfl, ea, eb⟩
    obtain rfl := Option.some.inj ea
    have fn : Fz N0 Hc (upd Hc p (.tup [.int (i : Nat), a2])) := .new hp0
    obtain ⟨⟨b, lot⟩, he, e1, y1, y2, rfl, he1, r1, r2⟩ := pget (pEN.all (fc.trans fn) hp) eb
    obtain rfl := show y1 = vn b from r1
    obtain ⟨al, rfl, hal⟩ := tn_iff.mp r2
    have hf1 := fn.dK hf
    have fc1 := fc.trans fn
    have llot : lot.length ≤ 12 := by
      have h2 := (bro_sub log (i + 1)).length_le
      rw [bro_succ he, List.length_append] at h2
      have h3 : (bro log i).length + lot.length ≤ ((log.map fun e => e.2).flatten).length := h2
      omega
    have naf : al ≠ pf := fun z => by rw [z, hf1] at hal; cases hal
    refine ⟨p, _, rfl, sT upd_same, rfl, _, _, rfl, _, _, rfl, ⟨e1, _, rfl, sT he1, rfl, _, _, rfl, _, _, rfl, rfl, rfl, ?_⟩⟩
    refine ⟨_, rfl, al, rfl, ⟨_, sT hal⟩, for_it (walk_tup (K := K) (a := al) (xs := lot.map vn)) (fun k σ Hx => ∃ (kf : List (Key × V)) (u5 : Option V), σ = [some (.ref a), some (.ref pf), some (vn i), some (vn b), some (.ref al), u5] ∧ Fz N0 H Hx ∧ Hx pf = some (.dK kf) ∧ Hx al = some (.tup (lot.map vn)) ∧ kf.length ≤ i * 12 + k ∧ (∀ (j : Nat) (e : Nat × List Nat) (c : Nat), j < i → log[j]? = some e → c ∈ e.2 → valV kf (.inl (c : Int)) = some (vn j)) ∧ ∀ c ∈ lot.take k, valV kf (.inl (c : Int)) = some (vn i))
      ⟨kf, _, rfl, fc1, hf1, hal, by omega, hv, fun c h => by simp at h⟩ (fun k σ Hx _ z => by
        obtain ⟨_, _, _, _, _, z, _⟩ := z
        exact sT z) ?_ ?_⟩
    · rintro k y σ Hy Hx hk ⟨kf, u5, rfl, f6, g1, g2, g3, g4, g5⟩ ⟨rfl, hy⟩
      obtain ⟨ch, hch, rfl⟩ := vn_get' hy
      rw [List.length_map] at hk
      have l3 := length_putK kf (.inl (ch : Int)) (vn i)
      refine ⟨_, rfl, _, rfl, _, rfl, pf, _, rfl, DPn ch _ g1 (by omega), putK kf (.inl (ch : Int)) (vn i), _, rfl, f6.mut (.inl hpf) g1, upd_same, by rw [upd_ne naf]; exact g2, by omega, fun j e c hj he' hc => ?_, fun c hc => ?_⟩
      · rw [vput, if_neg fun z => by
          subst z
          have := bro_once ok.nd he' he hc (List.mem_of_getElem? hch)
          omega]
        exact g4 j e c hj he' hc
      · rw [vput]
        by_cases z : c = ch
        · rw [if_pos z]
        · rw [if_neg z]
          rw [take_succ_get hch, List.mem_append, List.mem_singleton] at hc
          exact g5 c (hc.resolve_right z)
    · rintro σ Hx ⟨kf, u5, rfl, f6, g1, g2, g3, g4, g5⟩
      rw [List.length_map] at g3 g5
      rw [List.take_length] at g5
      refine ⟨kf, _, _, _, _, rfl, f6, g1, by omega, fun j e c hj he' hc => ?_⟩
      by_cases z : j = i
      · subst z
        rw [he] at he'
        obtain rfl := Option.some.inj he'
        exact g5 c hc
      · exact g4 j e c (by omega) he' hc
  · rintro σ Hc ⟨kf, u2, u3, u4, u5, rfl, fc, hf, lkf, hv⟩
    rw [lvs] at hv
    exact ⟨_, rfl, q pf Hc kf fc hf fun i e c h1 h2 => hv i e c (List.getElem?_eq_some_iff.mp h1).1 h1 h2⟩
abbrev s_pairs_of : Stmt := topS 39
abbrev N_pairs_of : List Str := ["blocks", "many", "change", "other"]
theorem sc_pairs_of : FnScope N_pairs_of ["blocks"] (C8.fnScope s_pairs_of) := C8.fnScope_by (by decide +kernel)
def sp_pairs_of : Sp := fun vs H Q _ => ∃ (v : V) (bs : List Nat), vs = [v] ∧ TN H v bs ∧ bs.length < 64 ∧ ∀ p H' zs, Fz N0 H H' → LL PN H' p zs → zs.length ≤ 64 * 64 → (∀ x : Nat × Nat, x ∈ zs ↔ x.1 < bs.length ∧ x.2 < bs.length ∧ x.1 ≠ x.2) → Q (.ref p) H'
theorem ok_pairs_of (T : Tx K mg B W c) : C8.Cal P w K mg base 1 "pairs_of" sp_pairs_of [] := by
  refine calD T.d_pairs_of sc_pairs_of (fun vs H Q E ⟨_, _, h, _⟩ => by rw [h]; rfl) fun f cdv A outer s H vs Q E hr h => ?_
  obtain ⟨v, bs, rfl, ht, hz, q⟩ := h
  obtain ⟨a, rfl, ha⟩ := tn_iff.mp ht
  refine ⟨_, (pss_cons (ps_set (i := 1) sc_pairs_of.nd rfl (.inr rfl) (pe_callTy cr_range1 (by rfl) T.z_range (by decide +kernel) (pa_cons (pe_callB call_len_seq (by rfl) T.z_len PySem.boot_len (pa_cons (pv 0) pa_nil)) pa_nil)))
      (pss_one (ps_ret (pe_lc2 (own := [("change", 2), ("other", 3)]) (vs1 := [3]) (by rfl) sc_pairs_of.nd (pi_rng (pv 1)) (blkOk_by (own := [("change", 2), ("other", 3)]) (N := N_pairs_of) (sc := C8.fnScope s_pairs_of) (by decide +kernel)) (by decide +kernel) (fun _ _ _ _ _ => (pg_name (i := 2) sc_pairs_of.nd rfl (.inl rfl))) (fun _ _ _ _ _ => pts_nil) (fun _ _ _ _ _ => (pi_rng (pv 1))) (fun _ _ _ _ _ => (pg_name (i := 3) sc_pairs_of.nd rfl (.inl rfl))) (fun _ _ _ _ _ => (pts_one (pt_cmpR op_ne (pv 2) (pv 3) (nomark _)))) (fun _ _ _ _ _ => (pe_tup (pa_cons (pv 2) (pa_cons (pv 3) pa_nil)))))))), ?_⟩
  refine ⟨_, rfl, a, _, rfl, .inr (sT ha), _, rfl, fun pr hpr => ?_⟩
  rw [List.length_map]
  have f1 : Fz N0 H (upd H pr (.rng 0 (bs.length : Int))) := .new hpr
  have hr1 : (upd H pr (.rng 0 (bs.length : Int))) pr = some (.rng 0 (bs.length : Int)) := upd_same
  generalize upd H pr (.rng 0 (bs.length : Int)) = H1 at f1 hr1
  refine ⟨_, rfl, pr, bs.length, rfl, hr1, by omega, fun D hD => ?_⟩
  have wr : Walk (Itr 0 bs.length) bs.length (fun _ => True) (YFn fun i => .int (0 + (i : Nat))) := walk_range
  refine ⟨fun i m Hc => m = bs.length - i ∧ i ≤ bs.length ∧ ∃ zs, Fz N0 H1 Hc ∧ LL PN Hc D zs ∧ zs.length ≤ i * 64 ∧ ∀ x : Nat × Nat, x ∈ zs ↔ x.1 < i ∧ x.2 < bs.length ∧ x.1 ≠ x.2, ⟨_, rfl, Nat.zero_le _, [], .new hD, ⟨[], upd_same, .nil⟩, Nat.zero_le _, fun x => by simp⟩, ?_⟩
  rintro i m Hc ⟨rfl, hi, zs, fc, hl, lz, hzs⟩
  by_cases hin : i = bs.length
  · subst hin
    exact .inl ⟨wr.stops _ trivial, q D Hc zs (f1.trans fc) hl (by omega) hzs⟩
  refine .inr ⟨wr.goes i Hc (by omega) trivial, _, fun H' z => z, fun x H' hy => ?_⟩
  obtain ⟨rfl, rfl⟩ := wr.yields i Hc x H' (by omega) trivial hy
  refine ⟨rfl, ?_⟩
  refine ⟨_, rfl, pr, bs.length, rfl, fc.at hr1 (fun z => z), by omega, ?_⟩
  refine ⟨fun j k Hx => k = bs.length - j ∧ j ≤ bs.length ∧ ∃ zs, Fz N0 H1 Hx ∧ LL PN Hx D zs ∧ zs.length ≤ i * 64 + j ∧ ∀ x : Nat × Nat, x ∈ zs ↔ (x.1 < i ∧ x.2 < bs.length ∧ x.1 ≠ x.2) ∨ (x.1 = i ∧ x.2 < j ∧ x.1 ≠ x.2), ⟨_, rfl, Nat.zero_le _, zs, fc, hl, by omega, fun x => by rw [hzs]; simp⟩, ?_⟩
  rintro j k Hx ⟨rfl, hj, zs, fx, hl, lz, hzs⟩
  by_cases hjn : j = bs.length
  · subst hjn
    refine .inl ⟨wr.stops _ trivial, _, by omega, rfl, by omega, zs, fx, hl, by omega, fun x => ?_⟩
    rw [hzs]
    constructor
    · rintro (h | h) <;> omega
    · intro h
      by_cases z : x.1 = i
      · exact .inr ⟨z, h.2⟩
      · exact .inl ⟨by omega, h.2⟩
  refine .inr ⟨wr.goes j Hx (by omega) trivial, _, fun H' z => z, fun x H' hy => ?_⟩
  obtain ⟨rfl, rfl⟩ := wr.yields j Hx x H' (by omega) trivial hy
  refine ⟨rfl, _, rfl, _, rfl, rfl, _, rfl, ?_⟩
  have e1 : (V.int (0 + ((i : Nat) : Int))) = vn i := by rw [Int.zero_add]
  have e2 : (V.int (0 + ((j : Nat) : Int))) = vn j := by rw [Int.zero_add]
  by_cases hij : i = j
  · have e0 : (!decide (V.int (0 + ((i : Nat) : Int)) = V.int (0 + ((j : Nat) : Int)))) = false := by rw [e1, e2, dvn, decide_eq_true hij]; rfl
    rw [e0]
    refine ⟨_, by omega, rfl, by omega, zs, fx, hl, by omega, fun x => ?_⟩
    rw [hzs]
    omega
  · have e0 : (!decide (V.int (0 + ((i : Nat) : Int)) = V.int (0 + ((j : Nat) : Int)))) = true := by rw [e1, e2, dvn, decide_eq_false hij]; rfl
    rw [e0]
    obtain ⟨acc, g1, g2⟩ := hl
    refine ⟨_, rfl, _, rfl, sz (show 2 ≤ 100000 by decide), fun p hp => ?_⟩
    have fp : Fz N0 H' (upd H' p (.tup [.int (0 + ((i : Nat) : Int)), .int (0 + ((j : Nat) : Int))])) := .new hp
    have g3 := fp.at g1 fun z => z
    have la := plen g2
    refine ⟨acc, g3, by rw [la]; exact szl (by omega), _, by omega, rfl, by omega, zs ++ [(i, j)], (fx.trans fp).mut (.inl hD) g3, ⟨_, upd_same, ?_⟩, by rw [List.length_append, List.length_singleton]; omega, fun x => ?_⟩
    · have fT : Fz (fun z => z = D) (upd H' p (.tup [.int (0 + ((i : Nat) : Int)), .int (0 + ((j : Nat) : Int))])) (upd (upd H' p (.tup [.int (0 + ((i : Nat) : Int)), .int (0 + ((j : Nat) : Int))])) D (.lst (acc ++ [.ref p]))) := Fz.refl.put g3 g3 rfl
      exact pPN.all fT (papp (pPN.all fp g2) (.cons ⟨p, _, _, rfl, upd_same, e1, e2⟩ .nil))
    · rw [List.mem_append, hzs, List.mem_singleton, Prod.ext_iff]
      show _ ∨ (x.1 = i ∧ x.2 = j) ↔ _
      omega
abbrev s_fewest_needs : Stmt := topS 40
abbrev N_fewest_needs : List Str := ["blocks", "log"]
theorem sc_fewest_needs : FnScope N_fewest_needs ["blocks", "log"] (C8.fnScope s_fewest_needs) := C8.fnScope_by (by decide +kernel)
def sp_fewest_needs : Sp := fun vs H Q _ => ∃ (vb v : V) (bs : List Nat) (log : List (Nat × List Nat)), vs = [vb, v] ∧ TN H vb bs ∧ LG H v log ∧ LogOk bs log ∧ ∀ H', Fz N0 H H' → Q (vn (lateL log log.length).length) H'
theorem ok_fewest_needs (T : Tx K mg B W c) : C8.Cal P w K mg base 7 "fewest_needs" sp_fewest_needs [] := by
  refine calD T.d_fewest_needs sc_fewest_needs (fun vs H Q E ⟨_, _, _, _, h, _⟩ => by rw [h]; rfl) fun f cdv A outer s H vs Q E hr h => ?_
  obtain ⟨vb, v, bs, log, rfl, ht, hl, ok, q⟩ := h
  refine ⟨_, (pss_cons (ps_expr (C8.pe_c (ok_check_log T) hr (by decide) (by rfl) (pa_cons (pv 0) (pa_cons (pv 1) pa_nil))))
      (pss_one (ps_ret (pe_callB call_lenD (by rfl) T.z_len PySem.boot_len (pa_cons (C8.pe_c (ok_between_of T) hr (by decide) (by rfl) (pa_cons (pv 1) pa_nil)) pa_nil))))), ?_⟩
  refine ⟨_, rfl, _, rfl, vb, v, bs, log, rfl, ht, hl, ok, fun H1 f1 => ⟨_, rfl, v, bs, log, rfl, pLG.go f1 hl, ok, fun d H2 kvs f2 _ hd hp => ⟨d, kvs, rfl, hd, ?_⟩⟩⟩
  rw [plen hp]
  exact q H2 (f1.trans f2)
end
end Rw

/-! toldback.py: the books told back. -/
namespace Rw
open PySem PySem.Spec PyProof.Rows L2
section
variable {P : Program} {w : World} {K : PySem.W.Frag} {mg : Str → Option Value} {base : Heap} {B W c : Addr}
/-- a sorted list of these pairs -/
def SN (nd l : List (Nat × Nat)) : Prop := nd.Pairwise PLt ∧ ∀ p, p ∈ nd ↔ p ∈ l
theorem lateL_blen {bs : List Nat} {log : List (Nat × List Nat)} (ok : LogOk bs log) : (lateL log log.length).length ≤ bs.length := by
  have h1 := lateL_len (log := log) (i := log.length) (Nat.le_refl _)
  have h2 := (bro_sub log log.length).length_le
  have h3 := ok.part.length_eq
  rw [List.length_range] at h3
  omega
theorem lateL_mem {bs : List Nat} {log : List (Nat × List Nat)} (ok : LogOk bs log) {p : Nat × List Nat} (h : p ∈ lateL log log.length) : p.1 < bs.length ∧ p.2 ≠ [] ∧ ∀ d ∈ p.2, d < bs.length := by
  refine ⟨List.mem_range.mp (ok.part.mem_iff.mp ((bro_sub log log.length).mem (lateL_bro p h))), lateL_ne ok.ne ok.adj (Nat.le_refl _) p h, ?_⟩
  have main : ∀ i, ∀ p ∈ lateL log i, ∀ d ∈ p.2, d < bs.length := by
    intro i
    induction i with
    | zero => intro p h; simp [lateL] at h
    | succ i ih =>
      intro p h d hd
      cases e : log[i]? with
      | none =>
        have : lateL log (i + 1) = lateL log i := by
          show lateL log i ++ _ = _
          rw [e]
          simp
        rw [this] at h
        exact ih p h d hd
      | some x =>
        rw [lateL_succ e] at h
        rcases List.mem_append.mp h with q | q
        · exact ih p q d hd
        · cases hj : lastW log i x.1 with
          | none => rw [hj] at q; cases q
          | some j =>
            rw [hj] at q
            obtain ⟨c, hc, rfl⟩ := List.mem_map.mp q
            exact List.mem_range.mp (ok.part.mem_iff.mp ((btw_sub log j i).mem (mskL_bit.mp (mem_lotM.mp hd))))
  exact main _ p h
theorem freeN_lt {bs : List Nat} {log : List (Nat × List Nat)} (ok : LogOk bs log) {p : Nat × Nat} (h : p ∈ freeN log) : p.1 < bs.length ∧ p.2 < bs.length := by
  obtain ⟨e, he, rfl⟩ := List.mem_map.mp h
  obtain ⟨h1, h2, h3⟩ := lateL_mem ok he
  refine ⟨h1, h3 _ ?_⟩
  obtain ⟨c, l⟩ := e
  cases l with
  | nil => exact (h2 rfl).elim
  | cons x l => exact List.mem_cons_self
theorem valV_nd : ∀ {kvs : List (Key × V)} {i : Nat} {k : Key} {v : V}, (kvs.map (·.1)).Nodup → kvs[i]? = some (k, v) → valV kvs k = some v
  | [], _, _, _, _, h => by simp at h
  | p :: r, 0, k, v, _, h => by
    simp at h
    rw [h]
    exact valV_pos rfl
  | p :: r, i + 1, k, v, nd, h => by
    rw [List.map_cons, List.nodup_cons] at nd
    have h' : r[i]? = some (k, v) := by simpa using h
    rw [valV_neg fun z => nd.1 (z ▸ List.mem_map_of_mem (List.mem_of_getElem? h')), valV_nd nd.2 h']
abbrev s_freest_of : Stmt := topS 41
abbrev N_freest_of : List Str := ["blocks", "log", "between", "change"]
theorem sc_freest_of : FnScope N_freest_of ["blocks", "log"] (C8.fnScope s_freest_of) := C8.fnScope_by (by decide +kernel)
def sp_freest_of (B : Addr) : Sp := fun vs H Q _ => ∃ (vb v : V) (bs : List Nat) (log : List (Nat × List Nat)), vs = [vb, v] ∧ TN H vb bs ∧ LG H v log ∧ LogOk bs log ∧ ∀ nd v' H', SN nd (freeN log) → Fz N0 H H' → IsB B H' v' bs nd → Q v' H'
theorem ok_freest_of (T : Tx K mg B W c) : C8.Cal P w K mg base 7 "freest_of" (sp_freest_of B) [] := by
  refine calD T.d_freest_of sc_freest_of (fun vs H Q E ⟨_, _, _, _, h, _⟩ => by rw [h]; rfl) fun f cdv A outer s H vs Q E hr h => ?_
  obtain ⟨vb, v, bs, log, rfl, ht, hl, ok, q⟩ := h
  have few := ok.few
  have lle := lateL_blen ok
  refine ⟨_, (pss_cons (ps_set (i := 2) sc_freest_of.nd rfl (.inr rfl) (C8.pe_c (ok_between_of T) hr (by decide) (by rfl) (pa_cons (pv 1) pa_nil)))
      (pss_one (ps_ret (C8.pe_c (ok_raw_book T) hr (by decide) (by rfl) (pa_cons (pv 0) (pa_cons (pe_lock (pe_lc (own := [("change", 3)]) (by rfl) sc_freest_of.nd (pi_keys (pv 2)) (blkOk_by (own := [("change", 3)]) (N := N_freest_of) (sc := C8.fnScope s_freest_of) (by decide +kernel)) (fun _ _ _ _ _ => (pg_name (i := 3) sc_freest_of.nd rfl (.inl rfl))) (fun _ _ _ _ _ => pts_nil) (fun _ _ _ _ _ => (pe_tup (pa_cons (pv 3) (pa_cons (pe_ix (ixLk (K := K) rfl) (pe_dget (hu_of hr) (pv 2) (pv 3) (fun _ _ => rfl)) pe_int (fun _ _ => rfl)) pa_nil)))))) pa_nil)))))), ?_⟩
  refine ⟨_, rfl, v, bs, log, rfl, hl, ok, fun d H1 kvs f1 frd hd hb => ⟨_, rfl, ?_⟩⟩
  have lk := plen hb
  have hknd : (kvs.map (·.1)).Nodup := by
    have e : (lateL log log.length).map (fun e => ky e.1) = ((lateL log log.length).map fun e => e.1).map ky := by rw [List.map_map]; rfl
    rw [BtR.keys hb, e]
    have h1 := (ok.nd.sublist (bro_sub log log.length)).sublist (lateL_sub (log := log) (Nat.le_refl _))
    exact List.Pairwise.map ky (fun a b h z => h (ky_inj z)) h1
  refine ⟨d, .dK kvs, hd, trivial, fun od => ?_⟩
  have fL : Fz N0 H (upd H1 d (.frz od (.dK kvs))) := f1.mut frd hd
  have hdL : (upd H1 d (.frz od (.dK kvs))) d = some (.frz od (.dK kvs)) := upd_same
  have hbL := BtR.updD (o := .frz od (.dK kvs)) hb hd
  generalize upd H1 d (.frz od (.dK kvs)) = HL at fL hdL hbL
  refine ⟨_, rfl, d, od, rfl, .inl ⟨kvs, hdL, fun D hD => lc_det (R := PN) (walk_keys (d := d) (o := od) (kvs := kvs)) pPN hD (by omega) (fun i => (lateL log log.length)[i]?.bind fun e => some (e.1, e.2.headD 0)) (fun H f => f.frz hdL) (fun i x H2 H3 C Nx hi f2 hy k1 k2 => ?_) fun H2 f2 hl2 => ?_⟩⟩
  · obtain ⟨rfl, k, v2, hkv, rfl⟩ := hy
    obtain ⟨e, he, hk1, l, hl1, hl2⟩ := pget (BtR.fz hbL f2) hkv
    have hk1 : k = ky e.1 := hk1
    have hl1 : v2 = .ref l := hl1
    subst hk1 hl1
    have hv : valV kvs (ky e.1) = some (.ref l) := valV_nd hknd hkv
    obtain ⟨_, hne, _⟩ := lateL_mem ok (List.mem_of_getElem? he)
    obtain ⟨c, L⟩ := e
    cases L with
    | nil => exact (hne rfl).elim
    | cons x L =>
      refine ⟨rfl, _, rfl, _, rfl, _, rfl, d, .ref l, rfl, .inl ⟨kvs, ky c, .inr ⟨od, f2.frz hdL⟩, rfl, hv.symm⟩, l, _, 0, vn x, rfl, rfl, sL hl2, atN (i := 0) rfl, sz (show 2 ≤ 100000 by decide), fun p hp => k1 _ _ (c, x) (by rw [he]; rfl) (.new hp) ⟨p, _, _, rfl, upd_same, rfl, rfl⟩⟩
  · have e : (List.range kvs.length).filterMap (fun i => (lateL log log.length)[i]?.bind fun e => some (e.1, e.2.headD 0)) = freeN log := by
      rw [lk, fm_get]
      exact congrFun (List.filterMap_eq_map (f := fun e : Nat × List Nat => (e.1, e.2.headD 0))) _
    rw [e] at hl2
    have hd2 := f2.frz hdL
    refine ⟨hd2, ?_⟩
    have nDd : D ≠ d := fun z => by rw [z, hdL] at hD; cases hD
    have f3 : Fz N0 H (upd H2 d (.dK kvs)) := (fL.trans f2).mut frd hd2
    refine ⟨vb, D, bs, freeN log, rfl, pTN.go f3 ht, LLp.upd hl2 hd2 (fun ys z => nomatch z) nDd, fun p hp => by have := freeN_lt ok hp; omega, fun L hn hL => ?_, fun nd v' H' h1 h2 f4 h4 => q nd v' H' ⟨h1, h2⟩ (f3.trans f4) h4⟩
    have := nodup_sub hn hL
    have e2 : (freeN log).length = (lateL log log.length).length := List.length_map _
    omega
abbrev s_freest_book : Stmt := topS 42
abbrev N_freest_book : List Str := ["blocks", "log"]
theorem sc_freest_book : FnScope N_freest_book ["blocks", "log"] (C8.fnScope s_freest_book) := C8.fnScope_by (by decide +kernel)
def sp_freest_book (B : Addr) : Sp := fun vs H Q _ => ∃ (vb v : V) (bs : List Nat) (log : List (Nat × List Nat)), vs = [vb, v] ∧ TN H vb bs ∧ LG H v log ∧ LogOk bs log ∧ ∀ nd v' H', SN nd (freeN log) → Fz N0 H H' → IsB B H' v' bs nd → Q v' H'
theorem ok_freest_book (T : Tx K mg B W c) : C8.Cal P w K mg base 8 "freest_book" (sp_freest_book B) [] := by
  refine calD T.d_freest_book sc_freest_book (fun vs H Q E ⟨_, _, _, _, h, _⟩ => by rw [h]; rfl) fun f cdv A outer s H vs Q E hr h => ?_
  obtain ⟨vb, v, bs, log, rfl, ht, hl, ok, q⟩ := h
  refine ⟨_, (pss_cons (ps_expr (C8.pe_c (ok_check_log T) hr (by decide) (by rfl) (pa_cons (pv 0) (pa_cons (pv 1) pa_nil))))
      (pss_one (ps_ret (C8.pe_c (ok_freest_of T) hr (by decide) (by rfl) (pa_cons (pv 0) (pa_cons (pv 1) pa_nil)))))), ?_⟩
  exact ⟨_, rfl, _, rfl, vb, v, bs, log, rfl, ht, hl, ok, fun H1 f1 => ⟨_, rfl, _, rfl, vb, v, bs, log, rfl, pTN.go f1 ht, pLG.go f1 hl, ok, fun nd v' H' h1 f2 h2 => q nd v' H' h1 (f1.trans f2) h2⟩⟩
/-- each change needs all that came ahead -/
def FullN (bs : List Nat) (log : List (Nat × List Nat)) (p : Nat × Nat) : Prop := p.1 < bs.length ∧ p.2 < bs.length ∧ tim log p.2 < tim log p.1
theorem tim_get {bs : List Nat} {log : List (Nat × List Nat)} (ok : LogOk bs log) {c : Nat} (h : c < bs.length) : ∃ e, log[tim log c]? = some e ∧ c ∈ e.2 := by
  have h1 : c ∈ (log.map fun e => e.2).flatten := ok.part.mem_iff.mpr (List.mem_range.mpr h)
  obtain ⟨l, hl, hc⟩ := List.mem_flatten.mp h1
  obtain ⟨e, he, rfl⟩ := List.mem_map.mp hl
  obtain ⟨i, hi, hie⟩ := List.getElem_of_mem he
  have he2 : log[i]? = some e := by rw [List.getElem?_eq_getElem hi, hie]
  rw [tim_at ok.nd he2 hc]
  exact ⟨e, he2, hc⟩
theorem TimK.get {kvs : List (Key × V)} {bs : List Nat} {log : List (Nat × List Nat)} (h : TimK kvs log) (ok : LogOk bs log) {c : Nat} (hc : c < bs.length) : valV kvs (.inl (c : Int)) = some (vn (tim log c)) := by
  obtain ⟨e, h1, h2⟩ := tim_get ok hc
  exact h _ e c h1 h2
theorem full_few {n : Nat} (hn : n < 12) {t : Nat → Nat} {L : List (Nat × Nat)} (nd : L.Nodup) (h : ∀ p ∈ L, p.1 < n ∧ p.2 < n ∧ t p.2 < t p.1) : L.length + 1 < 64 := by
  have gen : ∀ l : List Nat, (l.map fun c => (List.range n).map fun d => (c, d)).flatten.length = l.length * n := by
    intro l
    induction l with
    | nil => rw [List.map_nil, List.flatten_nil]; simp
    | cons a l ih => rw [List.map_cons, List.flatten_cons, List.length_append, ih, List.length_map, List.length_range, List.length_cons, Nat.succ_mul, Nat.add_comm]
  have all : ((List.range n).map fun c => (List.range n).map fun d => (c, d)).flatten.length = n * n := by
    rw [gen, List.length_range]
  have nd2 : (L ++ L.map fun p => (p.2, p.1)).Nodup := by
    rw [List.nodup_append]
    refine ⟨nd, List.Pairwise.map _ (fun a b h z => h (Prod.ext (congrArg Prod.snd z) (congrArg Prod.fst z))) nd, fun a ha b hb z => ?_⟩
    obtain ⟨q, hq, rfl⟩ := List.mem_map.mp hb
    have h1 := (h a ha).2.2
    have h2 := (h q hq).2.2
    rw [z] at h1
    have h1' : t q.1 < t q.2 := h1
    omega
  have := nodup_sub (b := ((List.range n).map fun c => (List.range n).map fun d => (c, d)).flatten) nd2 fun x hx => by
    have hx2 : x.1 < n ∧ x.2 < n := by
      rcases List.mem_append.mp hx with z | z
      · exact ⟨(h x z).1, (h x z).2.1⟩
      · obtain ⟨q, hq, rfl⟩ := List.mem_map.mp z
        exact ⟨(h q hq).2.1, (h q hq).1⟩
    exact List.mem_flatten.mpr ⟨_, List.mem_map.mpr ⟨x.1, List.mem_range.mpr hx2.1, rfl⟩, List.mem_map.mpr ⟨x.2, List.mem_range.mpr hx2.2, rfl⟩⟩
  rw [all, List.length_append, List.length_map] at this
  have hsq : n * n ≤ 11 * 11 := Nat.mul_le_mul (by omega) (by omega)
  omega
abbrev s_fullest_book : Stmt := topS 43
abbrev N_fullest_book : List Str := ["blocks", "log", "times", "change", "other"]
theorem sc_fullest_book : FnScope N_fullest_book ["blocks", "log"] (C8.fnScope s_fullest_book) := C8.fnScope_by (by decide +kernel)
def sp_fullest_book (B : Addr) : Sp := fun vs H Q _ => ∃ (vb v : V) (bs : List Nat) (log : List (Nat × List Nat)), vs = [vb, v] ∧ TN H vb bs ∧ LG H v log ∧ LogOk bs log ∧ ∀ nd v' H', nd.Pairwise PLt → (∀ p, p ∈ nd ↔ FullN bs log p) → Fz N0 H H' → IsB B H' v' bs nd → Q v' H'
theorem ok_fullest_book (T : Tx K mg B W c) : C8.Cal P w K mg base 7 "fullest_book" (sp_fullest_book B) [] := by
  refine calD T.d_fullest_book sc_fullest_book (fun vs H Q E ⟨_, _, _, _, h, _⟩ => by rw [h]; rfl) fun f cdv A outer s H vs Q E hr h => ?_
  obtain ⟨vb, v, bs, log, rfl, ht, hl, ok, q⟩ := h
  have few := ok.few
  refine ⟨_, (pss_cons (ps_expr (C8.pe_c (ok_check_log T) hr (by decide) (by rfl) (pa_cons (pv 0) (pa_cons (pv 1) pa_nil))))
      (pss_cons (ps_set (i := 2) sc_fullest_book.nd rfl (.inr rfl) (C8.pe_c (ok_times_of T) hr (by decide) (by rfl) (pa_cons (pv 1) pa_nil)))
      (pss_one (ps_ret (C8.pe_c (ok_raw_book T) hr (by decide) (by rfl) (pa_cons (pv 0) (pa_cons (pe_lc (own := [("change", 3), ("other", 4)]) (by rfl) sc_fullest_book.nd (pi_list (C8.pe_c (ok_pairs_of T) hr (by decide) (by rfl) (pa_cons (pv 0) pa_nil))) (blkOk_by (own := [("change", 3), ("other", 4)]) (N := N_fullest_book) (sc := C8.fnScope s_fullest_book) (by decide +kernel)) (fun _ _ _ _ _ => (pgtK (K := K) (n := 2) rfl rfl (pgs_cons (pg_name (i := 3) sc_fullest_book.nd rfl (.inl rfl)) (pgs_cons (pg_name (i := 4) sc_fullest_book.nd rfl (.inl rfl)) pgs_nil)) rfl)) (fun _ _ _ _ _ => (pts_one (pt_cmpR op_lt (pe_dget (hu_of hr) (pv 2) (pv 4) (fun _ _ => rfl)) (pe_dget (hu_of hr) (pv 2) (pv 3) (fun _ _ => rfl)) (nomark _)))) (fun _ _ _ _ _ => (pe_tup (pa_cons (pv 3) (pa_cons (pv 4) pa_nil))))) pa_nil))))))), ?_⟩
  refine ⟨_, rfl, _, rfl, vb, v, bs, log, rfl, ht, hl, ok, fun H1 f1 => ⟨_, rfl, v, bs, log, rfl, pLG.go f1 hl, ok, fun d H2 kvs f2 hd htm => ⟨_, rfl, ?_⟩⟩⟩
  have f12 := f1.trans f2
  refine ⟨_, rfl, vb, bs, rfl, pTN.go f12 ht, by omega, fun pz H3 zs f3 hz lz hzs => ?_⟩
  obtain ⟨vs, hz1, hz2⟩ := id hz
  have f13 := f12.trans f3
  have lvz := plen hz2
  refine ⟨pz, rfl, ⟨_, sL hz1⟩, fun D hD => lc_det (R := PN) (walk_list (K := K) (a := pz) (xs := vs)) pPN hD (by omega) (fun i => zs[i]?.bind fun p => if decide (tim log p.2 < tim log p.1) = true then some p else none) (fun H f => sL (f.at hz1 fun z => z)) (fun i x H4 H5 C Nx hi f4 hy k1 k2 => ?_) fun H4 f4 hl4 => ?_⟩
  · obtain ⟨rfl, hy⟩ := hy
    obtain ⟨⟨c, o⟩, he, a, y1, y2, rfl, ha, r1, r2⟩ := pget (pPN.all f4 hz2) hy
    obtain rfl := show y1 = vn c from r1
    obtain rfl := show y2 = vn o from r2
    obtain ⟨hc, ho, _⟩ := (hzs _).mp (List.mem_of_getElem? he)
    have hd4 := (f3.trans f4).dK hd
    refine ⟨a, _, rfl, sT ha, rfl, _, _, rfl, _, _, rfl, rfl, rfl, _, rfl, _, rfl, d, _, rfl, DGn hd4 (htm.get ok ho), _, rfl, _, rfl, d, _, rfl, DGn hd4 (htm.get ok hc), _, _, rfl, rfl, _, rfl, ?_⟩
    by_cases hlt : tim log o < tim log c
    · have e0 : decide ((tim log o : Int) < (tim log c : Int)) = true := decide_eq_true (by omega)
      rw [e0]
      exact ⟨_, rfl, _, rfl, sz (show 2 ≤ 100000 by decide), fun p hp => k1 _ _ (c, o) (by rw [he]; exact if_pos (decide_eq_true hlt)) (.new hp) ⟨p, _, _, rfl, upd_same, rfl, rfl⟩⟩
    · have e0 : decide ((tim log o : Int) < (tim log c : Int)) = false := decide_eq_false (by omega)
      rw [e0]
      exact k2 _ (by rw [he]; exact if_neg (by simpa using hlt)) .refl
  · have e : (List.range vs.length).filterMap (fun i => zs[i]?.bind fun p => if decide (tim log p.2 < tim log p.1) = true then some p else none) = zs.filter fun p => decide (tim log p.2 < tim log p.1) := by
      rw [lvz, fm_get, ← List.filterMap_eq_filter]
      congr
    rw [e] at hl4
    have mem : ∀ p, p ∈ zs.filter (fun p => decide (tim log p.2 < tim log p.1)) ↔ FullN bs log p := fun p => by
      rw [List.mem_filter, hzs, decide_eq_true_iff]
      unfold FullN
      constructor
      · rintro ⟨⟨h1, h2, _⟩, h3⟩
        exact ⟨h1, h2, h3⟩
      · rintro ⟨h1, h2, h3⟩
        exact ⟨⟨h1, h2, fun z => by rw [z] at h3; omega⟩, h3⟩
    have f14 := f13.trans f4
    refine ⟨vb, D, bs, _, rfl, pTN.go f14 ht, hl4, fun p hp => by have := (mem p).mp hp; unfold FullN at this; omega, fun L hn hL => full_few few hn fun p hp => (mem p).mp (hL p hp), fun nd v' H' h1 h2 f5 h4 => q nd v' H' h1 (fun p => (h2 p).trans (mem p)) (f14.trans f5) h4⟩
abbrev s_other_rows : Stmt := topS 44
abbrev N_other_rows : List Str := ["blocks", "log"]
theorem sc_other_rows : FnScope N_other_rows ["blocks", "log"] (C8.fnScope s_other_rows) := C8.fnScope_by (by decide +kernel)
def sp_other_rows : Sp := fun vs H Q _ => ∃ (vb v : V) (bs : List Nat) (log : List (Nat × List Nat)), vs = [vb, v] ∧ TN H vb bs ∧ LG H v log ∧ LogOk bs log ∧ TS H ∧ ∀ nd, SN nd (freeN log) → Bk bs nd ∧ ∀ bn ms, BN nd bs.length bn → Srt ms bs → (∀ l : List Nat, l.Nodup → (∀ s ∈ l, Reach bs bn ms 0 s) → l.length ≤ 2000) ∧
  ∃ F, RowF bs bn ms F ∧ ∀ H', Fz N0 H H' → Q (vn (F 0)) H'
theorem ok_other_rows (T : Tx K mg B W c) (TB : LamX.TabB base mg c tP) : C8.Cal P w K mg base 8 "other_rows" sp_other_rows [] := by
  refine calD T.d_other_rows sc_other_rows (fun vs H Q E ⟨_, _, _, _, h, _⟩ => by rw [h]; rfl) fun f cdv A outer s H vs Q E hr h => ?_
  obtain ⟨vb, v, bs, log, rfl, ht, hl, ok, hT, q⟩ := h
  refine ⟨_, (pss_cons (ps_expr (C8.pe_c (ok_check_log T) hr (by decide) (by rfl) (pa_cons (pv 0) (pa_cons (pv 1) pa_nil))))
      (pss_one (ps_ret (C8.pe_c (ok_many_rows T TB) hr (by decide) (by rfl) (pa_cons (C8.pe_c (ok_freest_of T) hr (by decide) (by rfl) (pa_cons (pv 0) (pa_cons (pv 1) pa_nil))) pa_nil))))), ?_⟩
  refine ⟨_, rfl, _, rfl, vb, v, bs, log, rfl, ht, hl, ok, fun H1 f1 => ⟨_, rfl, _, rfl, vb, v, bs, log, rfl, pTN.go f1 ht, pLG.go f1 hl, ok, fun nd v' H2 h1 f2 h2 => ?_⟩⟩
  obtain ⟨bk, q⟩ := q nd h1
  refine ⟨v', bs, nd, rfl, h2, bk, (f1.trans f2).tab hT, fun bn ms h3 h4 => ?_⟩
  obtain ⟨g1, F, g2, g3⟩ := q bn ms h3 h4
  exact ⟨g1, F, g2, fun H' f3 => g3 H' ((f1.trans f2).trans f3)⟩
end
end Rw

/-! The law's own defs: the tape. -/
namespace Rw
open PySem PySem.Spec PyProof.Rows L2
section
variable {P : Program} {w : World} {K : PySem.W.Frag} {mg : Str → Option Value} {base : Heap} {B W c : Addr}
/-- the tape at t, its script at l -/
def TapeO (H : Hp) (t l : Addr) : Prop := ∃ (zs : List Int) (a b c d : Int), H t = some (.lst [.ref l, .int a, .int b, .int c, .int d]) ∧ H l = some (.lst (zs.map V.int)) ∧ l ≠ t ∧ 0 ≤ a
abbrev Tp (t : Addr) : Addr → Prop := fun b => b = t
theorem TapeO.fz {H H' : Hp} {t l : Addr} (h : TapeO H t l) (f : Fz N0 H H') : TapeO H' t l := by
  obtain ⟨zs, a, b, c, d, h1, h2, h3, h4⟩ := h
  exact ⟨zs, a, b, c, d, f.at h1 (fun z => z), f.at h2 (fun z => z), h3, h4⟩
/-- another place is written -/
theorem TapeO.put {H : Hp} {t l p : Addr} {o : HO} (h : TapeO H t l) (n : p ≠ t ∧ p ≠ l) : TapeO (upd H p o) t l := by
  obtain ⟨zs, a, b, c, d, h1, h2, h3, h4⟩ := h
  exact ⟨zs, a, b, c, d, by rw [upd_ne n.1.symm]; exact h1, by rw [upd_ne n.2.symm]; exact h2, h3, h4⟩
theorem TapeO.off {H : Hp} {t l p : Addr} (h : TapeO H t l) (hp : Fr H p) : p ≠ t ∧ p ≠ l := by
  obtain ⟨zs, a, b, c, d, h1, h2, h3, h4⟩ := h
  exact ⟨hp.ne' h1, hp.ne' h2⟩
theorem TapeO.offN {H : Hp} {t l p : Addr} (h : TapeO H t l) (hp : H p = none) : p ≠ t ∧ p ≠ l := h.off (.inl hp)
theorem fmod_nat {i : Int} {m : Nat} (h : 0 < m) : ∃ r : Nat, i.fmod (m : Int) = (r : Int) ∧ r < m := by
  have h1 : 0 ≤ i.fmod (m : Int) := Int.fmod_nonneg_of_pos i (by omega)
  have h2 : i.fmod (m : Int) < (m : Int) := Int.fmod_lt_of_pos i (by omega)
  exact ⟨(i.fmod (m : Int)).toNat, by omega, by omega⟩
abbrev s__law_pick : Stmt := topS 47
abbrev N__law_pick : List Str := ["_law_tape_here", "_law_many", "_law_digit", "_law_cell", "_law_mixed"]
theorem sc__law_pick : FnScope N__law_pick ["_law_tape_here", "_law_many"] (C8.fnScope s__law_pick) := C8.fnScope_by (by decide +kernel)
def sp_pick : Sp := fun vs H Q _ => ∃ (t l : Addr) (m : Nat), vs = [.ref t, vn m] ∧ TapeO H t l ∧ 0 < m ∧ m < 1000000 ∧ ∀ r H', r < m → Fz (Tp t) H H' → TapeO H' t l → Q (vn r) H'
theorem ok__law_pick (T : Tx K mg B W c) : C8.Cal P w K mg base 1 "_law_pick" sp_pick [] := by
  refine calD T.d__law_pick sc__law_pick (fun vs H Q E ⟨_, _, _, h, _⟩ => by rw [h]; rfl) fun f cdv A outer s H vs Q E hr h => ?_
  obtain ⟨t, l, m, rfl, ⟨zs, pa, pb, pc, pd, h1, h2, h3, h4⟩, hm, hm2, q⟩ := h
  refine ⟨_, (pss_cons (ps_if (pt_cmpR op_gt (pe_ix ix_list (pv 0) pe_int (fun _ _ => rfl)) pe_int (nomark _))
        (pss_cons (ps_set (i := 2) sc__law_pick.nd rfl (.inl rfl) (pe_op op_modN (pe_callTy call_int1 (by rfl) T.z_int (by decide +kernel) (pa_cons (pe_ix ix_list (pv 0) pe_int (fun _ _ => rfl)) pa_nil)) (pv 1)))
        (pss_cons (ps_asg (pe_op op_fdivN (pe_ix ix_list (pv 0) pe_int (fun _ _ => rfl)) (pv 1)) (pg_sub (pv 0) pe_int set_list))
        (pss_one (ps_ret (pv 2)))))
        pss_nil)
      (pss_cons (ps_asg (pe_op op_add (pe_ix ix_list (pv 0) pe_int (fun _ _ => rfl)) pe_int) (pg_sub (pv 0) pe_int set_list))
      (pss_cons (ps_set (i := 3) sc__law_pick.nd rfl (.inl rfl) pe_int)
      (C8.pss_cut (ps_if (pt_cmpR op_lt (pe_ix ix_list (pv 0) pe_int (fun _ _ => rfl)) (pe_callB call_len_seq (by rfl) T.z_len PySem.boot_len (pa_cons (pe_ix ix_list (pv 0) pe_int (fun _ _ => rfl)) pa_nil)) (nomark _))
        (pss_cons (ps_set (i := 3) sc__law_pick.nd rfl (.inl rfl) (pe_ix ix_list (pe_ix ix_list (pv 0) pe_int (fun _ _ => rfl)) (pe_ix ix_list (pv 0) pe_int (fun _ _ => rfl)) (fun _ _ => rfl)))
        (pss_one (ps_asg (pe_op op_add (pe_ix ix_list (pv 0) pe_int (fun _ _ => rfl)) pe_int) (pg_sub (pv 0) pe_int set_list))))
        pss_nil)
      (pss_cons (ps_if (pt_cmpR op_ge (pv 3) (pe_op op_pow pe_int pe_int) (nomark _))
        (pss_cons (ps_asg (pe_op op_fdivN (pv 3) (pv 1)) (pg_sub (pv 0) pe_int set_list))
        (pss_one (ps_ret (pe_op op_modN (pe_callTy call_int1 (by rfl) T.z_int (by decide +kernel) (pa_cons (pv 3) pa_nil)) (pv 1)))))
        pss_nil)
      (pss_cons (ps_set (i := 4) sc__law_pick.nd rfl (.inl rfl) (pe_callTy call_int1 (by rfl) T.z_int (by decide +kernel) (pa_cons (pe_op op_add (pe_op op_mul (pe_ix ix_list (pv 0) pe_int (fun _ _ => rfl)) pe_int) (pe_op op_mul (pe_ix ix_list (pv 0) pe_int (fun _ _ => rfl)) pe_int)) pa_nil)))
      (pss_cons (ps_set (i := 4) sc__law_pick.nd rfl (.inl rfl) (pe_op op_modN (pe_callTy call_int1 (by rfl) T.z_int (by decide +kernel) (pa_cons (pe_op op_add (pv 4) (pe_op op_modN (pe_callTy call_int1 (by rfl) T.z_int (by decide +kernel) (pa_cons (pv 3) pa_nil)) pe_int)) pa_nil)) pe_int))
      (pss_cons (ps_set (i := 4) sc__law_pick.nd rfl (.inl rfl) (pe_op op_modN (pe_callTy call_int1 (by rfl) T.z_int (by decide +kernel) (pa_cons (pe_op op_mul (pv 4) (pe_op op_add (pe_op op_fdivN (pv 4) pe_int) pe_int)) pa_nil)) pe_int))
      (pss_cons (ps_asg (pv 4) (pg_sub (pv 0) pe_int set_list))
      (pss_one (ps_ret (pe_op op_modN (pe_callTy call_int1 (by rfl) T.z_int (by decide +kernel) (pa_cons (pe_op op_fdivN (pv 4) pe_int) pa_nil)) (pv 1))))))))))))), ?_⟩
  have cd : ∀ x : Int, CDivN x (m : Int) := fun x => ⟨by omega, by omega⟩
  have q' : ∀ (i : Int) H', Fz (Tp t) H H' → TapeO H' t l → Q (.int (i.fmod m)) H' := fun i H' f h => by
    obtain ⟨r, hr1, hr2⟩ := fmod_nat (i := i) hm
    rw [hr1]
    exact q r H' hr2 f h
  refine ⟨_, rfl, t, _, 2, .int pb, rfl, rfl, sL h1, rfl, _, _, rfl, rfl, _, rfl, ?_⟩
  by_cases hb : 1 < pb
  · have e0 : decide ((1 : Int) < pb) = true := decide_eq_true hb
    rw [e0]
    exact ⟨_, rfl, t, _, 2, .int pb, rfl, rfl, sL h1, rfl, .inl ⟨pb, rfl, _, rfl, pb, m, rfl, rfl, by omega, _, rfl, t, _, 2, .int pb, rfl, rfl, sL h1, rfl, _, rfl, pb, m, rfl, rfl, cd _, _, rfl, t, _, 2, 2, rfl, rfl, h1, rfl, _, rfl, q' _ _ (Fz.refl.put h1 h1 rfl) ⟨zs, pa, _, pc, pd, upd_same, by rw [upd_ne h3]; exact h2, h3, h4⟩⟩⟩
  have e0 : decide ((1 : Int) < pb) = false := decide_eq_false hb
  rw [e0]
  refine ⟨_, rfl, t, _, 4, .int pd, rfl, rfl, sL h1, rfl, pd, 1, rfl, rfl, _, rfl, t, _, 4, 4, rfl, rfl, h1, rfl, ?_⟩
  have f1 : Fz (Tp t) H (upd H t (.lst [.ref l, .int pa, .int pb, .int pc, .int (pd + 1)])) := Fz.refl.put h1 h1 rfl
  have g1 : (upd H t (.lst [.ref l, .int pa, .int pb, .int pc, .int (pd + 1)])) t = some (.lst [.ref l, .int pa, .int pb, .int pc, .int (pd + 1)]) := upd_same
  have g2 : (upd H t (.lst [.ref l, .int pa, .int pb, .int pc, .int (pd + 1)])) l = some (.lst (zs.map V.int)) := by rw [upd_ne h3]; exact h2
  refine ⟨fun σ H2 => ∃ (cell pa' : Int), σ = [some (.ref t), some (vn m), none, some (.int cell), none] ∧ 0 ≤ pa' ∧ Fz (Tp t) H H2 ∧ H2 t = some (.lst [.ref l, .int pa', .int pb, .int pc, .int (pd + 1)]) ∧ H2 l = some (.lst (zs.map V.int)), ?_, ?_⟩
  · refine ⟨_, rfl, t, _, 1, .int pa, rfl, rfl, sL g1, rfl, _, rfl, t, _, 0, .ref l, rfl, rfl, sL g1, rfl, l, _, rfl, .inl (sL g2), pa, _, rfl, rfl, _, rfl, ?_⟩
    rw [List.length_map]
    by_cases hp : pa < zs.length
    · have e1 : decide (pa < (zs.length : Int)) = true := decide_eq_true hp
      rw [e1]
      obtain ⟨n, rfl⟩ : ∃ n : Nat, pa = n := ⟨pa.toNat, by omega⟩
      have hn : (zs.map V.int)[n]? = some (.int (zs[n]'(by omega))) := by rw [List.getElem?_map, List.getElem?_eq_getElem (by omega)]; rfl
      exact ⟨_, rfl, t, _, 0, .ref l, rfl, rfl, sL g1, rfl, _, rfl, t, _, 1, .int n, rfl, rfl, sL g1, rfl, l, _, n, _, rfl, rfl, sL g2, atN hn, _, rfl, t, _, 1, .int n, rfl, rfl, sL g1, rfl, n, 1, rfl, rfl, _, rfl, t, _, 1, 1, rfl, rfl, g1, rfl, _, (n : Int) + 1, rfl, by omega, f1.put h1 g1 rfl, upd_same, by rw [upd_ne h3]; exact g2⟩
    · have e1 : decide (pa < (zs.length : Int)) = false := decide_eq_false hp
      rw [e1]
      exact ⟨0, pa, rfl, h4, f1, g1, g2⟩
  rintro σ H2 ⟨cell, pa', rfl, h5, f2, k1, k2⟩
  refine ⟨_, rfl, 10, 18, rfl, rfl, ⟨by decide, by decide, by decide⟩, _, _, rfl, rfl, _, rfl, ?_⟩
  by_cases hc : (10 : Int) ^ 18 ≤ cell
  · have e1 : decide ((10 : Int) ^ (18 : Int).toNat ≤ cell) = true := decide_eq_true hc
    rw [e1]
    exact ⟨_, rfl, _, rfl, cell, m, rfl, rfl, cd _, _, rfl, t, _, 2, 2, rfl, rfl, k1, rfl, _, rfl, .inl ⟨cell, rfl, _, rfl, cell, m, rfl, rfl, by omega, q' _ _ (f2.put h1 k1 rfl) ⟨zs, pa', _, pc, _, upd_same, by rw [upd_ne h3]; exact k2, h3, h5⟩⟩⟩
  · have e1 : decide ((10 : Int) ^ (18 : Int).toNat ≤ cell) = false := decide_eq_false hc
    rw [e1]
    refine ⟨_, rfl, t, _, 3, .int pc, rfl, rfl, sL k1, rfl, pc, 48271, rfl, rfl, .inr ⟨by decide, by decide⟩, _, rfl, t, _, 4, _, rfl, rfl, sL k1, rfl, pd + 1, 69621, rfl, rfl, .inr ⟨by decide, by decide⟩, _, _, rfl, rfl, .inl ⟨_, rfl, ?_⟩⟩
    refine ⟨_, rfl, _, rfl, .inl ⟨cell, rfl, cell, 2147483629, rfl, rfl, (by decide : (2147483629 : Int) ≠ 0), _, _, rfl, rfl, .inl ⟨_, rfl, _, 2147483647, rfl, rfl, (by decide : (2147483647 : Int) ≠ 0), ?_⟩⟩⟩
    generalize pc * 48271 + (pd + 1) * 69621 + cell.fmod 2147483629 = x
    have b1 : 0 ≤ x.fmod 2147483647 := Int.fmod_nonneg_of_pos x (by decide)
    have b2 : x.fmod 2147483647 < 2147483647 := Int.fmod_lt_of_pos x (by decide)
    refine ⟨_, rfl, _, rfl, _, 1009, rfl, rfl, ⟨by decide, by decide⟩, _, 40692, rfl, rfl, _, _, rfl, rfl, .inl ⟨by omega, by omega⟩, .inl ⟨_, rfl, _, 2147483399, rfl, rfl, (by decide : (2147483399 : Int) ≠ 0), ?_⟩⟩
    exact ⟨_, rfl, _, rfl, t, _, 3, 3, rfl, rfl, k1, rfl, _, rfl, _, 16, rfl, rfl, ⟨by decide, by decide⟩, .inl ⟨_, rfl, _, rfl, _, m, rfl, rfl, by omega, q' _ _ (f2.put h1 k1 rfl) ⟨zs, pa', pb, _, _, upd_same, by rw [upd_ne h3]; exact k2, h3, h5⟩⟩⟩
end
end Rw

/-! The law's own defs: tape, any, blocks, order. -/
namespace Rw
open PySem PySem.Spec PyProof.Rows L2
section
variable {P : Program} {w : World} {K : PySem.W.Frag} {mg : Str → Option Value} {base : Heap} {B W c : Addr}
abbrev s__law_tape : Stmt := topS 46
abbrev N__law_tape : List Str := ["_law_script"]
theorem sc__law_tape : FnScope N__law_tape ["_law_script"] (C8.fnScope s__law_tape) := C8.fnScope_by (by decide +kernel)
def sp_tape (K : PySem.W.Frag) : Sp := fun vs H Q _ => ∃ (a : Addr) (ns : List Int), vs = [.ref a] ∧ SqL K H a (ns.map V.int) ∧ ∀ t l H', Fz N0 H H' → TapeO H' t l → Fr H t → Fr H l → Q (.ref t) H'
theorem ok__law_tape (T : Tx K mg B W c) : C8.Cal P w K mg base 1 "_law_tape" (sp_tape K) [] := by
  refine calD T.d__law_tape sc__law_tape (fun vs H Q E ⟨_, _, h, _⟩ => by rw [h]; rfl) fun f cdv A outer s H vs Q E hr h => ?_
  obtain ⟨a, ns, rfl, ha, q⟩ := h
  refine ⟨_, (pss_one (ps_ret (pe_lst (pa_cons (pe_callTy call_list_of (by rfl) T.z_list (by decide +kernel) (pa_cons (pv 0) pa_nil)) (pa_cons pe_int (pa_cons pe_int (pa_cons pe_int (pa_cons pe_int pa_nil)))))))), ?_⟩
  refine ⟨_, rfl, a, _, rfl, .inl ha, fun l hl => ⟨sz (show 5 ≤ 100000 by decide), fun t ht => ?_⟩⟩
  have f1 : Fz N0 H (upd H l (.lst (ns.map V.int))) := .new hl
  have nlt : l ≠ t := fun z => by rw [← z, upd_same] at ht; cases ht
  exact q t l _ (f1.snoc ht) ⟨ns, 0, 0, 1, 0, upd_same, by rw [upd_ne nlt, upd_same], nlt, by decide⟩ (f1.fr ht) (.inl hl)
abbrev s__law_any : Stmt := topS 48
abbrev N__law_any : List Str := ["_law_tape_here", "_law_some"]
theorem sc__law_any : FnScope N__law_any ["_law_tape_here", "_law_some"] (C8.fnScope s__law_any) := C8.fnScope_by (by decide +kernel)
def sp_any : Sp := fun vs H Q _ => ∃ (t l p : Addr) (xs : List V), vs = [.ref t, .ref p] ∧ TapeO H t l ∧ H p = some (.lst xs) ∧ p ≠ t ∧ 0 < xs.length ∧ xs.length < 1000000 ∧ ∀ (i : Nat) (v : V) (H' : Hp), xs[i]? = some v → Fz (Tp t) H H' → TapeO H' t l → Q v H'
theorem ok__law_any (T : Tx K mg B W c) : C8.Cal P w K mg base 2 "_law_any" sp_any [] := by
  refine calD T.d__law_any sc__law_any (fun vs H Q E ⟨_, _, _, _, h, _⟩ => by rw [h]; rfl) fun f cdv A outer s H vs Q E hr h => ?_
  obtain ⟨t, l, p, xs, rfl, htp, hp, n, l1, l2, q⟩ := h
  refine ⟨_, (pss_one (ps_ret (pe_ix ix_list (pv 1) (C8.pe_c (ok__law_pick T) hr (by decide) (by rfl) (pa_cons (pv 0) (pa_cons (pe_callB call_len_seq (by rfl) T.z_len PySem.boot_len (pa_cons (pv 1) pa_nil)) pa_nil))) (fun _ _ => rfl)))), ?_⟩
  refine ⟨_, rfl, _, rfl, _, rfl, p, _, rfl, .inl (sL hp), t, l, xs.length, rfl, htp, l1, l2, fun r H' hr f1 h1 => ?_⟩
  have e : xs[r]? = some xs[r] := List.getElem?_eq_getElem hr
  exact ⟨p, xs, r, _, rfl, rfl, sL (f1.at hp n), atN e, q r _ H' e f1 h1⟩
theorem inV_vn (b : Nat) (l : List Nat) : inV (vn b) (l.map vn) = decide (b ∈ l) := by
  unfold inV
  rw [List.any_map]
  induction l with
  | nil => rfl
  | cons a l ih =>
    rw [List.any_cons, ih]
    have e : ((fun y => eqV y (vn b)) ∘ vn) a = decide (a = b) := by
      show eqV (vn a) (vn b) = _
      simp only [eqV]
      by_cases h : a = b
      · simp [h]
      · simp [h]
        omega
    rw [e]
    by_cases h : a = b
    · subst h; simp
    · have : (b ∈ a :: l) ↔ b ∈ l := by
        rw [List.mem_cons]
        exact ⟨fun z => z.resolve_left fun e => h e.symm, .inr⟩
      rw [decide_eq_false h, decide_eq_decide.mpr this, Bool.false_or]
theorem all_flat (l : List Nat) : (l.map vn).all flatV = true := by
  rw [List.all_map, List.all_eq_true]
  exact fun _ _ => rfl
abbrev s__law_some_blocks : Stmt := topS 49
abbrev N__law_some_blocks : List Str := ["_law_tape_here", "_law_many", "_law_found", "_law_turn", "_law_block"]
theorem sc__law_some_blocks : FnScope N__law_some_blocks ["_law_tape_here", "_law_many"] (C8.fnScope s__law_some_blocks) := C8.fnScope_by (by decide +kernel)
def sp_some_blocks : Sp := fun vs H Q _ => ∃ (t l : Addr) (m : Nat), vs = [.ref t, vn m] ∧ TapeO H t l ∧ m < 50 ∧ ∀ (bs : List Nat) (p : Addr) (H' : Hp), bs.Nodup → (∀ b ∈ bs, b < 50) → bs.length = m → Fz (Tp t) H H' → TapeO H' t l → Fr H p → H' p = some (.lst (bs.map vn)) → Q (.ref p) H'
theorem ok__law_some_blocks (T : Tx K mg B W c) : C8.Cal P w K mg base 2 "_law_some_blocks" sp_some_blocks [] := by
  refine calD T.d__law_some_blocks sc__law_some_blocks (fun vs H Q E ⟨_, _, _, h, _⟩ => by rw [h]; rfl) fun f cdv A outer s H vs Q E hr h => ?_
  obtain ⟨t, l, m, rfl, htp, hm, q⟩ := h
  refine ⟨_, (pss_cons (ps_set (i := 2) sc__law_some_blocks.nd rfl (.inl rfl) (pe_lst pa_nil))
      (pss_cons (ps_for PassesOwn.never rfl (pi_range1 (by rfl) T.z_range (pa_cons (pv 1) pa_nil)) (pg_name (i := 3) sc__law_some_blocks.nd rfl (.inl rfl))
        (pss_cons (ps_set (i := 4) sc__law_some_blocks.nd rfl (.inl rfl) (C8.pe_c (ok__law_pick T) hr (by decide) (by rfl) (pa_cons (pv 0) (pa_cons pe_int pa_nil))))
        (pss_cons (ps_while PassesOwn.never (pt_cmpR op_in_seq (pv 4) (pv 2) (by rfl))
          (pss_one (ps_set (i := 4) sc__law_some_blocks.nd rfl (.inl rfl) (pe_op op_modN (pe_callTy call_int1 (by rfl) T.z_int (by decide +kernel) (pa_cons (pe_op op_add (pv 4) pe_int) pa_nil)) pe_int))))
        (pss_one (ps_expr (pe_bm PySem.F.plainAttrs_list PySem.F.slot_list_append PySem.F.type_list_append mt_append (pv 2) (pa_cons (pv 4) pa_nil)))))))
      (pss_one (ps_ret (pv 2))))), ?_⟩
  refine ⟨Nat.zero_le _, fun pf hpf => ?_⟩
  have f0 : Fz (Tp t) H (upd H pf (.lst [])) := .new hpf
  have off := htp.offN hpf
  have frf : Fr H pf := .inl hpf
  refine ⟨_, rfl, _, rfl, by omega, by omega, for_it (walk_rangeN) (fun i σ Hc => ∃ (bs : List Nat) (u3 u4 : Option V), σ = [some (.ref t), some (vn m), some (.ref pf), u3, u4] ∧ Fz (Tp t) H Hc ∧ TapeO Hc t l ∧ Hc pf = some (.lst (bs.map vn)) ∧ bs.Nodup ∧ (∀ b ∈ bs, b < 50) ∧ bs.length = i)
    ⟨[], _, _, rfl, f0, htp.put off, upd_same, .nil, fun b h => (nomatch h), rfl⟩ (fun _ _ _ _ _ => trivial) ?_ ?_⟩
  · rintro i y σ Hc H' hi ⟨bs, u3, u4, rfl, fc, ht, hb, nd, lt, len⟩ ⟨rfl, rfl⟩
    have hi : i < m := hi
    refine ⟨_, rfl, t, l, 50, rfl, ht, by decide, by decide, fun r H1 hr f1 ht1 => ?_⟩
    have hb1 := f1.at hb off.1
    have fc1 := fc.trans f1
    -- the first free one
    have free : ∃ k, (r + k) % 50 ∉ bs := Classical.byContradiction fun n => by
      have all : ∀ x ∈ List.range 50, x ∈ bs := fun x hx => Classical.byContradiction fun nx => n ⟨(x + 50 - r), by
        have h1 := List.mem_range.mp hx
        have e : (r + (x + 50 - r)) % 50 = x := by omega
        rw [e]
        exact nx⟩
      have := nodup_sub List.nodup_range all
      rw [List.length_range] at this
      omega
    obtain ⟨k0, hk0⟩ := free
    refine ⟨fun k σ Hx => ∃ blk : Nat, σ = [some (.ref t), some (vn m), some (.ref pf), some (vn i), some (vn blk)] ∧ Hx = H1 ∧ blk < 50 ∧ (blk + k) % 50 ∉ bs, ⟨k0, r, rfl, rfl, hr, hk0⟩, ?_⟩
    rintro k σ Hx ⟨blk, rfl, rfl, hlt, hk⟩
    refine ⟨_, rfl, _, rfl, pf, _, rfl, .inl (sL hb1), rfl, all_flat bs, _, rfl, ?_⟩
    rw [if_neg (by decide), inV_vn]
    by_cases hin : blk ∈ bs
    · rw [decide_eq_true hin]
      have hk1 : k ≠ 0 := fun z => by
        rw [z, Nat.add_zero, Nat.mod_eq_of_lt hlt] at hk
        exact hk hin
      refine ⟨_, fun σ' H' z => z, _, rfl, _, 1, rfl, rfl, .inl ⟨_, rfl, _, 50, rfl, rfl, (by decide : (50 : Int) ≠ 0), ?_⟩⟩
      refine ⟨k - 1, by omega, (blk + 1) % 50, ?_, rfl, by omega, ?_⟩
      · have e : ((blk : Int) + 1).fmod 50 = (((blk + 1) % 50 : Nat) : Int) := by
          rw [Int.fmod_eq_emod_of_nonneg _ (by decide)]
          omega
        show List.set _ 4 (some (V.int (((blk : Int) + 1).fmod 50))) = _
        rw [e]
        rfl
      · have e : ((blk + 1) % 50 + (k - 1)) % 50 = (blk + k) % 50 := by omega
        rw [e]
        exact hk
    · rw [decide_eq_false hin]
      refine ⟨_, rfl, tyL hb1, _, rfl, pf, _, _, rfl, rfl, hb1, by rw [List.length_map]; exact szl (by omega), bs ++ [blk], _, _, rfl, fc1.mut frf hb1, ht1.put off, by rw [upd_same, List.map_append]; rfl, ?_, fun b hb => ?_, by rw [List.length_append, len]; rfl⟩
      · rw [List.nodup_append]
        refine ⟨nd, List.pairwise_singleton _ _, fun y hy z hz q => ?_⟩
        rw [List.mem_singleton] at hz
        rw [q, hz] at hy
        exact hin hy
      · rcases List.mem_append.mp hb with z | z
        · exact lt b z
        · rw [List.mem_singleton.mp z]
          exact hlt
  · rintro σ Hc ⟨bs, u3, u4, rfl, fc, ht, hb, nd, lt, len⟩
    exact ⟨_, rfl, q bs pf Hc nd lt len fc ht frf hb⟩
abbrev s__law_order : Stmt := topS 50
abbrev N__law_order : List Str := ["_law_tape_here", "_law_many", "_law_left", "_law_found", "_law_turn"]
theorem sc__law_order : FnScope N__law_order ["_law_tape_here", "_law_many"] (C8.fnScope s__law_order) := C8.fnScope_by (by decide +kernel)
def sp_order : Sp := fun vs H Q _ => ∃ (t l : Addr) (m : Nat), vs = [.ref t, vn m] ∧ TapeO H t l ∧ m ≤ 1000 ∧ ∀ (o : List Nat) (p : Addr) (H' : Hp), o.Perm (List.range m) → Fz (Tp t) H H' → TapeO H' t l → Fr H p → H' p = some (.lst (o.map vn)) → Q (.ref p) H'
theorem ok__law_order (T : Tx K mg B W c) : C8.Cal P w K mg base 2 "_law_order" sp_order [] := by
  refine calD T.d__law_order sc__law_order (fun vs H Q E ⟨_, _, _, h, _⟩ => by rw [h]; rfl) fun f cdv A outer s H vs Q E hr h => ?_
  obtain ⟨t, l, m, rfl, htp, hm, q⟩ := h
  refine ⟨_, (pss_cons (ps_par (i := 2) (j := 3) (by rfl) sc__law_order.nd rfl rfl (by decide) rfl rfl (pa_cons (pe_listRg rfl (by rfl) T.z_list (prg_1 (by rfl) T.z_range (pv 1))) (pa_cons (pe_lst pa_nil) pa_nil)) (by rfl))
      (pss_cons (ps_for PassesOwn.never rfl (pi_range1 (by rfl) T.z_range (pa_cons (pv 1) pa_nil)) (pg_name (i := 4) sc__law_order.nd rfl (.inl rfl))
        (pss_one (ps_expr (pe_bm PySem.F.plainAttrs_list PySem.F.slot_list_append PySem.F.type_list_append mt_append (pv 3) (pa_cons (pe_bm PySem.F.plainAttrs_list PySem.F.slot_list_pop PySem.F.type_list_pop mt_popAt (pv 2) (pa_cons (C8.pe_c (ok__law_pick T) hr (by decide) (by rfl) (pa_cons (pv 0) (pa_cons (pe_callB call_len_seq (by rfl) T.z_len PySem.boot_len (pa_cons (pv 2) pa_nil)) pa_nil))) pa_nil)) pa_nil)))))
      (pss_one (ps_ret (pv 3))))), ?_⟩
  refine ⟨_, rfl, m, rfl, rgok (by omega), fun pl hpl => ⟨Nat.zero_le _, fun pf hpf => ?_⟩⟩
  rw [rg_nat] at *
  have f1 : Fz (Tp t) H (upd H pl (.lst ((List.range m).map vn))) := .new hpl
  have nlf : pl ≠ pf := fun z => by rw [← z, upd_same] at hpf; cases hpf
  have o1 := htp.offN hpl
  have t1 := htp.put (o := .lst ((List.range m).map vn)) o1
  have o2 := t1.offN hpf
  have frl : Fr H pl := .inl hpl
  have frf : Fr H pf := f1.fr hpf
  refine ⟨_, _, rfl, _, rfl, _, rfl, by omega, by omega, for_it (walk_rangeN) (fun i σ Hc => ∃ (xl xf : List Nat) (u4 : Option V), σ = [some (.ref t), some (vn m), some (.ref pl), some (.ref pf), u4] ∧ Fz (Tp t) H Hc ∧ TapeO Hc t l ∧ Hc pl = some (.lst (xl.map vn)) ∧ Hc pf = some (.lst (xf.map vn)) ∧ (xf ++ xl).Perm (List.range m) ∧ xf.length = i)
    ⟨List.range m, [], _, rfl, f1.snoc hpf, t1.put o2, by rw [upd_ne nlf, upd_same], upd_same, List.Perm.refl _, rfl⟩ (fun _ _ _ _ _ => trivial) ?_ ?_⟩
  · rintro i y σ Hc H' hi ⟨xl, xf, u4, rfl, fc, ht, hl, hf, pm, len⟩ ⟨rfl, rfl⟩
    have hi : i < m := hi
    have lp := pm.length_eq
    rw [List.length_append, List.length_range] at lp
    refine ⟨_, rfl, tyL hf, _, rfl, tyL hl, _, rfl, _, rfl, pl, _, rfl, .inl (sL hl), t, l, xl.length, by rw [List.length_map]; rfl, ht, by omega, by omega, fun r H1 hr f2 ht1 => ?_⟩
    have hl1 := f2.at hl o1.1
    have hf1 := f2.at hf o2.1
    have er : xl[r]? = some xl[r] := List.getElem?_eq_getElem hr
    refine ⟨pl, _, r, r, _, rfl, rfl, hl1, by omega, by omega, (ixN_seq (ixN_nat (by rw [List.length_map]; exact hr))).1, vn_get er, ?_⟩
    have e1 : (xl.map vn).eraseIdx r = (xl.eraseIdx r).map vn := erase_map vn xl r
    rw [e1]
    have hf2 : (upd H1 pl (.lst ((xl.eraseIdx r).map vn))) pf = some (.lst (xf.map vn)) := by rw [upd_ne nlf.symm]; exact hf1
    have lxf : xf.length < 100000 := by omega
    refine ⟨pf, _, _, rfl, rfl, hf2, by rw [List.length_map]; exact szl lxf, xl.eraseIdx r, xf ++ [xl[r]], _, rfl, ((fc.trans f2).mut frl hl1).mut frf hf2, (ht1.put o1).put o2, by rw [upd_ne nlf, upd_same], by rw [upd_same, List.map_append]; rfl, ?_, by rw [List.length_append, len]; rfl⟩
    refine List.Perm.trans ?_ pm
    rw [List.append_assoc]
    refine List.Perm.append_left xf ?_
    exact erase_perm xl r hr
  · rintro σ Hc ⟨xl, xf, u4, rfl, fc, ht, hl, hf, pm, len⟩
    have lp := pm.length_eq
    rw [List.length_append, List.length_range, len] at lp
    have e : xl = [] := List.length_eq_zero_iff.mp (by
      have : ((m : Nat) : Int).toNat = m := Int.toNat_natCast m
      omega)
    rw [e, List.append_nil] at pm
    exact ⟨_, rfl, q xf pf Hc pm fc ht frf hf⟩
end
end Rw

/-! The law's own defs: direct, lot, brought. -/
namespace Rw
open PySem PySem.Spec PyProof.Rows L2
section
variable {P : Program} {w : World} {K : PySem.W.Frag} {mg : Str → Option Value} {base : Heap} {B W c : Addr}
abbrev s__law_direct : Stmt := topS 51
abbrev N__law_direct : List Str := ["_law_spec", "_law_found", "_law_change", "_law_other"]
theorem sc__law_direct : FnScope N__law_direct ["_law_spec"] (C8.fnScope s__law_direct) := C8.fnScope_by (by decide +kernel)
def sp_direct : Sp := fun vs H Q _ => ∃ (v : V) (bs : List Nat) (nd : List (Nat × Nat)), vs = [v] ∧ SP2 H v (bs, nd) ∧ (∀ p ∈ nd, p.1 < bs.length ∧ p.2 < bs.length) ∧ bs.length ≤ 1000 ∧ ∀ p H', Fz N0 H H' → Fr H p → H' p = some (.lst ((dmL bs.length nd).map vn)) → Q (.ref p) H'
theorem ok__law_direct (T : Tx K mg B W c) : C8.Cal P w K mg base 1 "_law_direct" sp_direct [] := by
  refine calD T.d__law_direct sc__law_direct (fun vs H Q E ⟨_, _, _, h, _⟩ => by rw [h]; rfl) fun f cdv A outer s H vs Q E hr h => ?_
  obtain ⟨v, bs, nd, rfl, ⟨a, u1, u2, rfl, ha, hb, hn⟩, hlt, hz, q⟩ := h
  obtain ⟨ab, rfl, hab⟩ := tn_iff.mp hb
  obtain ⟨an, vs, rfl, han, hp⟩ := hn
  refine ⟨_, (pss_cons (ps_set (i := 1) sc__law_direct.nd rfl (.inl rfl) (pe_op op_rep (pe_lst (pa_cons pe_int pa_nil)) (pe_callB call_len_seq (by rfl) T.z_len PySem.boot_len (pa_cons (pe_ix ix_tup (pv 0) pe_int (fun _ _ => rfl)) pa_nil))))
      (pss_cons (ps_for PassesOwn.never rfl (pi_tup (pe_ix ix_tup (pv 0) pe_int (fun _ _ => rfl))) (pg_tup rfl (pgs_cons (pg_name (i := 2) sc__law_direct.nd rfl (.inl rfl)) (pgs_cons (pg_name (i := 3) sc__law_direct.nd rfl (.inl rfl)) pgs_nil)))
        (pss_one (ps_asg (pe_op op_orN (pe_ix ix_list (pv 1) (pv 2) (fun _ _ => rfl)) (pe_op op_shl1 pe_int (pv 3))) (pg_sub (pv 1) (pv 2) set_list))))
      (pss_one (ps_ret (pv 1))))), ?_⟩
  refine ⟨by decide, fun l1 hl1 => ?_⟩
  have f1 : Fz N0 H (upd H l1 (.lst [vn 0])) := .new hl1
  refine ⟨_, rfl, a, _, 0, _, rfl, rfl, sT (f1.tup ha), rfl, ab, _, rfl, .inr (sT (f1.tup hab)), l1, (bs.length : Int), _, rfl, by rw [List.length_map], upd_same, by omega, by omega, by
    have := sizeLine_eq
    simp
    omega, fun pf hpf => ?_⟩
  have er : (List.replicate ((bs.length : Nat) : Int).toNat [V.int 0]).flatten = ((List.range bs.length).map fun c => mskL (needL (nd.take 0) c)).map vn := by
    rw [Int.toNat_natCast]
    have : ∀ n, (List.replicate n [V.int 0]).flatten = List.replicate n (V.int 0) := by
      intro n
      induction n with
      | zero => rfl
      | succ n ih => rw [List.replicate_succ, List.replicate_succ, List.flatten_cons, ih]; rfl
    rw [this, List.map_map]
    refine List.ext_getElem (by simp) fun i h1 h2 => ?_
    simp [needL, mskL, pick]
  rw [er]
  have f2 : Fz N0 H (upd (upd H l1 (.lst [vn 0])) pf (.lst (((List.range bs.length).map fun c => mskL (needL (nd.take 0) c)).map vn))) := f1.snoc hpf
  have frf : Fr H pf := f1.fr hpf
  refine ⟨_, rfl, a, _, 1, _, rfl, rfl, sT (f2.tup ha), rfl, an, rfl, ⟨_, sT (f2.tup han)⟩, for_it (walk_tup (K := K) (a := an) (xs := vs)) (fun i σ Hc => ∃ (u2 u3 : Option V), σ = [some (.ref a), some (.ref pf), u2, u3] ∧ Fz N0 H Hc ∧ Hc pf = some (.lst (((List.range bs.length).map fun c => mskL (needL (nd.take i) c)).map vn))) ⟨_, _, rfl, f2, upd_same⟩ (fun i σ Hc _ z => by
    obtain ⟨_, _, _, f, _⟩ := z
    exact sT (f.tup han)) ?_ ?_⟩
  · rintro i y σ Hx Hc hi ⟨u2, u3, rfl, fc, hl⟩ ⟨rfl, hy⟩
    obtain ⟨⟨c, d⟩, e1, b1, y1, y2, rfl, hb1, r1, r2⟩ := pget (pPN.all fc hp) hy
    obtain rfl := show y1 = vn c from r1
    obtain rfl := show y2 = vn d from r2
    have hcd := hlt _ (List.mem_of_getElem? e1)
    have hcd : c < bs.length ∧ d < bs.length := hcd
    have eg : ((List.range bs.length).map fun c => mskL (needL (nd.take i) c))[c]? = some (mskL (needL (nd.take i) c)) := range_get hcd.1
    have e2 := take_succ_get e1
    refine ⟨b1, _, rfl, sT hb1, rfl, _, _, rfl, _, _, rfl, rfl, _, rfl, _, rfl, pf, _, (c : Int), _, rfl, rfl, sL hl, atN (vn_get eg), _, rfl, d, rfl, rfl, by omega, _, _, rfl, rfl, _, rfl, _, rfl, pf, _, (c : Int), c, rfl, rfl, hl, ixN_nat (by rw [List.length_map, List.length_map, List.length_range]; exact hcd.1), _, _, rfl, fc.mut frf hl, ?_⟩
    rw [upd_same, ← List.map_set, range_set (g := fun c => mskL (needL (nd.take (i + 1)) c)) (by rw [e2, needL_snoc, if_pos rfl, mskL_snoc]) (fun j hj => by rw [e2, needL_snoc, if_neg fun q => hj q.symm])]
  · rintro σ Hc ⟨u2, u3, rfl, fc, hl⟩
    rw [plen hp, List.take_length] at hl
    exact ⟨_, rfl, q pf Hc fc frf hl⟩
/- _law_lot -/
abbrev s__law_lot : Stmt := topS 52
abbrev N__law_lot : List Str := ["_law_mask", "_law_place"]
theorem sc__law_lot : FnScope N__law_lot ["_law_mask"] (C8.fnScope s__law_lot) := C8.fnScope_by (by decide +kernel)
def sp_lot : Sp := fun vs H Q _ => ∃ m : Nat, vs = [vn m] ∧ m < 2 ^ 64 ∧ ∀ v H', Fz N0 H H' → TN H' v (lotM m) → Q v H'
theorem ok__law_lot (T : Tx K mg B W c) : C8.Cal P w K mg base 1 "_law_lot" sp_lot [] := by
  refine calD T.d__law_lot sc__law_lot (fun vs H Q E ⟨n, h, _⟩ => by rw [h]; rfl) fun f cdv A outer s H vs Q E hr h => ?_
  obtain ⟨m, rfl, hm, q⟩ := h
  refine ⟨_, (pss_one (ps_ret (pe_callTy call_tuple_of (by rfl) T.z_tuple (by decide +kernel) (pa_cons (pe_lc (own := [("_law_place", 1)]) (by rfl) sc__law_lot.nd (pi_range1 (by rfl) T.z_range (pa_cons (pe_bits (pv 0)) pa_nil)) (blkOk_by (own := [("_law_place", 1)]) (N := N__law_lot) (sc := C8.fnScope s__law_lot) (by decide +kernel)) (fun _ _ _ _ _ => (pg_name (i := 1) sc__law_lot.nd rfl (.inl rfl))) (fun _ _ _ _ _ => (pts_one (pt_cmpR op_eq (pe_op op_andN (pe_op op_shrNN (pv 0) (pv 1)) pe_int) pe_int (nomark _)))) (fun _ _ _ _ _ => (pv 1))) pa_nil)))), ?_⟩
  have hb := bits_le hm
  refine ⟨_, rfl, _, rfl, _, rfl, by omega, by omega, fun D hD => lc_det (R := RN) walk_rangeN pRN hD (by show Builtin.Int.intBits (m : Int) ≤ _; omega) (fun i => if m.testBit i = true then some i else none) (fun _ _ => trivial) (fun i x H1 H2 C Nx hi f1 hy k1 k2 => ?_) fun H2 f2 hl => ?_⟩
  · obtain ⟨rfl, rfl⟩ := hy
    refine ⟨rfl, _, rfl, _, rfl, m, i, rfl, rfl, m >>> i, 1, rfl, rfl, rfl, _, rfl, ?_⟩
    by_cases ht : m.testBit i = true
    · have e := (testBit_shr m i).mpr ht
      rw [e]
      exact ⟨_, rfl, k1 _ _ i (if_pos ht) .refl rfl⟩
    · have e : ¬ (m >>> i &&& 1 = 1) := fun z => ht ((testBit_shr m i).mp z)
      have e2 : decide (vn (m >>> i &&& 1) = V.int 1) = false := decide_eq_false fun z => e (vn_inj z)
      rw [e2]
      exact k2 _ (if_neg ht) .refl
  · rw [fm_range'] at hl
    have hl2 := ln_iff.mp hl
    exact ⟨D, _, rfl, .inl ⟨sL hl2, fun l hll => q _ _ (f2.snoc hll) (tn_iff.mpr ⟨l, rfl, upd_same⟩)⟩⟩
abbrev s__law_brought : Stmt := topS 53
abbrev N__law_brought : List Str := ["_law_blocks", "_law_direct_here", "_law_there", "_law_block", "_law_lot_here", "_law_turn", "_law_around", "_law_kept", "_law_change"]
theorem sc__law_brought : FnScope N__law_brought ["_law_blocks", "_law_direct_here", "_law_there", "_law_block"] (C8.fnScope s__law_brought) := C8.fnScope_by (by decide +kernel)
def sp_lbrought : Sp := fun vs H Q _ => ∃ (vb : V) (pd : Addr) (bs : List Nat) (nd : List (Nat × Nat)) (S b : Nat), vs = [vb, .ref pd, vn S, vn b] ∧ TN H vb bs ∧ H pd = some (.lst ((dmL bs.length nd).map vn)) ∧ bs.length ≤ 60 ∧ ∀ H', Fz N0 H H' → Q (vn (lbr bs nd S b)) H'
theorem ok__law_brought (T : Tx K mg B W c) : C8.Cal P w K mg base 1 "_law_brought" sp_lbrought [] := by
  refine calD T.d__law_brought sc__law_brought (fun vs H Q E ⟨_, _, _, _, _, _, h, _⟩ => by rw [h]; rfl) fun f cdv A outer s H vs Q E hr h => ?_
  obtain ⟨vb, pd, bs, nd, S, b, rfl, hb, hd, hz, q⟩ := h
  obtain ⟨ab, rfl, hab⟩ := tn_iff.mp hb
  refine ⟨_, (pss_cons (ps_setLc (i := 4) (own := [("_law_change", 8)]) (by rfl) sc__law_brought.nd rfl rfl (sw_true rfl rfl rfl (by decide +kernel)) (pi_range1 (by rfl) T.z_range (pa_cons (pe_callB call_len_seq (by rfl) T.z_len PySem.boot_len (pa_cons (pv 0) pa_nil)) pa_nil)) (blkOk_by (own := [("_law_change", 8)]) (N := N__law_brought) (sc := C8.fnScope s__law_brought) (by decide +kernel)) (fun _ _ _ _ _ => (pg_name (i := 8) sc__law_brought.nd rfl (.inl rfl))) (fun _ _ _ _ _ => (pts_one (PW.pt (pw_and (pt_cmpR op_eq (pe_ix (ixTk (K := K) rfl) (pv 0) (pv 8) (fun _ _ => rfl)) (pv 3) (nomark _)) (pw_and1 (pt_cmpR op_eq (pe_op op_andN (pe_op op_shrNN (pv 2) (pv 8)) pe_int) pe_int (nomark _))))))) (fun _ _ _ _ _ => (pv 8)))
      (pss_cons (ps_for PassesOwn.never rfl (pi_range1 (by rfl) T.z_range (pa_cons (pe_op op_add (pe_callB call_len_seq (by rfl) T.z_len PySem.boot_len (pa_cons (pv 4) pa_nil)) pe_int) pa_nil)) (pg_name (i := 5) sc__law_brought.nd rfl (.inl rfl))
        (pss_cons (ps_set (i := 6) sc__law_brought.nd rfl (.inr rfl) (pe_op op_add (pv 2) (pe_callB (cr_sum rfl) (by rfl) T.z_sum (by decide +kernel) (pa_cons (pe_lc (own := [("_law_change", 8)]) (by rfl) sc__law_brought.nd (pi_list (pv 4)) (blkOk_by (own := [("_law_change", 8)]) (N := N__law_brought) (sc := C8.fnScope s__law_brought) (by decide +kernel)) (fun _ _ _ _ _ => (pg_name (i := 8) sc__law_brought.nd rfl (.inl rfl))) (fun _ _ _ _ _ => pts_nil) (fun _ _ _ _ _ => (pe_op op_shl1 pe_int (pv 8)))) pa_nil))))
        (pss_cons (ps_setLc (i := 7) (own := [("_law_change", 8)]) (by rfl) sc__law_brought.nd rfl rfl (sw_true rfl rfl rfl (by decide +kernel)) (pi_list (pv 4)) (blkOk_by (own := [("_law_change", 8)]) (N := N__law_brought) (sc := C8.fnScope s__law_brought) (by decide +kernel)) (fun _ _ _ _ _ => (pg_name (i := 8) sc__law_brought.nd rfl (.inl rfl))) (fun _ _ _ _ _ => (pts_one (pt_cmpR op_eq (pe_op op_andN (pe_ix (ixLk (K := K) rfl) (pv 1) (pv 8) (fun _ _ => rfl)) (pv 6)) (pe_ix (ixLk (K := K) rfl) (pv 1) (pv 8) (fun _ _ => rfl)) (nomark _)))) (fun _ _ _ _ _ => (pv 8)))
        (pss_cons (ps_if (pt_cmpR op_eq (pe_callB call_len_seq (by rfl) T.z_len PySem.boot_len (pa_cons (pv 7) pa_nil)) (pe_callB call_len_seq (by rfl) T.z_len PySem.boot_len (pa_cons (pv 4) pa_nil)) (nomark _))
          (pss_one ps_break)
          pss_nil)
        (pss_one (ps_set (i := 4) sc__law_brought.nd rfl (.inl rfl) (pv 7)))))))
      (pss_one (ps_ret (pe_callB (cr_sum rfl) (by rfl) T.z_sum (by decide +kernel) (pa_cons (pe_lc (own := [("_law_change", 8)]) (by rfl) sc__law_brought.nd (pi_list (pv 4)) (blkOk_by (own := [("_law_change", 8)]) (N := N__law_brought) (sc := C8.fnScope s__law_brought) (by decide +kernel)) (fun _ _ _ _ _ => (pg_name (i := 8) sc__law_brought.nd rfl (.inl rfl))) (fun _ _ _ _ _ => pts_nil) (fun _ _ _ _ _ => (pe_op op_shl1 pe_int (pv 8)))) pa_nil)))))), ?_⟩
  have pw : ∀ (L : List Nat), (List.range (L.map vn).length).filterMap (fun i => L[i]?.bind fun c => some (2 ^ c)) = L.map fun c => 2 ^ c := fun L => by
    rw [List.length_map, fm_get]
    exact congrFun (List.filterMap_eq_map (f := fun c : Nat => 2 ^ c)) _
  refine ⟨_, rfl, ab, _, rfl, .inr (sT hab), (bs.length : Int), by rw [List.length_map], by omega, by omega, fun pL hpL => lc_det (R := RN) walk_rangeN pRN hpL (by show bs.length ≤ _; omega) (fun i => if (decide (bs[i]? = some b) && decide (S >>> i &&& 1 = 0)) = true then some i else none) (fun _ _ => trivial) (fun i x H1 H2 C Nx hi f1 hy k1 k2 => ?_) fun H2 f2 hl => ?_⟩
  · obtain ⟨rfl, rfl⟩ := hy
    have hi : i < bs.length := hi
    have eb : bs[i]? = some (bs[i]) := List.getElem?_eq_getElem hi
    have hab1 := f1.tup hab
    refine ⟨rfl, _, rfl, _, rfl, ab, _, (i : Int), _, rfl, rfl, sT hab1, atN (vn_get eb), _, rfl, rfl, _, rfl, ?_⟩
    rw [dvn]
    by_cases h1 : bs[i] = b
    · rw [decide_eq_true h1]
      refine ⟨_, rfl, _, rfl, S, i, rfl, rfl, S >>> i, 1, rfl, rfl, rfl, _, rfl, ?_⟩
      rw [show V.int 0 = vn 0 from rfl, dvn]
      by_cases h2 : S >>> i &&& 1 = 0
      · rw [decide_eq_true h2]
        exact ⟨_, rfl, k1 _ _ i (if_pos (by rw [eb, h1, decide_eq_true h2]; simp)) .refl rfl⟩
      · rw [decide_eq_false h2]
        exact k2 _ (if_neg (by rw [decide_eq_false h2]; simp)) .refl
    · rw [decide_eq_false h1]
      exact k2 _ (if_neg (by rw [eb]; simp [h1])) .refl
  rw [fm_range'] at hl
  have hl2 : H2 pL = some (.lst ((lot0 bs S b).map vn)) := ln_iff.mp hl
  have l0 : (lot0 bs S b).length ≤ bs.length := by
    have h := List.length_filter_le (fun c => decide (bs[c]? = some b) && decide (S >>> c &&& 1 = 0)) (List.range bs.length)
    rw [List.length_range] at h
    exact h
  -- the turns
  refine ⟨_, rfl, pL, _, rfl, .inl (sL hl2), ((lot0 bs S b).length : Int), 1, by rw [List.length_map], rfl, (((lot0 bs S b).length + 1 : Nat) : Int), rfl, by omega, by omega, for_it (n := (lot0 bs S b).length + 1) walk_rangeN (fun i σ Hc => ∃ (L : List Nat) (pL : Addr) (u5 u6 u7 : Option V), σ = [some (.ref ab), some (.ref pd), some (vn S), some (vn b), some (.ref pL), u5, u6, u7, none] ∧ Fz N0 H Hc ∧ Hc pL = some (.lst (L.map vn)) ∧ Strk bs nd S b L ∧ L.length + i ≤ (lot0 bs S b).length)
    ⟨lot0 bs S b, pL, _, _, _, rfl, f2, hl2, .init, by omega⟩ (fun _ _ _ _ _ => trivial) ?_ ?_⟩
  · rintro i y σ Hc H' hi ⟨L, pL, u5, u6, u7, rfl, fc, hL, st, lL⟩ ⟨rfl, rfl⟩
    have hi : i < (lot0 bs S b).length + 1 := hi
    -- around
    refine ⟨_, rfl, _, rfl, pL, rfl, ⟨_, sL hL⟩, fun D hD => lc_det (R := RN) (walk_list (K := K) (a := pL) (xs := L.map vn)) pRN hD (by rw [List.length_map]; omega) (fun i => L[i]?.bind fun c => some (2 ^ c)) (fun H f => sL (f.at hL fun z => z)) (fun j x H3 H4 C Nx hj f3 hy k1 k2 => ?_) fun H3 f3 hl3 => ?_⟩
    · obtain ⟨rfl, hy⟩ := hy
      obtain ⟨n, hn, rfl⟩ := vn_get' hy
      have hnb := (List.getElem?_eq_some_iff.mp (mem_lot0.mp (st.sub.mem (List.mem_of_getElem? hn))).1).1
      exact ⟨rfl, _, rfl, n, rfl, rfl, by omega, k1 _ _ (2 ^ n) (by rw [hn]; rfl) .refl rfl⟩
    rw [pw] at hl3
    have hl4 := ln_iff.mp hl3
    rw [map_vn] at hl4
    have hL3 := f3.at hL fun z => z
    have hd3 := (fc.trans f3).at hd fun z => z
    refine ⟨D, _, rfl, sL hl4, (S : Int), ((mskL L : Nat) : Int), rfl, by rw [sum_cast, sum_pow st.nodup], ?_⟩
    -- kept
    refine ⟨_, rfl, pL, rfl, ⟨_, sL hL3⟩, fun D2 hD2 => lc_det (R := RN) (walk_list (K := K) (a := pL) (xs := L.map vn)) pRN hD2 (by rw [List.length_map]; omega) (fun i => L[i]?.bind fun c => if decide (mskL (needL nd c) &&& (S + mskL L) = mskL (needL nd c)) = true then some c else none) (fun H f => sL (f.at hL3 fun z => z)) (fun j x H4 H5 C Nx hj f4 hy k1 k2 => ?_) fun H4 f4 hl5 => ?_⟩
    · obtain ⟨rfl, hy⟩ := hy
      obtain ⟨n, hn, rfl⟩ := vn_get' hy
      have hnb := (List.getElem?_eq_some_iff.mp (mem_lot0.mp (st.sub.mem (List.mem_of_getElem? hn))).1).1
      have eg : (dmL bs.length nd)[n]? = some (mskL (needL nd n)) := range_get hnb
      have hd4 := f4.at hd3 fun z => z
      refine ⟨rfl, _, rfl, _, rfl, pd, _, (n : Int), _, rfl, rfl, sL hd4, atN (vn_get eg), _, rfl, mskL (needL nd n), S + mskL L, rfl, rfl, _, rfl, _, rfl, pd, _, (n : Int), _, rfl, rfl, sL hd4, atN (vn_get eg), rfl, _, rfl, ?_⟩
      rw [dvn]
      by_cases h1 : mskL (needL nd n) &&& (S + mskL L) = mskL (needL nd n)
      · rw [decide_eq_true h1]
        exact ⟨_, rfl, k1 _ _ n (by rw [hn]; exact if_pos (decide_eq_true h1)) .refl rfl⟩
      · rw [decide_eq_false h1]
        exact k2 _ (by rw [hn]; exact if_neg (by simpa using h1)) .refl
    have ek : (List.range (L.map vn).length).filterMap (fun i => L[i]?.bind fun c => if decide (mskL (needL nd c) &&& (S + mskL L) = mskL (needL nd c)) = true then some c else none) = keepL nd S L := by
      rw [List.length_map, fm_get]
      unfold keepL
      rw [← List.filterMap_eq_filter]
      congr
    rw [ek] at hl5
    have hK := ln_iff.mp hl5
    have hL4 := f4.at hL3 fun z => z
    have f04 := (fc.trans f3).trans f4
    refine ⟨_, rfl, D2, _, rfl, .inl (sL hK), _, rfl, pL, _, rfl, .inl (sL hL4), rfl, _, rfl, ?_⟩
    rw [List.length_map, List.length_map]
    have lk : (keepL nd S L).length ≤ L.length := List.length_filter_le _ _
    have edc : decide (V.int (((keepL nd S L).length : Nat) : Int) = V.int ((L.length : Nat) : Int)) = decide ((keepL nd S L).length = L.length) := dvn _ _
    rw [edc]
    by_cases hh : (keepL nd S L).length = L.length
    · rw [decide_eq_true hh]
      -- the end
      refine ⟨_, rfl, pL, rfl, ⟨_, sL hL4⟩, fun D3 hD3 => lc_det (R := RN) (walk_list (K := K) (a := pL) (xs := L.map vn)) pRN hD3 (by rw [List.length_map]; omega) (fun i => L[i]?.bind fun c => some (2 ^ c)) (fun H f => sL (f.at hL4 fun z => z)) (fun j x H3 H4 C Nx hj f3 hy k1 k2 => ?_) fun H5 f5 hl6 => ?_⟩
      · obtain ⟨rfl, hy⟩ := hy
        obtain ⟨n, hn, rfl⟩ := vn_get' hy
        have hnb := (List.getElem?_eq_some_iff.mp (mem_lot0.mp (st.sub.mem (List.mem_of_getElem? hn))).1).1
        exact ⟨rfl, _, rfl, n, rfl, rfl, by omega, k1 _ _ (2 ^ n) (by rw [hn]; rfl) .refl rfl⟩
      rw [pw] at hl6
      have hl7 := ln_iff.mp hl6
      rw [map_vn] at hl7
      refine ⟨D3, _, rfl, sL hl7, ?_⟩
      rw [sum_cast, sum_pow st.nodup, st.fin hh]
      exact q H5 (f04.trans f5)
    · rw [decide_eq_false hh]
      exact ⟨_, rfl, keepL nd S L, D2, _, _, _, rfl, f04, hK, st.step, by omega⟩
  · rintro σ Hc ⟨L, pL, u5, u6, u7, rfl, fc, hL, st, lL⟩
    omega
end
end Rw

/-! The law's own defs: drawn_blocks, drawn. -/
namespace Rw
open PySem PySem.Spec PyProof.Rows L2
section
variable {P : Program} {w : World} {K : PySem.W.Frag} {mg : Str → Option Value} {base : Heap} {B W c : Addr}
abbrev s__law_drawn_blocks : Stmt := topS 54
abbrev N__law_drawn_blocks : List Str := ["_law_tape_here", "_law_many", "_law_parts", "_law_names", "_law_change"]
theorem sc__law_drawn_blocks : FnScope N__law_drawn_blocks ["_law_tape_here", "_law_many", "_law_parts"] (C8.fnScope s__law_drawn_blocks) := C8.fnScope_by (by decide +kernel)
def sp_drawn_blocks : Sp := fun vs H Q _ => ∃ (t l : Addr) (m k : Nat), vs = [.ref t, vn m, vn k] ∧ TapeO H t l ∧ m ≤ 1000 ∧ 0 < k ∧ k < 50 ∧ ∀ (bs names : List Nat) (v : V) (H' : Hp), bs.length = m → names.length = k → (∀ b ∈ bs, b ∈ names ∧ b < 50) → Fz (Tp t) H H' → TapeO H' t l → TN H' v bs → Q v H'
theorem ok__law_drawn_blocks (T : Tx K mg B W c) : C8.Cal P w K mg base 3 "_law_drawn_blocks" sp_drawn_blocks [] := by
  refine calD T.d__law_drawn_blocks sc__law_drawn_blocks (fun vs H Q E ⟨_, _, _, _, h, _⟩ => by rw [h]; rfl) fun f cdv A outer s H vs Q E hr h => ?_
  obtain ⟨t, l, m, k, rfl, htp, hm, hk1, hk2, q⟩ := h
  refine ⟨_, (pss_cons (ps_set (i := 3) sc__law_drawn_blocks.nd rfl (.inr rfl) (C8.pe_c (ok__law_some_blocks T) hr (by decide) (by rfl) (pa_cons (pv 0) (pa_cons (pv 2) pa_nil))))
      (pss_one (ps_ret (pe_callTy call_tuple_of (by rfl) T.z_tuple (by decide +kernel) (pa_cons (pe_lc (own := [("_law_change", 4)]) (by rfl) sc__law_drawn_blocks.nd (pi_range1 (by rfl) T.z_range (pa_cons (pv 1) pa_nil)) (blkOk_by (own := [("_law_change", 4)]) (N := N__law_drawn_blocks) (sc := C8.fnScope s__law_drawn_blocks) (by decide +kernel)) (fun _ _ _ _ _ => (pg_name (i := 4) sc__law_drawn_blocks.nd rfl (.inl rfl))) (fun _ _ _ _ _ => pts_nil) (fun _ _ _ _ _ => (C8.pe_c (ok__law_any T) hr (by decide) (by rfl) (pa_cons (pv 0) (pa_cons (pv 3) pa_nil))))) pa_nil))))), ?_⟩
  refine ⟨_, rfl, _, rfl, t, l, k, rfl, htp, hk2, fun names pn H1 nd lt len f1 ht1 frn hn => ?_⟩
  have on := htp.off frn
  have ht1' : ∃ xs, H1 t = some (.lst xs) := by
    obtain ⟨_, _, _, _, _, h1, _⟩ := ht1
    exact ⟨_, h1⟩
  refine ⟨_, rfl, _, rfl, by omega, by omega, fun D hD => lc_fz (R := RN) (n := m) walk_rangeN pRN (Tp t) (fun b z => by
      rw [show b = t from z]
      exact ht1') hD (by omega) (fun i zs H => TapeO H t l ∧ zs.length = i ∧ ∀ z ∈ zs, z ∈ names) ⟨ht1, rfl, fun z h => (nomatch h)⟩ (fun i zs H xs hD ⟨a, b, c⟩ => ⟨a.put (ht1.offN hD), b, c⟩) (fun _ _ _ _ _ _ => trivial) (fun i x zs H2 H3 C Nx hi f2 hDk ⟨a, b, c⟩ hy k1 k2 => ?_) fun zs H2 f2 ⟨a, b, c⟩ lz hl => ?_⟩
  · obtain ⟨rfl, rfl⟩ := hy
    have hn2 := f2.at hn on.1
    refine ⟨rfl, _, rfl, _, rfl, t, l, pn, _, rfl, a, hn2, on.1, by rw [List.length_map]; omega, by rw [List.length_map]; omega, fun j v H4 hv f4 ht4 => ?_⟩
    obtain ⟨n, hn4, rfl⟩ := vn_get' hv
    refine k1 _ n _ f4 rfl ⟨ht4, by rw [List.length_append, b]; rfl, fun z hz => ?_⟩
    rcases List.mem_append.mp hz with z | z
    · exact c _ z
    · rw [List.mem_singleton.mp z]
      exact List.mem_of_getElem? hn4
  · have hl2 := ln_iff.mp hl
    have f02 := f1.trans f2
    refine ⟨D, _, rfl, .inl ⟨sL hl2, fun p hp => q zs names _ _ b len (fun z hz => ⟨c z hz, lt z (c z hz)⟩) (f02.snoc hp) (a.put (a.offN hp)) (tn_iff.mpr ⟨p, rfl, upd_same⟩)⟩⟩
theorem cut_head (xs : List V) {n : Nat} (h : n ≤ xs.length) : cutV xs none (some (n : Int)) = xs.take n := by
  unfold cutV
  rw [HT.sIx_none, HT.sIx_nat, Nat.min_eq_left h, List.drop_zero, Nat.sub_zero]
/-- needs drawn along an order -/
def Drawn (n : Nat) (nd : List (Nat × Nat)) : Prop := ∃ rk : Nat → Nat, ∀ p ∈ nd, p.1 < n ∧ p.2 < n ∧ rk p.2 < rk p.1
theorem idx_at {o : List Nat} (nd : o.Nodup) {i c : Nat} (h : o[i]? = some c) : o.idxOf c = i := by
  have hi := (List.getElem?_eq_some_iff.mp h).1
  have h1 : o.idxOf c < o.length := List.idxOf_lt_length_iff.mpr (List.mem_of_getElem? h)
  have h2 : o[o.idxOf c] = c := List.getElem_idxOf h1
  have h3 := (List.getElem?_eq_some_iff.mp h).2
  have h4 : o[o.idxOf c] = o[i] := h2.trans h3.symm
  have z := List.pairwise_iff_getElem.mp nd
  rcases Nat.lt_trichotomy (o.idxOf c) i with g | g | g
  · exact absurd h4 (z _ _ h1 hi g)
  · exact g
  · exact absurd h4.symm (z _ _ hi h1 g)
abbrev s__law_drawn : Stmt := topS 55
abbrev N__law_drawn : List Str := ["_law_tape_here", "_law_blocks", "_law_order_here", "_law_rare", "_law_needs", "_law_at", "_law_other"]
theorem sc__law_drawn : FnScope N__law_drawn ["_law_tape_here", "_law_blocks"] (C8.fnScope s__law_drawn) := C8.fnScope_by (by decide +kernel)
def sp_drawn : Sp := fun vs H Q _ => ∃ (t l : Addr) (v : V) (bs : List Nat), vs = [.ref t, v] ∧ TapeO H t l ∧ TN H v bs ∧ bs.length < 12 ∧ ∀ (nd : List (Nat × Nat)) (v : V) (H' : Hp), nd.Pairwise PLt → Drawn bs.length nd → Fz (Tp t) H H' → TapeO H' t l → SP2 H' v (bs, nd) → Q v H'
theorem ok__law_drawn (T : Tx K mg B W c) : C8.Cal P w K mg base 3 "_law_drawn" sp_drawn [] := by
  refine calD T.d__law_drawn sc__law_drawn (fun vs H Q E ⟨_, _, _, _, h, _⟩ => by rw [h]; rfl) fun f cdv A outer s H vs Q E hr h => ?_
  obtain ⟨t, l, v, bs, rfl, htp, hb, hz, q⟩ := h
  obtain ⟨ab, rfl, hab⟩ := tn_iff.mp hb
  refine ⟨_, (pss_cons (ps_set (i := 2) sc__law_drawn.nd rfl (.inr rfl) (C8.pe_c (ok__law_order T) hr (by decide) (by rfl) (pa_cons (pv 0) (pa_cons (pe_callB call_len_seq (by rfl) T.z_len PySem.boot_len (pa_cons (pv 1) pa_nil)) pa_nil))))
      (pss_cons (ps_asg (pe_tup (pa_cons (C8.pe_c (ok__law_any T) hr (by decide) (by rfl) (pa_cons (pv 0) (pa_cons (pe_lst (pa_cons pe_int (pa_cons pe_int (pa_cons pe_int (pa_cons pe_int (pa_cons pe_int pa_nil)))))) pa_nil))) (pa_cons (pe_lst pa_nil) pa_nil))) (pg_tup rfl (pgs_cons (pg_name (i := 3) sc__law_drawn.nd rfl (.inr rfl)) (pgs_cons (pg_name (i := 4) sc__law_drawn.nd rfl (.inl rfl)) pgs_nil))))
      (pss_cons (ps_for PassesOwn.never rfl (pi_range1 (by rfl) T.z_range (pa_cons (pe_callB call_len_seq (by rfl) T.z_len PySem.boot_len (pa_cons (pv 2) pa_nil)) pa_nil)) (pg_name (i := 5) sc__law_drawn.nd rfl (.inr rfl))
        (pss_cons (ps_expr (pe_bm PySem.F.plainAttrs_list PySem.F.slot_list_extend PySem.F.type_list_extend mt_extend (pv 4) (pa_cons (pe_lc (own := [("_law_other", 6)]) (by rfl) sc__law_drawn.nd (pi_list (pe_slice sl_list (pv 2) po_none (po_some (pv 5)))) (blkOk_by (own := [("_law_other", 6)]) (N := N__law_drawn) (sc := C8.fnScope s__law_drawn) (by decide +kernel)) (fun _ _ _ _ _ => (pg_name (i := 6) sc__law_drawn.nd rfl (.inl rfl))) (fun _ _ _ _ _ => (pts_one (pt_cmpR op_eq (C8.pe_c (ok__law_pick T) hr (by decide) (by rfl) (pa_cons (pv 0) (pa_cons (pv 3) pa_nil))) pe_int (nomark _)))) (fun _ _ _ _ _ => (pe_tup (pa_cons (pe_ix (ixLk (K := K) rfl) (pv 2) (pv 5) (fun _ _ => rfl)) (pa_cons (pv 6) pa_nil))))) pa_nil)))
        (pss_one (ps_if (PW.pt (pw_and (pt_cmpR op_gt (pv 5) pe_int (nomark _)) (pw_and (pt_cmpR op_gt (pv 3) pe_int (nomark _)) (pw_and1 (pt_cmpR op_gt (C8.pe_c (ok__law_pick T) hr (by decide) (by rfl) (pa_cons (pv 0) (pa_cons pe_int pa_nil))) pe_int (nomark _))))))
          (pss_one (ps_expr (pe_bm PySem.F.plainAttrs_list PySem.F.slot_list_append PySem.F.type_list_append mt_append (pv 4) (pa_cons (pe_tup (pa_cons (pe_ix ix_list (pv 2) (pv 5) (fun _ _ => rfl)) (pa_cons (pe_ix ix_list (pv 2) (pe_op op_sub (pv 5) pe_int) (fun _ _ => rfl)) pa_nil))) pa_nil))))
          pss_nil))))
      (pss_one (ps_ret (pe_tup (pa_cons (pv 1) (pa_cons (pe_callTy call_tuple_of (by rfl) T.z_tuple (by decide +kernel) (pa_cons (pe_callB (cr_sortedT rfl) (by rfl) T.z_sorted (by decide +kernel) (pa_cons (pe_callTy (cr_setT rfl hr.units) (by rfl) T.z_set (by decide +kernel) (pa_cons (pv 4) pa_nil)) pa_nil)) pa_nil)) pa_nil)))))))), ?_⟩
  refine ⟨_, rfl, _, rfl, ab, _, rfl, .inr (sT hab), t, l, bs.length, by rw [List.length_map]; rfl, htp, by omega, fun o po H1 hpm f1 ht1 fro ho => ?_⟩
  have oo := htp.off fro
  have ond : o.Nodup := hpm.nodup_iff.mpr List.nodup_range
  have lo := hpm.length_eq
  rw [List.length_range] at lo
  refine ⟨_, rfl, sz (show 5 ≤ 100000 by decide), fun pr hpr => ?_⟩
  have f2 : Fz (Tp t) H (upd H1 pr (.lst [vn 1, vn 2, vn 3, vn 5, vn 9])) := f1.snoc hpr
  have or_ := ht1.offN hpr
  refine ⟨t, l, pr, _, rfl, ht1.put or_, upd_same, or_.1, by decide, by decide, fun ri rv H2 hrv f3 ht2 => ?_⟩
  obtain ⟨rare, hrare, rfl⟩ := vn_get' (ns := [1, 2, 3, 5, 9]) hrv
  have hra : 0 < rare ∧ rare < 100 := by
    have := List.mem_of_getElem? hrare
    simp at this
    omega
  refine ⟨Nat.zero_le _, fun pn hpn => ⟨sz (show 2 ≤ 100000 by decide), fun pt hpt => ?_⟩⟩
  have f03 := f2.trans f3
  have on := ht2.offN hpn
  have frn : Fr H pn := f03.fr hpn
  have f4 : Fz (Tp t) H (upd H2 pn (.lst [])) := f03.snoc hpn
  have ht4 := ht2.put (o := .lst []) on
  have f5 := f4.snoc (o := .tup [vn rare, .ref pn]) hpt
  have ht5 := ht4.put (o := .tup [vn rare, .ref pn]) (ht4.offN hpt)
  have npt : pn ≠ pt := fun z => by rw [← z, upd_same] at hpt; cases hpt
  have hn5 : (upd (upd H2 pn (.lst [])) pt (.tup [vn rare, .ref pn])) pn = some (.lst []) := by rw [upd_ne npt, upd_same]
  have ho1 : (upd H1 pr (.lst [vn 1, vn 2, vn 3, vn 5, vn 9])) po = some (.lst (o.map vn)) := (Fz.new (T := N0) hpr).at ho fun z => z
  have ho2 := f3.at ho1 oo.1
  have ho5 : (upd (upd H2 pn (.lst [])) pt (.tup [vn rare, .ref pn])) po = some (.lst (o.map vn)) := ((Fz.new (T := N0) (o := .lst []) hpn).snoc hpt).at ho2 fun z => z
  have npo : po ≠ pn := fun z => by rw [z, hpn] at ho2; cases ho2
  refine ⟨pt, _, rfl, sT upd_same, rfl, _, _, rfl, _, _, rfl, rfl, ?_⟩
  generalize upd (upd H2 pn (.lst [])) pt (.tup [vn rare, .ref pn]) = H5 at f5 ht5 hn5 ho5
  -- the turns
  refine ⟨_, rfl, po, _, rfl, .inl (sL ho5), (bs.length : Int), by rw [List.length_map, lo], by omega, by omega, for_it (n := bs.length) walk_rangeN (fun i σ Hc => ∃ (zs : List (Nat × Nat)) (u5 : Option V), σ = [some (.ref t), some (.ref ab), some (.ref po), some (vn rare), some (.ref pn), u5, none] ∧ Fz (Tp t) H Hc ∧ TapeO Hc t l ∧ LL PN Hc pn zs ∧ Hc po = some (.lst (o.map vn)) ∧ zs.length ≤ i * 20 ∧ ∀ p ∈ zs, p.1 < bs.length ∧ p.2 < bs.length ∧ o.idxOf p.2 < o.idxOf p.1)
    ⟨[], _, rfl, f5, ht5, ⟨[], hn5, .nil⟩, ho5, Nat.zero_le _, fun p h => (nomatch h)⟩ (fun _ _ _ _ _ => trivial) ?_ ?_⟩
  · rintro i y σ Hx Hc hi ⟨zs, u5, rfl, fc, ht, hl, ho, lz, hzs⟩ ⟨rfl, rfl⟩
    have hi : i < bs.length := hi
    have ei : o[i]? = some (o[i]'(by omega)) := List.getElem?_eq_getElem _
    have hoi : o[i]'(by omega) < bs.length := List.mem_range.mp (hpm.mem_iff.mp (List.getElem_mem _))
    obtain ⟨vs, hl1, hl2⟩ := id hl
    refine ⟨_, rfl, tyL hl1, _, rfl, _, rfl, (i : Int), rfl, po, _, rfl, sL ho, fun ps hps => ?_⟩
    rw [cut_head _ (by rw [List.length_map]; omega), ← List.map_take]
    have fs : Fz N0 Hc (upd Hc ps (.lst ((o.take i).map vn))) := .new hps
    have hts := ht.fz fs
    have hts' : ∃ xs, (upd Hc ps (.lst ((o.take i).map vn))) t = some (.lst xs) := by
      obtain ⟨_, _, _, _, _, h1, _⟩ := hts
      exact ⟨_, h1⟩
    have ops := ht.offN hps
    have ltk : (o.take i).length = i := by rw [List.length_take]; omega
    have onS := htp.off frn
    refine ⟨ps, rfl, ⟨_, sL upd_same⟩, fun D hD => lc_fz (R := PN) (walk_list (K := K) (a := ps) (xs := (o.take i).map vn)) pPN (Tp t) (fun b z => by
        rw [show b = t from z]
        exact hts') hD (by rw [List.length_map]; omega) (fun j zs2 H => TapeO H t l ∧ zs2.length ≤ j ∧ ∀ p ∈ zs2, p.1 < bs.length ∧ p.2 < bs.length ∧ o.idxOf p.2 < o.idxOf p.1) ⟨hts, Nat.zero_le _, fun z h => (nomatch h)⟩ (fun i zs H xs hD ⟨a, b, c⟩ => ⟨a.put (hts.offN hD), b, c⟩) (fun _ _ _ _ f _ => sL (f.at upd_same ops.1)) (fun j x zs2 H2 H3 C Nx hj f2 hDk ⟨a, b, c⟩ hy k1 k2 => ?_) fun zs2 H2 f2 ⟨a, b, c⟩ lz2 hl3 => ?_⟩
    · obtain ⟨rfl, hy⟩ := hy
      obtain ⟨d, hd, rfl⟩ := vn_get' hy
      refine ⟨rfl, _, rfl, _, rfl, t, l, rare, rfl, a, hra.1, by omega, fun r H4 hr f4 ht4 => ⟨rfl, _, rfl, ?_⟩⟩
      rw [show V.int 0 = vn 0 from rfl, dvn]
      by_cases h0 : r = 0
      · rw [decide_eq_true h0]
        have ho4 : H4 po = some (.lst (o.map vn)) := f4.at (f2.at (fs.at ho fun z => z) oo.1) oo.1
        have hdt : d ∈ o.take i := List.mem_of_getElem? hd
        have hdo : o[j]? = some d := by
          rw [List.getElem?_take] at hd
          split at hd
          · exact hd
          · cases hd
        have hji : j < i := by
          rw [List.length_map, ltk] at hj
          exact hj
        refine ⟨_, rfl, _, rfl, po, _, (i : Int), _, rfl, rfl, sL ho4, atN (vn_get ei), _, rfl, sz (show 2 ≤ 100000 by decide), fun p hp => k1 _ (o[i]'(by omega), d) _ (f4.snoc hp) ⟨p, _, _, rfl, upd_same, rfl, rfl⟩ ⟨ht4.put (ht4.offN hp), by rw [List.length_append, List.length_singleton]; omega, fun z hz => ?_⟩⟩
        rcases List.mem_append.mp hz with z | z
        · exact c _ z
        · rw [List.mem_singleton.mp z]
          refine ⟨hoi, List.mem_range.mp (hpm.mem_iff.mp (List.mem_of_getElem? hdo)), ?_⟩
          rw [idx_at ond hdo, idx_at ond ei]
          exact hji
      · rw [decide_eq_false h0]
        exact k2 _ f4 ⟨ht4, by omega, c⟩
    -- extended
    obtain ⟨ws, hw1, hw2⟩ := hl3
    have fs2 := (fs.up (T := Tp t)).trans f2
    have hl1' := fs2.at hl1 onS.1
    rw [List.length_map, ltk] at lz2
    have lvs := plen hl2
    have lws := plen hw2
    refine ⟨pn, D, _, _, rfl, rfl, hl1', hw1, sz (by omega), ?_⟩
    have hl2' := pPN.all fs2 hl2
    have ho6 : (upd H2 pn (.lst (vs ++ ws))) po = some (.lst (o.map vn)) := by rw [upd_ne npo]; exact fs2.at ho oo.1
    have hp6 : Paired (PN (upd H2 pn (.lst (vs ++ ws)))) (vs ++ ws) (zs ++ zs2) := L2.Paired.mapP (papp hl2' hw2) fun v x r => PN.upd hl1' (fun ys z => nomatch z) r
    have f6 : Fz (Tp t) H (upd H2 pn (.lst (vs ++ ws))) := (fc.trans fs2).mut frn hl1'
    have ht6 := a.put (o := .lst (vs ++ ws)) onS
    have hn6 : (upd H2 pn (.lst (vs ++ ws))) pn = some (.lst (vs ++ ws)) := upd_same
    have hz6 : ∀ p ∈ zs ++ zs2, p.1 < bs.length ∧ p.2 < bs.length ∧ o.idxOf p.2 < o.idxOf p.1 := fun p hp => (List.mem_append.mp hp).elim (hzs p) (c p)
    have l6 : (zs ++ zs2).length ≤ i * 20 + i := by rw [List.length_append]; omega
    generalize upd H2 pn (.lst (vs ++ ws)) = H6 at f6 ht6 hn6 hp6 ho6
    refine ⟨_, rfl, _, _, rfl, rfl, _, rfl, ?_⟩
    have done : ∀ H7, Fz (Tp t) H6 H7 → TapeO H7 t l → ∃ (zs : List (Nat × Nat)) (u5 : Option V), [some (.ref t), some (.ref ab), some (.ref po), some (vn rare), some (.ref pn), some (vn i), none] = [some (.ref t), some (.ref ab), some (.ref po), some (vn rare), some (.ref pn), u5, none] ∧ Fz (Tp t) H H7 ∧ TapeO H7 t l ∧ LL PN H7 pn zs ∧ H7 po = some (.lst (o.map vn)) ∧ zs.length ≤ (i + 1) * 20 ∧ ∀ p ∈ zs, p.1 < bs.length ∧ p.2 < bs.length ∧ o.idxOf p.2 < o.idxOf p.1 := fun H7 f7 ht7 =>
      ⟨zs ++ zs2, _, rfl, f6.trans f7, ht7, ⟨_, f7.at hn6 onS.1, pPN.all f7 hp6⟩, f7.at ho6 oo.1, by omega, hz6⟩
    by_cases hi0 : 0 < i
    · have e0 : decide ((0 : Int) < (i : Int)) = true := decide_eq_true (by omega)
      rw [e0]
      refine ⟨_, rfl, _, _, rfl, rfl, _, rfl, ?_⟩
      by_cases hr2 : 2 < rare
      · have e1 : decide ((2 : Int) < (rare : Int)) = true := decide_eq_true (by omega)
        rw [e1]
        refine ⟨_, rfl, t, l, 3, rfl, ht6, by decide, by decide, fun r H7 hr f7 ht7 => ⟨_, _, rfl, rfl, _, rfl, ?_⟩⟩
        by_cases hr0 : 0 < r
        · have e2 : decide ((0 : Int) < (r : Int)) = true := decide_eq_true (by omega)
          rw [e2]
          have hn7 := f7.at hn6 onS.1
          have ho7 := f7.at ho6 oo.1
          have ep : o[i - 1]? = some (o[i - 1]'(by omega)) := List.getElem?_eq_getElem _
          have eI : ((i : Int) - 1) = ((i - 1 : Nat) : Int) := by omega
          refine ⟨_, rfl, tyL hn7, _, rfl, _, rfl, po, _, (i : Int), _, rfl, rfl, sL ho7, atN (vn_get ei), _, rfl, _, rfl, (i : Int), 1, rfl, rfl, po, _, (i : Int) - 1, _, rfl, rfl, sL ho7, by rw [eI]; exact atN (vn_get ep), sz (show 2 ≤ 100000 by decide), fun p hp => ?_⟩
          have f8 : Fz (Tp t) H6 (upd H7 p (.tup [vn (o[i]'(by omega)), vn (o[i - 1]'(by omega))])) := f7.snoc hp
          have hn8 : (upd H7 p (.tup [vn (o[i]'(by omega)), vn (o[i - 1]'(by omega))])) pn = some (.lst (vs ++ ws)) := (Fz.new (T := N0) hp).at hn7 fun z => z
          have hp8 : Paired (PN (upd H7 p (.tup [vn (o[i]'(by omega)), vn (o[i - 1]'(by omega))]))) ((vs ++ ws) ++ [.ref p]) ((zs ++ zs2) ++ [(o[i]'(by omega), o[i - 1]'(by omega))]) := papp (pPN.all f8 hp6) (.cons ⟨p, _, _, rfl, upd_same, rfl, rfl⟩ .nil)
          refine ⟨pn, _, _, rfl, rfl, hn8, by rw [List.length_append]; exact szl (by omega), (zs ++ zs2) ++ [(o[i]'(by omega), o[i - 1]'(by omega))], _, rfl, (f6.trans f8).mut frn hn8, (ht7.put (ht7.offN hp)).put onS, ⟨_, upd_same, L2.Paired.mapP hp8 fun v x r => PN.upd hn8 (fun ys z => nomatch z) r⟩, ?_, by rw [List.length_append, List.length_singleton]; omega, fun z hz => ?_⟩
          · rw [upd_ne npo]
            exact (Fz.new (T := N0) hp).at ho7 fun z => z
          · rcases List.mem_append.mp hz with y | y
            · exact hz6 z y
            · rw [List.mem_singleton.mp y]
              refine ⟨hoi, List.mem_range.mp (hpm.mem_iff.mp (List.getElem_mem _)), ?_⟩
              rw [idx_at ond ep, idx_at ond ei]
              omega
        · have e2 : decide ((0 : Int) < (r : Int)) = false := decide_eq_false (by omega)
          rw [e2]
          exact done H7 f7 ht7
      · have e1 : decide ((2 : Int) < (rare : Int)) = false := decide_eq_false (by omega)
        rw [e1]
        exact done H6 .refl ht6
    · have e0 : decide ((0 : Int) < (i : Int)) = false := decide_eq_false (by omega)
      rw [e0]
      exact done H6 .refl ht6
  · rintro σ Hc ⟨zs, u5, rfl, fc, ht, hl, ho, lz, hzs⟩
    refine ⟨_, rfl, _, rfl, ss_pairs (ps := zs) hl (fun p hp => by have := hzs p hp; omega) (fun L hn hL => full_few hz (t := fun c => o.idxOf c) hn fun p hp => hzs p (hL p hp)) fun nd p H6 h1 h2 f6 h6 => ?_⟩
    obtain ⟨ws, g1, g2⟩ := h6
    refine ⟨p, _, rfl, .inl ⟨sL g1, fun tp htp2 => ⟨sz (show 2 ≤ 100000 by decide), fun pr2 hpr2 => ?_⟩⟩⟩
    have f7 : Fz N0 Hc (upd H6 tp (.tup ws)) := f6.snoc htp2
    have f8 : Fz N0 Hc (upd (upd H6 tp (.tup ws)) pr2 (.tup [.ref ab, .ref tp])) := f7.snoc hpr2
    have f08 := fc.trans (f8.up (T := Tp t))
    have htp8 : (upd (upd H6 tp (.tup ws)) pr2 (.tup [.ref ab, .ref tp])) tp = some (.tup ws) := (Fz.new (T := N0) hpr2).tup upd_same
    refine q nd _ _ h1 ⟨fun c => o.idxOf c, fun p hp => hzs p ((h2 p).mp hp)⟩ f08 (ht.fz f8) ⟨pr2, _, _, rfl, upd_same, pTN.go f08 hb, tp, ws, rfl, htp8, pPN.all ((Fz.new (T := N0) (o := .tup ws) htp2).snoc hpr2) g2⟩
end
end Rw

/-! The law's own defs: willing, log. -/
namespace Rw
open PySem PySem.Spec PyProof.Rows L2
section
variable {P : Program} {w : World} {K : PySem.W.Frag} {mg : Str → Option Value} {base : Heap} {B W c : Addr}
/-- a tuple and one more item -/
theorem catA_snoc {K : PySem.W.Frag} {H : Hp} {a b : Addr} {xs : List V} {v : V} {Q : VK} (ha : H a = some (.tup xs)) (hb : H b = some (.tup [v])) (hz : xs.length < 100000) (q : ∀ p H', Fz N0 H H' → H' p = some (.tup (xs ++ [v])) → Q (.ref p) H') : rCatA K (.ref a) (.ref b) H Q :=
  ⟨a, b, xs, [v], rfl, rfl, sT ha, sT hb, sz (show xs.length + 1 ≤ 100000 by omega), fun e => q b H .refl (by rw [hb, e]; rfl), fun _ e => (nomatch e), fun _ _ p hp => q p _ (.new hp) upd_same⟩
/-- a willing row: each write brings something, and the row goes on as long as something is ripe -/
structure WRow (bs : List Nat) (nd : List (Nat × Nat)) (row : List Nat) : Prop where
  len : row.length ≤ bs.length
  brings : ∀ i b, row[i]? = some b → b ∈ bs ∧ 0 < lbr bs nd (stA bs nd 0 (row.take i)) b
  ends : row.length = bs.length ∨ ∀ b ∈ bs, lbr bs nd (stA bs nd 0 row) b = 0
abbrev s__law_willing : Stmt := topS 56
abbrev N__law_willing : List Str := ["_law_tape_here", "_law_spec", "_law_direct_here", "_law_there", "_law_row", "_law_blocks", "_law_turn", "_law_some", "_law_block"]
theorem sc__law_willing : FnScope N__law_willing ["_law_tape_here", "_law_spec"] (C8.fnScope s__law_willing) := C8.fnScope_by (by decide +kernel)
def sp_willing : Sp := fun vs H Q _ => ∃ (t l : Addr) (v : V) (bs : List Nat) (nd : List (Nat × Nat)), vs = [.ref t, v] ∧ TapeO H t l ∧ SP2 H v (bs, nd) ∧ (∀ p ∈ nd, p.1 < bs.length ∧ p.2 < bs.length) ∧ bs.length < 12 ∧ ∀ (row : List Nat) (v : V) (H' : Hp), WRow bs nd row → Fz (Tp t) H H' → TapeO H' t l → TN H' v row → Q v H'
theorem ok__law_willing (T : Tx K mg B W c) : C8.Cal P w K mg base 3 "_law_willing" sp_willing [] := by
  refine calD T.d__law_willing sc__law_willing (fun vs H Q E ⟨_, _, _, _, _, h, _⟩ => by rw [h]; rfl) fun f cdv A outer s H vs Q E hr h => ?_
  obtain ⟨t, l, v, bs, nd, rfl, htp, hs, hlt, hz, q⟩ := h
  obtain ⟨a, u1, u2, rfl, ha, hb, hn⟩ := id hs
  obtain ⟨ab, rfl, hab⟩ := tn_iff.mp hb
  refine ⟨_, (pss_cons (ps_asg (pe_tup (pa_cons (C8.pe_c (ok__law_direct T) hr (by decide) (by rfl) (pa_cons (pv 1) pa_nil)) (pa_cons pe_int (pa_cons (pe_tup pa_nil) pa_nil)))) (pg_tup rfl (pgs_cons (pg_name (i := 2) sc__law_willing.nd rfl (.inr rfl)) (pgs_cons (pg_name (i := 3) sc__law_willing.nd rfl (.inr rfl)) (pgs_cons (pg_name (i := 4) sc__law_willing.nd rfl (.inl rfl)) pgs_nil)))))
      (pss_cons (ps_set (i := 5) sc__law_willing.nd rfl (.inl rfl) (pe_callB (cr_sortedSet rfl) (by rfl) T.z_sorted (by decide +kernel) (pa_cons (pe_callTy (cr_setI rfl) (by rfl) T.z_set (by decide +kernel) (pa_cons (pe_ix ix_tup (pv 1) pe_int (fun _ _ => rfl)) pa_nil)) pa_nil)))
      (pss_cons (ps_for PassesOwn.never rfl (pi_range1 (by rfl) T.z_range (pa_cons (pe_callB call_len_seq (by rfl) T.z_len PySem.boot_len (pa_cons (pe_ix ix_tup (pv 1) pe_int (fun _ _ => rfl)) pa_nil)) pa_nil)) (pg_name (i := 6) sc__law_willing.nd rfl (.inl rfl))
        (pss_cons (ps_setLc (i := 7) (own := [("_law_block", 8)]) (by rfl) sc__law_willing.nd rfl rfl (sw_true rfl rfl rfl (by decide +kernel)) (pi_list (pv 5)) (blkOk_by (own := [("_law_block", 8)]) (N := N__law_willing) (sc := C8.fnScope s__law_willing) (by decide +kernel)) (fun _ _ _ _ _ => (pg_name (i := 8) sc__law_willing.nd rfl (.inl rfl))) (fun _ _ _ _ _ => (pts_one (pt_cmpR op_gt (C8.pe_c (ok__law_brought T) hr (by decide) (by rfl) (pa_cons (pe_ix (ixTk (K := K) rfl) (pv 1) pe_int (fun _ _ => rfl)) (pa_cons (pv 2) (pa_cons (pv 3) (pa_cons (pv 8) pa_nil))))) pe_int (nomark _)))) (fun _ _ _ _ _ => (pv 8)))
        (pss_one (ps_if (pt_cmpR op_gt (pe_callB call_len_seq (by rfl) T.z_len PySem.boot_len (pa_cons (pv 7) pa_nil)) pe_int (nomark _))
          (pss_cons (ps_set (i := 4) sc__law_willing.nd rfl (.inl rfl) (pe_op op_catA (pv 4) (pe_tup (pa_cons (C8.pe_c (ok__law_any T) hr (by decide) (by rfl) (pa_cons (pv 0) (pa_cons (pv 7) pa_nil))) pa_nil))))
          (pss_one (ps_set (i := 3) sc__law_willing.nd rfl (.inr rfl) (pe_op op_add (pv 3) (C8.pe_c (ok__law_brought T) hr (by decide) (by rfl) (pa_cons (pe_ix ix_tup (pv 1) pe_int (fun _ _ => rfl)) (pa_cons (pv 2) (pa_cons (pv 3) (pa_cons (pe_ix ix_tup (pv 4) (pe_un un_neg pe_int) (fun _ _ => rfl)) pa_nil)))))))))
          pss_nil))))
      (pss_one (ps_ret (pv 4)))))), ?_⟩
  refine ⟨_, rfl, _, bs, nd, rfl, hs, hlt, by omega, fun pd H1 f1 frd hd => ⟨Nat.zero_le _, fun pr hpr => ⟨sz (show 3 ≤ 100000 by decide), fun pt hpt => ?_⟩⟩⟩
  have f2 : Fz N0 H (upd H1 pr (.tup [])) := f1.snoc hpr
  have f3 : Fz N0 H (upd (upd H1 pr (.tup [])) pt (.tup [.ref pd, vn 0, .ref pr])) := f2.snoc hpt
  have fl : Fz N0 H1 (upd (upd H1 pr (.tup [])) pt (.tup [.ref pd, vn 0, .ref pr])) := (Fz.new hpr).snoc hpt
  have hd3 := fl.at hd fun z => z
  have hr3 : (upd (upd H1 pr (.tup [])) pt (.tup [.ref pd, vn 0, .ref pr])) pr = some (.tup []) := (Fz.new (T := N0) hpt).tup upd_same
  refine ⟨pt, _, rfl, sT upd_same, rfl, _, _, rfl, _, _, rfl, _, _, rfl, rfl, ?_⟩
  have od := htp.off frd
  generalize upd (upd H1 pr (.tup [])) pt (.tup [.ref pd, vn 0, .ref pr]) = H3 at f3 hd3 hr3
  -- the blocks
  have hab3 := f3.tup hab
  refine ⟨_, rfl, a, _, 0, _, rfl, rfl, sT (f3.tup ha), rfl, ab, bs.map fun n : Nat => (n : Int), rfl, .inr (sT (by rw [← map_vn]; exact hab3)), by rw [List.length_map]; omega, fun sa sc hsa hsc => ⟨sa, _, _, rfl, upd_same, by rw [List.length_map] at hsc; omega, fun zs pb hzp hzm hzn hpb => ?_⟩⟩
  obtain ⟨ms, rfl⟩ := nats_of zs fun z hz => by
    obtain ⟨n, _, rfl⟩ := List.mem_map.mp (of_decide_eq_true ((hzm z).mp hz))
    omega
  have hms : Srt ms bs := ⟨lt_natmap.mp hzp, fun k => by
    have z := hzm (k : Int)
    rw [mem_natmap, decide_eq_true_iff, mem_natmap] at z
    exact z⟩
  have lms := hms.len
  have f4 : Fz N0 H (upd (upd H3 sa (SetO w sa (fun j => decide (j ∈ bs.map fun n : Nat => (n : Int))) sc)) pb (.lst ((ms.map fun n : Nat => (n : Int)).map V.int))) := (f3.snoc hsa).snoc hpb
  have fl4 : Fz N0 H3 (upd (upd H3 sa (SetO w sa (fun j => decide (j ∈ bs.map fun n : Nat => (n : Int))) sc)) pb (.lst ((ms.map fun n : Nat => (n : Int)).map V.int))) := (Fz.new hsa).snoc hpb
  have hb4 : (upd (upd H3 sa (SetO w sa (fun j => decide (j ∈ bs.map fun n : Nat => (n : Int))) sc)) pb (.lst ((ms.map fun n : Nat => (n : Int)).map V.int))) pb = some (.lst (ms.map vn)) := by rw [upd_same, map_vn]
  have hd4 := fl4.at hd3 fun z => z
  have hr4 := fl4.tup hr3
  have ob : pb ≠ t ∧ pb ≠ l := htp.off ((f3.snoc (o := SetO w sa (fun j => decide (j ∈ bs.map fun n : Nat => (n : Int))) sc) hsa).fr hpb)
  show (tSeq _ _) _ _ (upd (upd H3 sa (SetO w sa (fun j => decide (j ∈ bs.map fun n : Nat => (n : Int))) sc)) pb (.lst ((ms.map fun n : Nat => (n : Int)).map V.int)))
  generalize upd (upd H3 sa (SetO w sa (fun j => decide (j ∈ bs.map fun n : Nat => (n : Int))) sc)) pb (.lst ((ms.map fun n : Nat => (n : Int)).map V.int)) = H4 at f4 hb4 hd4 hr4
  -- the turns
  refine ⟨_, rfl, a, _, 0, _, rfl, rfl, sT (f4.tup ha), rfl, ab, _, rfl, .inr (sT (f4.tup hab)), (bs.length : Int), by rw [List.length_map], by omega, by omega, for_it (n := bs.length) walk_rangeN (fun i σ Hc => ∃ (row : List Nat) (pr : Addr) (u6 u7 : Option V), σ = [some (.ref t), some (.ref a), some (.ref pd), some (vn (stA bs nd 0 row)), some (.ref pr), some (.ref pb), u6, u7, none] ∧ Fz (Tp t) H Hc ∧ TapeO Hc t l ∧ Hc pr = some (.tup (row.map vn)) ∧ Hc pd = some (.lst ((dmL bs.length nd).map vn)) ∧ Hc pb = some (.lst (ms.map vn)) ∧ row.length ≤ i ∧ (∀ i b, row[i]? = some b → b ∈ bs ∧ 0 < lbr bs nd (stA bs nd 0 (row.take i)) b) ∧ (row.length = i ∨ ∀ b ∈ bs, lbr bs nd (stA bs nd 0 row) b = 0))
    ⟨[], pr, _, _, rfl, f4.up, htp.fz f4, hr4, hd4, hb4, Nat.le_refl _, fun i b h => by simp at h, .inl rfl⟩ (fun _ _ _ _ _ => trivial) ?_ ?_⟩
  · rintro i y σ Hx Hc hi ⟨row, pr, u6, u7, rfl, fc, ht, hr, hd, hb', lr, hbr, hen⟩ ⟨rfl, rfl⟩
    have hi : i < bs.length := hi
    refine ⟨_, rfl, pb, rfl, ⟨_, sL hb'⟩, fun D hD => lc_det (R := RN) (walk_list (K := K) (a := pb) (xs := ms.map vn)) pRN hD (by rw [List.length_map]; omega) (fun i => ms[i]?.bind fun b => if decide (0 < lbr bs nd (stA bs nd 0 row) b) = true then some b else none) (fun H f => sL (f.at hb' fun z => z)) (fun j x H1 H2 C Nx hj f5 hy k1 k2 => ?_) fun H5 f5 hl5 => ?_⟩
    · obtain ⟨rfl, hy⟩ := hy
      obtain ⟨b, hbj, rfl⟩ := vn_get' hy
      refine ⟨rfl, _, rfl, a, _, 0, _, rfl, rfl, sT ((fc.trans f5.up).tup ha), rfl, _, rfl, _, rfl, _, rfl, _, pd, bs, nd, stA bs nd 0 row, b, rfl, pTN.go (fc.trans f5.up) hb, f5.at hd fun z => z, by omega, fun H6 f6 => ⟨_, _, rfl, rfl, _, rfl, ?_⟩⟩
      by_cases h0 : 0 < lbr bs nd (stA bs nd 0 row) b
      · have e : decide ((0 : Int) < ((lbr bs nd (stA bs nd 0 row) b : Nat) : Int)) = true := decide_eq_true (by omega)
        rw [e]
        exact ⟨_, rfl, k1 _ _ b (by rw [hbj]; exact if_pos (decide_eq_true h0)) f6 rfl⟩
      · have e : decide ((0 : Int) < ((lbr bs nd (stA bs nd 0 row) b : Nat) : Int)) = false := decide_eq_false (by omega)
        rw [e]
        exact k2 _ (by rw [hbj]; exact if_neg (by simpa using h0)) f6
    have e : (List.range (ms.map vn).length).filterMap (fun i => ms[i]?.bind fun b => if decide (0 < lbr bs nd (stA bs nd 0 row) b) = true then some b else none) = ms.filter fun b => decide (0 < lbr bs nd (stA bs nd 0 row) b) := by
      rw [List.length_map, fm_get, ← List.filterMap_eq_filter]
      congr
    rw [e] at hl5
    have hs5 := ln_iff.mp hl5
    have f05 := fc.trans (f5.up (T := Tp t))
    have ht5 := ht.fz f5
    have hr5 := f5.tup hr
    have hd5 := f5.at hd fun z => z
    have hb5 := f5.at hb' fun z => z
    have oD := ht.offN hD
    refine ⟨_, rfl, D, _, rfl, .inl (sL hs5), _, 0, rfl, rfl, _, rfl, ?_⟩
    rw [List.length_map]
    have lf : (ms.filter fun b => decide (0 < lbr bs nd (stA bs nd 0 row) b)).length ≤ ms.length := List.length_filter_le _ _
    by_cases hne : 0 < (ms.filter fun b => decide (0 < lbr bs nd (stA bs nd 0 row) b)).length
    · have e0 : decide ((0 : Int) < (((ms.filter fun b => decide (0 < lbr bs nd (stA bs nd 0 row) b)).length : Nat) : Int)) = true := decide_eq_true (by omega)
      rw [e0]
      refine ⟨_, rfl, _, rfl, _, rfl, t, l, D, _, rfl, ht5, hs5, oD.1, by rw [List.length_map]; exact hne, by rw [List.length_map]; omega, fun j v H6 hv f6 ht6 => ?_⟩
      obtain ⟨b, hbj, rfl⟩ := vn_get' hv
      obtain ⟨hbm, hbp⟩ := List.mem_filter.mp (List.mem_of_getElem? hbj)
      have hbb := (hms.2 b).mp hbm
      have hbp := of_decide_eq_true hbp
      have hrow : row.length = i := hen.resolve_right fun z => by rw [z b hbb] at hbp; omega
      have hr6 := f6.tup hr5
      have hd6 := f6.at hd5 od.1
      have hb6 := f6.at hb5 ob.1
      have f06 := f05.trans f6
      refine ⟨sz (show 1 ≤ 100000 by decide), fun p1 hp1 => ?_⟩
      have fn : Fz N0 H6 (upd H6 p1 (.tup [vn b])) := .new hp1
      refine catA_snoc (fn.tup hr6) upd_same (by rw [List.length_map]; omega) fun pr2 H7 f7 hr7 => ?_
      have f67 := fn.trans f7
      have f07 := f06.trans (f67.up (T := Tp t))
      have er : row.map vn ++ [vn b] = (row ++ [b]).map vn := by rw [List.map_append]; rfl
      refine ⟨_, rfl, _, rfl, a, _, 0, _, rfl, rfl, sT (f07.tup ha), rfl, _, rfl, _, rfl, _, rfl, 1, rfl, pr2, _, -1, _, rfl, rfl, sT hr7, at_last _ _, _, pd, bs, nd, stA bs nd 0 row, b, rfl, pTN.go f07 hb, f67.at hd6 fun z => z, by omega, fun H8 f8 => ⟨_, _, rfl, rfl, row ++ [b], pr2, some (vn i), some (.ref D), ?_, f07.trans f8.up, (ht6.fz f67).fz f8, ?_, (f67.trans f8).at hd6 fun z => z, (f67.trans f8).at hb6 fun z => z, by rw [List.length_append, hrow]; exact Nat.le_refl _, fun k b2 hk => ?_, .inl (by rw [List.length_append, hrow]; rfl)⟩⟩
      · rw [stA_snoc, ← lbr_add]
        rfl
      · rw [← er]
        exact f8.tup hr7
      · by_cases hkr : k < row.length
        · rw [List.getElem?_append_left hkr] at hk
          rw [List.take_append_of_le_length (by omega)]
          exact hbr k b2 hk
        · have hk2 := (List.getElem?_eq_some_iff.mp hk).1
          rw [List.length_append, List.length_singleton] at hk2
          have ek : k = row.length := by omega
          subst ek
          rw [List.getElem?_append_right (Nat.le_refl _), Nat.sub_self] at hk
          have hk : some b = some b2 := hk
          rw [← Option.some.inj hk, List.take_append_of_le_length (Nat.le_refl _), List.take_length]
          exact ⟨hbb, hbp⟩
    · have e0 : decide ((0 : Int) < (((ms.filter fun b => decide (0 < lbr bs nd (stA bs nd 0 row) b)).length : Nat) : Int)) = false := decide_eq_false (by omega)
      rw [e0]
      refine ⟨row, pr, _, _, rfl, f05, ht5, hr5, hd5, hb5, by omega, hbr, .inr fun b hb => ?_⟩
      refine Classical.byContradiction fun n => hne (List.length_pos_of_mem (List.mem_filter.mpr ⟨(hms.2 b).mpr hb, decide_eq_true (Nat.pos_of_ne_zero n)⟩))
  · rintro σ Hc ⟨row, pr, u6, u7, rfl, fc, ht, hr, hd, hb', lr, hbr, hen⟩
    exact ⟨_, rfl, q row _ Hc ⟨lr, hbr, hen⟩ fc ht (tn_iff.mpr ⟨pr, rfl, hr⟩)⟩
abbrev s__law_log : Stmt := topS 57
abbrev N__law_log : List Str := ["_law_spec", "_law_row", "_law_direct_here", "_law_there", "_law_found", "_law_block", "_law_mask"]
theorem sc__law_log : FnScope N__law_log ["_law_spec", "_law_row"] (C8.fnScope s__law_log) := C8.fnScope_by (by decide +kernel)
def sp_log : Sp := fun vs H Q _ => ∃ (v vr : V) (bs : List Nat) (nd : List (Nat × Nat)) (row : List Nat), vs = [v, vr] ∧ SP2 H v (bs, nd) ∧ TN H vr row ∧ (∀ p ∈ nd, p.1 < bs.length ∧ p.2 < bs.length) ∧ bs.length < 12 ∧ row.length ≤ 1000 ∧ ∀ (v : V) (H' : Hp), Fz N0 H H' → LG H' v (logA bs nd 0 row) → Q v H'
theorem ok__law_log (T : Tx K mg B W c) : C8.Cal P w K mg base 2 "_law_log" sp_log [] := by
  refine calD T.d__law_log sc__law_log (fun vs H Q E ⟨_, _, _, _, _, h, _⟩ => by rw [h]; rfl) fun f cdv A outer s H vs Q E hr h => ?_
  obtain ⟨v, vr, bs, nd, row, rfl, hs, hr', hlt, hz, lr, q⟩ := h
  obtain ⟨a, u1, u2, rfl, ha, hb, hn⟩ := id hs
  obtain ⟨ar, rfl, har⟩ := tn_iff.mp hr'
  refine ⟨_, (pss_cons (ps_par3 (i := 2) (j := 3) (l := 4) (by rfl) sc__law_log.nd rfl rfl rfl (by decide) (by decide) (by decide) rfl rfl rfl (pa_cons (C8.pe_c (ok__law_direct T) hr (by decide) (by rfl) (pa_cons (pv 0) pa_nil)) (pa_cons pe_int (pa_cons (pe_tup pa_nil) pa_nil))) (by rfl))
      (pss_cons (ps_for PassesOwn.never rfl (pi_tup (pv 1)) (pg_name (i := 5) sc__law_log.nd rfl (.inl rfl))
        (pss_cons (ps_set (i := 6) sc__law_log.nd rfl (.inl rfl) (C8.pe_c (ok__law_brought T) hr (by decide) (by rfl) (pa_cons (pe_ix ix_tup (pv 0) pe_int (fun _ _ => rfl)) (pa_cons (pv 2) (pa_cons (pv 3) (pa_cons (pv 5) pa_nil))))))
        (pss_cons (ps_set (i := 3) sc__law_log.nd rfl (.inl rfl) (pe_op op_add (pv 3) (pv 6)))
        (pss_one (ps_set (i := 4) sc__law_log.nd rfl (.inl rfl) (pe_op op_catA (pv 4) (pe_tup (pa_cons (pe_tup (pa_cons (pv 5) (pa_cons (C8.pe_c (ok__law_lot T) hr (by decide) (by rfl) (pa_cons (pv 6) pa_nil)) pa_nil))) pa_nil))))))))
      (pss_one (ps_ret (pv 4))))), ?_⟩
  refine ⟨_, rfl, _, bs, nd, rfl, hs, hlt, by omega, fun pd H1 f1 frd hd => ⟨Nat.zero_le _, fun pr hpr => ⟨_, _, _, rfl, ?_⟩⟩⟩
  have f2 : Fz N0 H (upd H1 pr (.tup [])) := f1.snoc hpr
  have hd2 := (Fz.new (T := N0) (o := .tup []) hpr).at hd fun z => z
  refine ⟨_, rfl, ar, rfl, ⟨_, sT (f2.tup har)⟩, for_it (walk_tup (K := K) (a := ar) (xs := row.map vn)) (fun i σ Hc => ∃ (pr : Addr) (vs : List V) (u5 u6 : Option V), σ = [some (.ref a), some (.ref ar), some (.ref pd), some (vn (stA bs nd 0 (row.take i))), some (.ref pr), u5, u6] ∧ Fz N0 H Hc ∧ Hc pd = some (.lst ((dmL bs.length nd).map vn)) ∧ Hc pr = some (.tup vs) ∧ Paired (EN Hc) vs (logA bs nd 0 (row.take i)))
    ⟨pr, [], _, _, rfl, f2, hd2, upd_same, .nil⟩ (fun i σ Hc _ z => by
      obtain ⟨_, _, _, _, _, f, _⟩ := z
      exact sT (f.tup har)) ?_ ?_⟩
  · rintro i y σ Hx Hc hi ⟨pr, vs, u5, u6, rfl, fc, hd, hp, hv⟩ ⟨rfl, hy⟩
    obtain ⟨b, hbj, rfl⟩ := vn_get' hy
    have lvs := plen hv
    rw [logA_len, List.length_take] at lvs
    refine ⟨_, rfl, a, _, 0, _, rfl, rfl, sT (fc.tup ha), rfl, _, rfl, _, rfl, _, rfl, _, pd, bs, nd, stA bs nd 0 (row.take i), b, rfl, pTN.go fc hb, hd, by omega, fun H2 f2 => ⟨_, rfl, _, rfl, _, _, rfl, rfl, ?_⟩⟩
    have lt64 : lbr bs nd (stA bs nd 0 (row.take i)) b < 2 ^ 64 := Nat.lt_of_lt_of_le lbr_lt (Nat.pow_le_pow_right (by decide) (by omega))
    refine ⟨_, rfl, _, rfl, _, rfl, _, rfl, lt64, fun lv H3 f3 hl => ⟨sz (show 2 ≤ 100000 by decide), fun pe hpe => ⟨sz (show 1 ≤ 100000 by decide), fun p1 hp1 => ?_⟩⟩⟩
    have f23 := f2.trans f3
    have fe : Fz N0 H3 (upd H3 pe (.tup [vn b, lv])) := .new hpe
    have f1' : Fz N0 (upd H3 pe (.tup [vn b, lv])) (upd (upd H3 pe (.tup [vn b, lv])) p1 (.tup [.ref pe])) := .new hp1
    have fall := (f23.trans fe).trans f1'
    refine catA_snoc (fall.tup hp) upd_same (by omega) fun pr2 H7 f7 hr7 => ?_
    have f27 := fall.trans f7
    have e2 := take_succ_get hbj
    refine ⟨pr2, vs ++ [.ref pe], some (vn b), some (vn (lbr bs nd (stA bs nd 0 (row.take i)) b)), ?_, fc.trans f27, f27.at hd fun z => z, hr7, ?_⟩
    · rw [e2, stA_snoc, ← lbr_add]
      rfl
    · rw [e2, logA_snoc]
      exact papp (pEN.all f27 hv) (.cons ⟨pe, _, _, rfl, (f1'.trans f7).tup upd_same, rfl, pTN.go ((fe.trans f1').trans f7) hl⟩ .nil)
  · rintro σ Hc ⟨pr, vs, u5, u6, rfl, fc, hd, hp, hv⟩
    rw [List.length_map, List.take_length] at hv
    exact ⟨_, rfl, q _ Hc fc ⟨pr, vs, rfl, hp, hv⟩⟩
end
end Rw

/-! The law's own defs: late, times. -/
namespace Rw
open PySem PySem.Spec PyProof.Rows L2
section
variable {P : Program} {w : World} {K : PySem.W.Frag} {mg : Str → Option Value} {base : Heap} {B W c : Addr}
/-- what stands for a late change, and for one that is not -/
def lateV (log : List (Nat × List Nat)) (i b : Nat) : V := match lastW log i b with
  | none => .non
  | some j => vn (mskL (btw log j i))
def LateK (kvs : List (Key × V)) (log : List (Nat × List Nat)) : Prop := ∀ (i : Nat) (e : Nat × List Nat) (c : Nat), log[i]? = some e → c ∈ e.2 → valV kvs (.inl (c : Int)) = some (lateV log i e.1)
abbrev s__law_late : Stmt := topS 58
abbrev N__law_late : List Str := ["_law_log_here", "_law_found", "_law_last", "_law_at", "_law_block", "_law_lot_here", "_law_between", "_law_other", "_law_some", "_law_change"]
theorem sc__law_late : FnScope N__law_late ["_law_log_here"] (C8.fnScope s__law_late) := C8.fnScope_by (by decide +kernel)
def sp_late : Sp := fun vs H Q _ => ∃ (v : V) (bs : List Nat) (log : List (Nat × List Nat)), vs = [v] ∧ LG H v log ∧ LogOk bs log ∧ ∀ d H' kvs, Fz N0 H H' → H' d = some (.dK kvs) → LateK kvs log → Q (.ref d) H'
theorem ok__law_late (T : Tx K mg B W c) : C8.Cal P w K mg base 1 "_law_late" sp_late [] := by
  refine calD T.d__law_late sc__law_late (fun vs H Q E ⟨_, _, _, h, _⟩ => by rw [h]; rfl) fun f cdv A outer s H vs Q E hr h => ?_
  obtain ⟨v, bs, log, rfl, hl, ok, q⟩ := h
  obtain ⟨a, vs, rfl, ha, hp⟩ := id hl
  have few := ok.few
  have lvs : vs.length = log.length := plen hp
  have llog := ok.len
  have lpart := ok.part.length_eq
  rw [List.length_range] at lpart
  refine ⟨_, (pss_cons (ps_par3 (i := 1) (j := 2) (l := 3) (by rfl) sc__law_late.nd rfl rfl rfl (by decide) (by decide) (by decide) rfl rfl rfl (pa_cons pe_dnewK (pa_cons pe_dnewK (pa_cons pe_int pa_nil))) (by rfl))
      (pss_cons (ps_for PassesOwn.never rfl (pi_tup (pv 0)) (pg_tup rfl (pgs_cons (pg_name (i := 4) sc__law_late.nd rfl (.inl rfl)) (pgs_cons (pg_name (i := 5) sc__law_late.nd rfl (.inl rfl)) pgs_nil)))
        (pss_cons (ps_set (i := 6) sc__law_late.nd rfl (.inl rfl) pe_non)
        (C8.pss_cut (ps_if (pt_cmp (pc_din (hu_of hr) (pv 4) (pv 2)))
          (pss_cons (ps_set (i := 6) sc__law_late.nd rfl (.inl rfl) pe_int)
          (pss_one (ps_for PassesOwn.never rfl (pi_tup (pe_slice sl_tupA (pv 0) (po_some (pe_op op_add (pe_dget (hu_of hr) (pv 2) (pv 4) (fun _ _ => rfl)) pe_int)) (po_some (pv 3)))) (pg_tup rfl (pgs_cons (pg_name (i := 7) sc__law_late.nd rfl (.inl rfl)) (pgs_cons (pg_name (i := 8) sc__law_late.nd rfl (.inl rfl)) pgs_nil)))
            (pss_one (ps_set (i := 6) sc__law_late.nd rfl (.inl rfl) (pe_op op_add (pv 6) (pe_callB (cr_sum rfl) (by rfl) T.z_sum (by decide +kernel) (pa_cons (pe_lc (own := [("_law_change", 9)]) (by rfl) sc__law_late.nd (pi_tup (pv 8)) (blkOk_by (own := [("_law_change", 9)]) (N := N__law_late) (sc := C8.fnScope s__law_late) (by decide +kernel)) (fun _ _ _ _ _ => (pg_name (i := 9) sc__law_late.nd rfl (.inl rfl))) (fun _ _ _ _ _ => pts_nil) (fun _ _ _ _ _ => (pe_op op_shl1 pe_int (pv 9)))) pa_nil))))))))
          pss_nil)
        (pss_cons (ps_for PassesOwn.never rfl (pi_tup (pv 5)) (pg_name (i := 9) sc__law_late.nd rfl (.inl rfl))
          (pss_one (ps_dput (hu_of hr) (pv 1) (pv 9) (pv 6) rfl)))
        (pss_cons (ps_dput (hu_of hr) (pv 2) (pv 4) (pv 3) rfl)
        (pss_one (ps_set (i := 3) sc__law_late.nd rfl (.inl rfl) (pe_op op_add (pv 3) pe_int))))))))
      (pss_one (ps_ret (pv 1))))), ?_⟩
  refine fun pf hpf pl hpl => ⟨_, _, _, rfl, ?_⟩
  have nfl : pf ≠ pl := fun z => by rw [← z, upd_same] at hpl; cases hpl
  have f0 : Fz N0 H (upd (upd H pf (.dK [])) pl (.dK [])) := (Fz.new hpf).snoc hpl
  have frf : Fr H pf := .inl hpf
  have frl : Fr H pl := (Fz.new (T := N0) hpf).fr hpl
  refine ⟨_, rfl, a, rfl, ⟨_, sT (f0.tup ha)⟩, for_it (walk_tup (K := K) (a := a) (xs := vs)) (fun i σ Hc => ∃ (kf kl : List (Key × V)) (u4 u5 u6 u7 u8 u9 : Option V), σ = [some (.ref a), some (.ref pf), some (.ref pl), some (vn i), u4, u5, u6, u7, u8, u9] ∧ Fz N0 H Hc ∧ Hc pf = some (.dK kf) ∧ Hc pl = some (.dK kl) ∧ kf.length ≤ i * 12 ∧ kl.length ≤ i ∧ (∀ (j : Nat) (e : Nat × List Nat) (c : Nat), j < i → log[j]? = some e → c ∈ e.2 → valV kf (.inl (c : Int)) = some (lateV log j e.1)) ∧ ∀ b : Nat, valV kl (.inl (b : Int)) = (lastW log i b).map vn)
    ⟨[], [], none, none, none, none, none, none, rfl, f0, by rw [upd_ne nfl, upd_same], upd_same, Nat.zero_le _, Nat.le_refl _, fun j e c h => by omega, fun b => rfl⟩ (fun i σ Hc _ z => by
      obtain ⟨_, _, _, _, _, _, _, _, _, z, _⟩ := z
      exact sT (z.tup ha)) ?_ ?_⟩
  · rintro i y σ Hx Hc hi ⟨kf, kl, u4, u5, u6, u7, u8, u9, rfl, fc, hf, hl, lkf, lkl, hv, hlast⟩ ⟨rfl, hy⟩
    obtain ⟨⟨b, lot⟩, he, e1, y1, y2, rfl, he1, r1, r2⟩ := pget (pEN.all fc hp) hy
    obtain rfl := show y1 = vn b from r1
    obtain ⟨al, rfl, hal⟩ := tn_iff.mp r2
    have llot : lot.length ≤ 12 := by
      have h2 := (bro_sub log (i + 1)).length_le
      rw [bro_succ he, List.length_append] at h2
      have h3 : (bro log i).length + lot.length ≤ ((log.map fun e => e.2).flatten).length := h2
      omega
    refine ⟨e1, _, rfl, sT he1, rfl, _, _, rfl, _, _, rfl, rfl, ?_⟩
    refine ⟨fun σ' H' => ∃ (u7 u8 u9 : Option V), σ' = [some (.ref a), some (.ref pf), some (.ref pl), some (vn i), some (vn b), some (.ref al), some (lateV log i b), u7, u8, u9] ∧ Fz N0 Hc H', ?_, ?_⟩
    · cases hj : lastW log i b with
      | none =>
        have e0 := hlast b
        rw [hj] at e0
        have ev : lateV log i b = .non := by unfold lateV; rw [hj]
        refine ⟨_, rfl, _, rfl, pl, _, rfl, DGo b hl, _, rfl, ?_⟩
        rw [e0, ev]
        exact ⟨_, _, _, rfl, .refl⟩
      | some j =>
        have e0 := hlast b
        rw [hj] at e0
        have ev : lateV log i b = vn (mskL (btw log j i)) := by unfold lateV; rw [hj]
        obtain ⟨hji, _, _⟩ := lastW_lt hj
        refine ⟨_, rfl, _, rfl, pl, _, rfl, DGo b hl, _, rfl, ?_⟩
        rw [e0, ev]
        refine ⟨_, rfl, _, rfl, _, rfl, pl, _, rfl, DGn hl e0, j, 1, rfl, rfl, _, rfl, _, rfl, _, rfl, sl_nat (lo := j + 1) (hi := i) (fc.tup ha) (by omega) (by omega) fun b2 H3 f3 hb2 => ?_⟩
        have hps : Paired (EN H3) ((vs.take i).drop (j + 1)) ((log.take i).drop (j + 1)) := pdrop _ (ptake _ (pEN.all (fc.trans f3) hp))
        have lps := plen hps
        have nbt : (btw log j i).Nodup := ok.nd.sublist (btw_sub log j i)
        refine ⟨b2, rfl, ⟨_, sT hb2⟩, for_it (walk_tup (K := K) (a := b2) (xs := (vs.take i).drop (j + 1))) (fun k σ Hx => ∃ (u7 u8 : Option V), σ = [some (.ref a), some (.ref pf), some (.ref pl), some (vn i), some (vn b), some (.ref al), some (vn (mskL (((((log.take i).drop (j + 1)).map fun e => e.2).take k).flatten))), u7, u8, u9] ∧ Fz N0 H3 Hx)
          ⟨_, _, rfl, .refl⟩ (fun k σ Hx _ z => by
            obtain ⟨_, _, _, z⟩ := z
            exact sT (z.tup hb2)) ?_ ?_⟩
        · rintro k y σ Hy Hx hk ⟨u7, u8, rfl, f4⟩ ⟨rfl, hy⟩
          obtain ⟨⟨b3, l3⟩, he3, e3, y1, y2, rfl, he3', r1, r2⟩ := pget (pEN.all f4 hps) hy
          obtain rfl := show y1 = vn b3 from r1
          obtain ⟨al3, rfl, hal3⟩ := tn_iff.mp r2
          have e2 : (((log.take i).drop (j + 1)).map fun e => e.2)[k]? = some l3 := by rw [List.getElem?_map, he3]; rfl
          have hnd : ((((((log.take i).drop (j + 1)).map fun e => e.2).take k).flatten) ++ l3).Nodup := by
            rw [← flat_take e2]
            exact nbt.sublist (flat_sub (List.take_sublist _ _))
          have hl3n : ∀ c ∈ l3, c < bs.length := fun c hc => by
            have h1 : c ∈ btw log j i := List.mem_flatten.mpr ⟨l3, List.mem_of_getElem? e2, hc⟩
            exact List.mem_range.mp (ok.part.mem_iff.mp ((btw_sub log j i).mem h1))
          have hl3l : l3.length ≤ 12 := by
            have := nodup_sub (List.nodup_append.mp hnd).2.1 (fun c hc => List.mem_range.mpr (hl3n c hc))
            rw [List.length_range] at this
            omega
          refine ⟨e3, _, rfl, sT he3', rfl, _, _, rfl, _, _, rfl, rfl, _, rfl, _, rfl, al3, rfl, ⟨_, sT hal3⟩, fun D hD => lc_det (R := RN) (walk_tup (K := K) (a := al3) (xs := l3.map vn)) pRN hD (by rw [List.length_map]; omega) (fun i => l3[i]?.bind fun c => some (2 ^ c)) (fun H f => sT (f.tup hal3)) (fun j x H5 H6 C Nx hj f5 hy k1 k2 => ?_) fun H5 f5 hl5 => ?_⟩
          · obtain ⟨rfl, hy⟩ := hy
            obtain ⟨n, hn, rfl⟩ := vn_get' hy
            have := hl3n n (List.mem_of_getElem? hn)
            exact ⟨rfl, _, rfl, n, rfl, rfl, by omega, k1 _ _ (2 ^ n) (by rw [hn]; rfl) .refl rfl⟩
          have pw : (List.range (l3.map vn).length).filterMap (fun i => l3[i]?.bind fun c => some (2 ^ c)) = l3.map fun c => 2 ^ c := by
            rw [List.length_map, fm_get]
            exact congrFun (List.filterMap_eq_map (f := fun c : Nat => 2 ^ c)) _
          rw [pw] at hl5
          have hl6 := ln_iff.mp hl5
          rw [map_vn] at hl6
          refine ⟨D, _, rfl, sL hl6, _, ((mskL l3 : Nat) : Int), rfl, by rw [sum_cast, sum_pow (List.nodup_append.mp hnd).2.1], some (vn b3), some (.ref al3), ?_, f4.trans f5⟩
          rw [flat_take e2, ← mskL_app hnd]
          rfl
        · rintro σ H5 ⟨u7, u8, rfl, f5⟩
          have lm : ((vs.take i).drop (j + 1)).length = (((log.take i).drop (j + 1)).map fun e => e.2).length := by rw [List.length_map, lps]
          rw [lm, List.take_length]
          exact ⟨_, _, _, rfl, f3.trans f5⟩
    · rintro σ1 H1 ⟨u7, u8, u9, rfl, f1⟩
      have fc1 := fc.trans f1
      have hf1 := f1.dK hf
      have hl1 := f1.dK hl
      have hal1 := f1.tup hal
      have naf : al ≠ pf := fun z => by rw [z, hf] at hal; cases hal
      refine ⟨_, rfl, al, rfl, ⟨_, sT hal1⟩, for_it (walk_tup (K := K) (a := al) (xs := lot.map vn)) (fun k σ Hx => ∃ (kf : List (Key × V)) (u9 : Option V), σ = [some (.ref a), some (.ref pf), some (.ref pl), some (vn i), some (vn b), some (.ref al), some (lateV log i b), u7, u8, u9] ∧ Fz N0 H Hx ∧ Hx pf = some (.dK kf) ∧ Hx pl = some (.dK kl) ∧ Hx al = some (.tup (lot.map vn)) ∧ kf.length ≤ i * 12 + k ∧ (∀ (j : Nat) (e : Nat × List Nat) (c : Nat), j < i → log[j]? = some e → c ∈ e.2 → valV kf (.inl (c : Int)) = some (lateV log j e.1)) ∧ ∀ c ∈ lot.take k, valV kf (.inl (c : Int)) = some (lateV log i b))
        ⟨kf, _, rfl, fc1, hf1, hl1, hal1, by omega, hv, fun c h => by simp at h⟩ (fun k σ Hx _ z => by
          obtain ⟨_, _, _, _, _, _, z, _⟩ := z
          exact sT z) ?_ ?_⟩
      · rintro k y σ Hy Hx hk ⟨kf, u9, rfl, f6, g1, g2, g3, g4, g5, g6⟩ ⟨rfl, hy⟩
        obtain ⟨ch, hch, rfl⟩ := vn_get' hy
        rw [List.length_map] at hk
        have l3 := length_putK kf (.inl (ch : Int)) (lateV log i b)
        refine ⟨_, rfl, _, rfl, _, rfl, pf, _, rfl, DPn ch _ g1 (by omega), putK kf (.inl (ch : Int)) (lateV log i b), _, rfl, f6.mut frf g1, upd_same, by rw [upd_ne nfl.symm]; exact g2, by rw [upd_ne naf]; exact g3, by omega, fun j e c hj he' hc => ?_, fun c hc => ?_⟩
        · rw [vput, if_neg fun z => by
            subst z
            have := bro_once ok.nd he' he hc (List.mem_of_getElem? hch)
            omega]
          exact g5 j e c hj he' hc
        · rw [vput]
          by_cases z : c = ch
          · rw [if_pos z]
          · rw [if_neg z]
            rw [take_succ_get hch, List.mem_append, List.mem_singleton] at hc
            exact g6 c (hc.resolve_right z)
      · rintro σ Hx ⟨kf, u9, rfl, f6, g1, g2, g3, g4, g5, g6⟩
        rw [List.length_map] at g4 g6
        rw [List.take_length] at g6
        have l3 := length_putK kl (.inl (b : Int)) (vn i)
        refine ⟨_, rfl, _, rfl, _, rfl, pl, _, rfl, DPn b _ g2 (by omega), _, rfl, _, 1, rfl, rfl, kf, putK kl (.inl (b : Int)) (vn i), _, _, _, _, _, _, rfl, f6.mut frl g2, by rw [upd_ne nfl]; exact g1, upd_same, by omega, by omega, fun j e c hj he' hc => ?_, fun b2 => ?_⟩
        · by_cases z : j = i
          · subst z
            rw [he] at he'
            obtain rfl := Option.some.inj he'
            exact g6 c hc
          · exact g5 j e c (by omega) he' hc
        · rw [vput]
          unfold lastW
          rw [he]
          by_cases e : b2 = b
          · rw [if_pos e, if_pos (by rw [e]; rfl)]
            rfl
          · rw [if_neg e, show Option.map (fun e : Nat × List Nat => e.1) (some (b, lot)) = some b from rfl, if_neg (fun z => e (Option.some.inj z).symm)]
            exact hlast b2
  · rintro σ Hc ⟨kf, kl, u4, u5, u6, u7, u8, u9, rfl, fc, hf, hl, lkf, lkl, hv, hlast⟩
    rw [lvs] at hv
    exact ⟨_, rfl, q pf Hc kf fc hf fun i e c h1 h2 => hv i e c (List.getElem?_eq_some_iff.mp h1).1 h1 h2⟩
abbrev s__law_times : Stmt := topS 59
abbrev N__law_times : List Str := ["_law_log_here", "_law_found", "_law_at", "_law_change"]
theorem sc__law_times : FnScope N__law_times ["_law_log_here"] (C8.fnScope s__law_times) := C8.fnScope_by (by decide +kernel)
def sp_ltimes : Sp := fun vs H Q _ => ∃ (v : V) (bs : List Nat) (log : List (Nat × List Nat)), vs = [v] ∧ LG H v log ∧ LogOk bs log ∧ ∀ d H' kvs, Fz N0 H H' → H' d = some (.dK kvs) → TimK kvs log → Q (.ref d) H'
theorem ok__law_times (T : Tx K mg B W c) : C8.Cal P w K mg base 1 "_law_times" sp_ltimes [] := by
  refine calD T.d__law_times sc__law_times (fun vs H Q E ⟨_, _, _, h, _⟩ => by rw [h]; rfl) fun f cdv A outer s H vs Q E hr h => ?_
  obtain ⟨v, bs, log, rfl, hl, ok, q⟩ := h
  obtain ⟨a, vs, rfl, ha, hp⟩ := id hl
  have few := ok.few
  have lvs : vs.length = log.length := plen hp
  have llog := ok.len
  have lpart := ok.part.length_eq
  rw [List.length_range] at lpart
  refine ⟨_, (pss_cons (ps_set (i := 1) sc__law_times.nd rfl (.inl rfl) pe_dnewK)
      (pss_cons (ps_for PassesOwn.never rfl (pi_range1 (by rfl) T.z_range (pa_cons (pe_callB call_len_seq (by rfl) T.z_len PySem.boot_len (pa_cons (pv 0) pa_nil)) pa_nil)) (pg_name (i := 2) sc__law_times.nd rfl (.inl rfl))
        (pss_one (ps_for PassesOwn.never rfl (pi_tup (pe_ix ix_tup (pe_ix ix_tup (pv 0) (pv 2) (fun _ _ => rfl)) pe_int (fun _ _ => rfl))) (pg_name (i := 3) sc__law_times.nd rfl (.inl rfl))
          (pss_one (ps_dput (hu_of hr) (pv 1) (pv 3) (pv 2) rfl)))))
      (pss_one (ps_ret (pv 1))))), ?_⟩
  refine fun pf hpf => ?_
  have f0 : Fz N0 H (upd H pf (.dK [])) := .new hpf
  refine ⟨_, rfl, a, _, rfl, .inr (sT (f0.tup ha)), (log.length : Int), by rw [lvs], by omega, by omega, for_it (n := log.length) walk_rangeN (fun i σ Hc => ∃ (kf : List (Key × V)) (u2 u3 : Option V), σ = [some (.ref a), some (.ref pf), u2, u3] ∧ Fz N0 H Hc ∧ Hc pf = some (.dK kf) ∧ kf.length ≤ i * 12 ∧ ∀ (j : Nat) (e : Nat × List Nat) (c : Nat), j < i → log[j]? = some e → c ∈ e.2 → valV kf (.inl (c : Int)) = some (vn j))
    ⟨[], none, none, rfl, f0, upd_same, Nat.zero_le _, fun j e c h => by omega⟩ (fun _ _ _ _ _ => trivial) ?_ ?_⟩
  · rintro i y σ Hx Hc hi ⟨kf, u2, u3, rfl, fc, hf, lkf, hv⟩ ⟨rfl, rfl⟩
    have hi : i < log.length := hi
    have hvi : vs[i]? = some (vs[i]'(by omega)) := List.getElem?_eq_getElem _
    obtain ⟨⟨b, lot⟩, he, e1, y1, y2, hy, he1, r1, r2⟩ := pget (pEN.all fc hp) hvi
    obtain ⟨al, rfl, hal⟩ := tn_iff.mp r2
    rw [hy] at hvi
    have llot : lot.length ≤ 12 := by
      have h2 := (bro_sub log (i + 1)).length_le
      rw [bro_succ he, List.length_append] at h2
      have h3 : (bro log i).length + lot.length ≤ ((log.map fun e => e.2).flatten).length := h2
      omega
    have naf : al ≠ pf := fun z => by rw [z, hf] at hal; cases hal
    refine ⟨_, rfl, _, rfl, a, _, (i : Int), _, rfl, rfl, sT (fc.tup ha), atN hvi, e1, _, 1, _, rfl, rfl, sT he1, rfl, al, rfl, ⟨_, sT hal⟩, for_it (walk_tup (K := K) (a := al) (xs := lot.map vn)) (fun k σ Hx => ∃ (kf : List (Key × V)) (u3 : Option V), σ = [some (.ref a), some (.ref pf), some (vn i), u3] ∧ Fz N0 H Hx ∧ Hx pf = some (.dK kf) ∧ Hx al = some (.tup (lot.map vn)) ∧ kf.length ≤ i * 12 + k ∧ (∀ (j : Nat) (e : Nat × List Nat) (c : Nat), j < i → log[j]? = some e → c ∈ e.2 → valV kf (.inl (c : Int)) = some (vn j)) ∧ ∀ c ∈ lot.take k, valV kf (.inl (c : Int)) = some (vn i))
      ⟨kf, _, rfl, fc, hf, hal, by omega, hv, fun c h => by simp at h⟩ (fun k σ Hx _ z => by
        obtain ⟨_, _, _, _, _, z, _⟩ := z
        exact sT z) ?_ ?_⟩
    · rintro k y σ Hy Hx hk ⟨kf, u5, rfl, f6, g1, g2, g3, g4, g5⟩ ⟨rfl, hy⟩
      obtain ⟨ch, hch, rfl⟩ := vn_get' hy
      rw [List.length_map] at hk
      have l3 := length_putK kf (.inl (ch : Int)) (vn i)
      refine ⟨_, rfl, _, rfl, _, rfl, pf, _, rfl, DPn ch _ g1 (by omega), putK kf (.inl (ch : Int)) (vn i), _, rfl, f6.mut (.inl hpf) g1, upd_same, by rw [upd_ne naf]; exact g2, by omega, fun j e c hj he' hc => ?_, fun c hc => ?_⟩
      · rw [vput, if_neg fun z => by
          subst z
          have := bro_once ok.nd he' he hc (List.mem_of_getElem? hch)
          omega]
        exact g4 j e c hj he' hc
      · rw [vput]
        by_cases z : c = ch
        · rw [if_pos z]
        · rw [if_neg z]
          rw [take_succ_get hch, List.mem_append, List.mem_singleton] at hc
          exact g5 c (hc.resolve_right z)
    · rintro σ Hx ⟨kf, u5, rfl, f6, g1, g2, g3, g4, g5⟩
      rw [List.length_map] at g3 g5
      rw [List.take_length] at g5
      refine ⟨kf, _, _, rfl, f6, g1, by omega, fun j e c hj he' hc => ?_⟩
      by_cases z : j = i
      · subst z
        rw [he] at he'
        obtain rfl := Option.some.inj he'
        exact g5 c hc
      · exact g4 j e c (by omega) he' hc
  · rintro σ Hc ⟨kf, u2, u3, rfl, fc, hf, lkf, hv⟩
    exact ⟨_, rfl, q pf Hc kf fc hf fun i e c h1 h2 => hv i e c (List.getElem?_eq_some_iff.mp h1).1 h1 h2⟩
end
end Rw

/-! The law's own defs: dealt. -/
namespace Rw
open PySem PySem.Spec PyProof.Rows L2
section
variable {P : Program} {w : World} {K : PySem.W.Frag} {mg : Str → Option Value} {base : Heap} {B W c : Addr}
/-- a dealt row -/
structure DRow (names r : List Nat) (i : Nat) : Prop where
  len : r.length ≤ i
  mem : ∀ b ∈ r, b ∈ names
  adj : ∀ j a b, r[j]? = some a → r[j + 1]? = some b → a ≠ b
theorem DRow.snoc {names r : List Nat} {i b : Nat} (d : DRow names r i) (hb : b ∈ names) (h : r.getLast? ≠ some b) : DRow names (r ++ [b]) (i + 1) := by
  refine ⟨by rw [List.length_append, List.length_singleton]; have := d.len; omega, fun x hx => ?_, fun j x y hx hy => ?_⟩
  · rcases List.mem_append.mp hx with z | z
    · exact d.mem x z
    · rw [List.mem_singleton.mp z]; exact hb
  · have hj := (List.getElem?_eq_some_iff.mp hy).1
    rw [List.length_append, List.length_singleton] at hj
    by_cases e : j + 1 < r.length
    · rw [List.getElem?_append_left (by omega)] at hx
      rw [List.getElem?_append_left e] at hy
      exact d.adj j x y hx hy
    · have ej : j + 1 = r.length := by omega
      rw [List.getElem?_append_left (by omega)] at hx
      rw [List.getElem?_append_right (by omega), ej, Nat.sub_self] at hy
      have hy : some b = some y := hy
      intro z
      rw [List.getLast?_eq_getElem?] at h
      have : r.length - 1 = j := by omega
      rw [this, hx, z] at h
      exact h hy.symm
abbrev s__law_dealt : Stmt := topS 60
abbrev N__law_dealt : List Str := ["_law_tape_here", "_law_writes", "_law_many", "_law_parts", "_law_names", "_law_row", "_law_turn", "_law_some", "_law_order_here", "_law_lots", "_law_at", "_law_blocks", "_law_block", "_law_lot_here", "_law_change", "_law_name"]
theorem sc__law_dealt : FnScope N__law_dealt ["_law_tape_here", "_law_writes", "_law_many", "_law_parts"] (C8.fnScope s__law_dealt) := C8.fnScope_by (by decide +kernel)
def sp_dealt : Sp := fun vs H Q _ => ∃ (t l : Addr) (wr m k : Nat), vs = [.ref t, vn wr, vn m, vn k] ∧ TapeO H t l ∧ wr < 12 ∧ m < 12 ∧ 0 < k ∧ k < 50 ∧ ∀ (bs names : List Nat) (log : List (Nat × List Nat)) (v : V) (H' : Hp), LogOk bs log → names.length = k → (∀ b ∈ bs, b ∈ names) → Fz (Tp t) H H' → TapeO H' t l → RQ TN LG H' v (bs, log) → Q v H'
theorem ok__law_dealt (T : Tx K mg B W c) : C8.Cal P w K mg base 3 "_law_dealt" sp_dealt [] := by
  refine calD T.d__law_dealt sc__law_dealt (fun vs H Q E ⟨_, _, _, _, _, h, _⟩ => by rw [h]; rfl) fun f cdv A outer s H vs Q E hr h => ?_
  obtain ⟨t, l, wr, m, k, rfl, htp, hwr, hm, hk1, hk2, q⟩ := h
  refine ⟨_, (pss_cons (ps_asg (pe_tup (pa_cons (C8.pe_c (ok__law_some_blocks T) hr (by decide) (by rfl) (pa_cons (pv 0) (pa_cons (pv 3) pa_nil))) (pa_cons (pe_lst pa_nil) pa_nil))) (pg_tup rfl (pgs_cons (pg_name (i := 4) sc__law_dealt.nd rfl (.inl rfl)) (pgs_cons (pg_name (i := 5) sc__law_dealt.nd rfl (.inr rfl)) pgs_nil))))
      (pss_cons (ps_for PassesOwn.never rfl (pi_range1 (by rfl) T.z_range (pa_cons (pv 1) pa_nil)) (pg_name (i := 6) sc__law_dealt.nd rfl (.inl rfl))
        (pss_cons (ps_setLc (i := 7) (own := [("_law_name", 15)]) (by rfl) sc__law_dealt.nd rfl rfl (sw_true rfl rfl rfl (by decide +kernel)) (pi_list (pv 4)) (blkOk_by (own := [("_law_name", 15)]) (N := N__law_dealt) (sc := C8.fnScope s__law_dealt) (by decide +kernel)) (fun _ _ _ _ _ => (pg_name (i := 15) sc__law_dealt.nd rfl (.inl rfl))) (fun _ _ _ _ _ => (pts_one (PW.pt (pw_or (pt_cmpR op_eq (pe_callB (lenK (K := K) rfl) (by rfl) T.z_len PySem.boot_len (pa_cons (pv 5) pa_nil)) pe_int (nomark _)) (pw_or1 (pt_cmpR op_ne (pe_ix (ixLk (K := K) rfl) (pv 5) (pe_un un_neg pe_int) (fun _ _ => rfl)) (pv 15) (nomark _))))))) (fun _ _ _ _ _ => (pv 15)))
        (pss_one (ps_if (pt_cmpR op_gt (pe_callB call_len_seq (by rfl) T.z_len PySem.boot_len (pa_cons (pv 7) pa_nil)) pe_int (nomark _))
          (pss_one (ps_expr (pe_bm PySem.F.plainAttrs_list PySem.F.slot_list_append PySem.F.type_list_append mt_append (pv 5) (pa_cons (C8.pe_c (ok__law_any T) hr (by decide) (by rfl) (pa_cons (pv 0) (pa_cons (pv 7) pa_nil))) pa_nil))))
          pss_nil))))
      (pss_cons (ps_par (i := 8) (j := 9) (by rfl) sc__law_dealt.nd rfl rfl (by decide) rfl rfl (pa_cons (C8.pe_c (ok__law_order T) hr (by decide) (by rfl) (pa_cons (pv 0) (pa_cons (pe_callB (call_max2 rfl) (by rfl) T.z_max (by decide +kernel) (pa_cons (pv 2) (pa_cons (pe_callB call_len_seq (by rfl) T.z_len PySem.boot_len (pa_cons (pv 5) pa_nil)) pa_nil))) pa_nil))) (pa_cons (pe_lc (own := [("_law_block", 12)]) (by rfl) sc__law_dealt.nd (pi_list (pv 5)) (blkOk_by (own := [("_law_block", 12)]) (N := N__law_dealt) (sc := C8.fnScope s__law_dealt) (by decide +kernel)) (fun _ _ _ _ _ => (pg_name (i := 12) sc__law_dealt.nd rfl (.inl rfl))) (fun _ _ _ _ _ => pts_nil) (fun _ _ _ _ _ => (pe_lst pa_nil))) pa_nil)) (by rfl))
      (C8.pss_cut (ps_for PassesOwn.never rfl (pi_range1 (by rfl) T.z_range (pa_cons (pe_ifExp (pt_cmpR op_gt (pe_callB call_len_seq (by rfl) T.z_len PySem.boot_len (pa_cons (pv 5) pa_nil)) pe_int (nomark _)) (pe_callB call_len_seq (by rfl) T.z_len PySem.boot_len (pa_cons (pv 8) pa_nil)) pe_int) pa_nil)) (pg_name (i := 10) sc__law_dealt.nd rfl (.inl rfl))
        (pss_one (ps_expr (pe_bm PySem.F.plainAttrs_list PySem.F.slot_list_append PySem.F.type_list_append mt_append (pe_ix ix_list (pv 9) (pe_ifExp (pt_cmpR op_lt (pv 10) (pe_callB call_len_seq (by rfl) T.z_len PySem.boot_len (pa_cons (pv 5) pa_nil)) (nomark _)) (pv 10) (C8.pe_c (ok__law_pick T) hr (by decide) (by rfl) (pa_cons (pv 0) (pa_cons (pe_callB call_len_seq (by rfl) T.z_len PySem.boot_len (pa_cons (pv 5) pa_nil)) pa_nil)))) (fun _ _ => rfl)) (pa_cons (pe_ix ix_list (pv 8) (pv 10) (fun _ _ => rfl)) pa_nil)))))
      (pss_cons (ps_set (i := 11) sc__law_dealt.nd rfl (.inl rfl) (pe_op op_rep (pe_lst (pa_cons pe_int pa_nil)) (pe_callB (cr_sum rfl) (by rfl) T.z_sum (by decide +kernel) (pa_cons (pe_lc (own := [("_law_lot_here", 13)]) (by rfl) sc__law_dealt.nd (pi_list (pv 9)) (blkOk_by (own := [("_law_lot_here", 13)]) (N := N__law_dealt) (sc := C8.fnScope s__law_dealt) (by decide +kernel)) (fun _ _ _ _ _ => (pg_name (i := 13) sc__law_dealt.nd rfl (.inl rfl))) (fun _ _ _ _ _ => pts_nil) (fun _ _ _ _ _ => (pe_callB (lenK (K := K) rfl) (by rfl) T.z_len PySem.boot_len (pa_cons (pv 13) pa_nil)))) pa_nil))))
      (pss_cons (ps_for PassesOwn.never rfl (RZ.pi_zipA (by rfl) T.z_zip (pa_cons (pv 5) (pa_cons (pv 9) pa_nil))) (pg_tup rfl (pgs_cons (pg_name (i := 12) sc__law_dealt.nd rfl (.inl rfl)) (pgs_cons (pg_name (i := 13) sc__law_dealt.nd rfl (.inl rfl)) pgs_nil)))
        (pss_one (ps_for PassesOwn.never rfl (pi_list (pv 13)) (pg_name (i := 14) sc__law_dealt.nd rfl (.inl rfl))
          (pss_one (ps_asg (pv 12) (pg_sub (pv 11) (pv 14) set_list))))))
      (pss_one (ps_ret (pe_tup (pa_cons (pe_callTy call_tuple_of (by rfl) T.z_tuple (by decide +kernel) (pa_cons (pv 11) pa_nil)) (pa_cons (pe_callTy call_tuple_of (by rfl) T.z_tuple (by decide +kernel) (pa_cons (pe_lc (own := [("_law_block", 12), ("_law_lot_here", 13)]) (by rfl) sc__law_dealt.nd (RZ.pi_zipA (by rfl) T.z_zip (pa_cons (pv 5) (pa_cons (pv 9) pa_nil))) (blkOk_by (own := [("_law_block", 12), ("_law_lot_here", 13)]) (N := N__law_dealt) (sc := C8.fnScope s__law_dealt) (by decide +kernel)) (fun _ _ _ _ _ => (pgtK (K := K) (n := 2) rfl rfl (pgs_cons (pg_name (i := 12) sc__law_dealt.nd rfl (.inl rfl)) (pgs_cons (pg_name (i := 13) sc__law_dealt.nd rfl (.inl rfl)) pgs_nil)) rfl)) (fun _ _ _ _ _ => pts_nil) (fun _ _ _ _ _ => (pe_tup (pa_cons (pv 12) (pa_cons (pe_callTy (tupK (K := K) rfl) (by rfl) T.z_tuple (by decide +kernel) (pa_cons (pe_callB (sortK (K := K) rfl) (by rfl) T.z_sorted (by decide +kernel) (pa_cons (pv 13) pa_nil)) pa_nil)) pa_nil))))) pa_nil)) pa_nil))))))))))), ?_⟩
  refine ⟨_, rfl, _, rfl, t, l, k, rfl, htp, hk2, fun names pn H1 nd lt len f1 ht1 frn hn => ⟨Nat.zero_le _, fun pr hpr => ⟨sz (show 2 ≤ 100000 by decide), fun pt hpt => ?_⟩⟩⟩
  have on := htp.off frn
  have f2 : Fz (Tp t) H (upd H1 pr (.lst [])) := f1.snoc hpr
  have frr : Fr H pr := f1.fr hpr
  have or_ := ht1.offN hpr
  have ht2 := ht1.put (o := .lst []) or_
  have f3 := f2.snoc (o := .tup [.ref pn, .ref pr]) hpt
  have ht3 := ht2.put (o := .tup [.ref pn, .ref pr]) (ht2.offN hpt)
  have hn3 : (upd (upd H1 pr (.lst [])) pt (.tup [.ref pn, .ref pr])) pn = some (.lst (names.map vn)) := ((Fz.new (T := N0) (o := .lst []) hpr).snoc hpt).at hn fun z => z
  have hr3 : (upd (upd H1 pr (.lst [])) pt (.tup [.ref pn, .ref pr])) pr = some (.lst []) := (Fz.new (T := N0) hpt).at upd_same fun z => z
  have nnr : pn ≠ pr := fun z => by rw [z, hpr] at hn; cases hn
  refine ⟨pt, _, rfl, sT upd_same, rfl, _, _, rfl, _, _, rfl, rfl, ?_⟩
  generalize upd (upd H1 pr (.lst [])) pt (.tup [.ref pn, .ref pr]) = H3 at f3 ht3 hn3 hr3
  -- the row
  refine ⟨_, rfl, (wr : Int), rfl, by omega, by omega, for_it (n := wr) walk_rangeN (fun i σ Hc => ∃ (r : List Nat) (u6 u7 : Option V), σ = [some (.ref t), some (vn wr), some (vn m), some (vn k), some (.ref pn), some (.ref pr), u6, u7, none, none, none, none, none, none, none, none] ∧ Fz (Tp t) H Hc ∧ TapeO Hc t l ∧ Hc pn = some (.lst (names.map vn)) ∧ Hc pr = some (.lst (r.map vn)) ∧ DRow names r i)
    ⟨[], _, _, rfl, f3, ht3, hn3, hr3, ⟨Nat.le_refl _, fun b h => (nomatch h), fun j a b h => by simp at h⟩⟩ (fun _ _ _ _ _ => trivial) ?_ ?_⟩
  · rintro i y σ Hx Hc hi ⟨r, u6, u7, rfl, fc, ht, hn, hr, dr⟩ ⟨rfl, rfl⟩
    have lr := dr.len
    have hi : i < wr := hi
    refine ⟨_, rfl, pn, rfl, ⟨_, sL hn⟩, fun D hD => lc_det (R := RN) (walk_list (K := K) (a := pn) (xs := names.map vn)) pRN hD (by rw [List.length_map]; omega) (fun i => names[i]?.bind fun b => if decide (r.getLast? ≠ some b) = true then some b else none) (fun H f => sL (f.at hn fun z => z)) (fun j x H4 H5 C Nx hj f4 hy k1 k2 => ?_) fun H4 f4 hl4 => ?_⟩
    · obtain ⟨rfl, hy⟩ := hy
      obtain ⟨b, hb, rfl⟩ := vn_get' hy
      have hr4 := f4.at hr fun z => z
      refine ⟨rfl, _, rfl, pr, _, rfl, .inl (sL hr4), rfl, _, rfl, ?_⟩
      rw [List.length_map]
      rcases List.eq_nil_or_concat r with e | ⟨r0, z, e⟩
      · subst e
        exact ⟨_, rfl, k1 _ _ b (by rw [hb]; rfl) .refl rfl⟩
      · subst e
        rw [List.concat_eq_append] at *
        have e0 : decide (V.int (((r0 ++ [z]).length : Nat) : Int) = V.int 0) = false := decide_eq_false fun q => by
          have := V.int.inj q
          rw [List.length_append, List.length_singleton] at this
          omega
        rw [e0]
        have el : (r0 ++ [z]).getLast? = some z := by simp
        refine ⟨_, rfl, 1, rfl, pr, _, -1, vn z, rfl, rfl, sL hr4, by rw [List.map_append]; exact at_last _ _, _, rfl, rfl, _, rfl, ?_⟩
        rw [dvn]
        by_cases hz : z = b
        · rw [decide_eq_true hz]
          exact k2 _ (by rw [hb, el, hz]; simp) .refl
        · rw [decide_eq_false hz]
          exact ⟨_, rfl, k1 _ _ b (by rw [hb, el]; simp [hz]) .refl rfl⟩
    have e : (List.range (names.map vn).length).filterMap (fun i => names[i]?.bind fun b => if decide (r.getLast? ≠ some b) = true then some b else none) = names.filter fun b => decide (r.getLast? ≠ some b) := by
      rw [List.length_map, fm_get, ← List.filterMap_eq_filter]
      congr
    rw [e] at hl4
    have hs4 := ln_iff.mp hl4
    have lf : (names.filter fun b => decide (r.getLast? ≠ some b)).length ≤ names.length := List.length_filter_le _ _
    have fc4 := fc.trans (f4.up (T := Tp t))
    have ht4 := ht.fz f4
    have hn4 := f4.at hn fun z => z
    have hr4 := f4.at hr fun z => z
    have oD := ht.offN hD
    refine ⟨_, rfl, D, _, rfl, .inl (sL hs4), _, 0, rfl, rfl, _, rfl, ?_⟩
    rw [List.length_map]
    by_cases hne : 0 < (names.filter fun b => decide (r.getLast? ≠ some b)).length
    · have e0 : decide ((0 : Int) < (((names.filter fun b => decide (r.getLast? ≠ some b)).length : Nat) : Int)) = true := decide_eq_true (by omega)
      rw [e0]
      refine ⟨_, rfl, tyL hr4, _, rfl, _, rfl, t, l, D, _, rfl, ht4, hs4, oD.1, by rw [List.length_map]; exact hne, by rw [List.length_map]; omega, fun j v H6 hv f6 ht6 => ?_⟩
      obtain ⟨b, hbj, rfl⟩ := vn_get' hv
      obtain ⟨hbm, hbp⟩ := List.mem_filter.mp (List.mem_of_getElem? hbj)
      have hr6 := f6.at hr4 or_.1
      refine ⟨pr, _, _, rfl, rfl, hr6, by rw [List.length_map]; exact szl (by omega), r ++ [b], _, _, rfl, (fc4.trans f6).mut frr hr6, ht6.put or_, by rw [upd_ne nnr]; exact f6.at hn4 on.1, by rw [upd_same, List.map_append]; rfl, dr.snoc hbm (of_decide_eq_true hbp)⟩
    · have e0 : decide ((0 : Int) < (((names.filter fun b => decide (r.getLast? ≠ some b)).length : Nat) : Int)) = false := decide_eq_false (by omega)
      rw [e0]
      exact ⟨r, _, _, rfl, fc4, ht4, hn4, hr4, ⟨by omega, dr.mem, dr.adj⟩⟩
  rintro σ H4 ⟨r, u6, u7, rfl, f4, ht4, hn4, hr4, dr⟩
  have lr := dr.len
  -- the order and the lots
  refine ⟨_, rfl, _, rfl, _, rfl, pr, _, rfl, .inl (sL hr4), (m : Int), (r.length : Int), by rw [List.length_map], t, l, max m r.length, by
    show [V.ref t, V.int (if (r.length : Int) > (m : Int) then (r.length : Int) else (m : Int))] ++ [] = [V.ref t, V.int ((max m r.length : Nat) : Int)]
    rw [show ((max m r.length : Nat) : Int) = if (r.length : Int) > (m : Int) then (r.length : Int) else (m : Int) by omega]
    rfl, ht4, by omega, fun o po H5 hpm f5 ht5 fro ho => ?_⟩
  have lo := hpm.length_eq
  rw [List.length_range] at lo
  have oo := ht4.off fro
  have hr5 := f5.at hr4 or_.1
  refine ⟨_, rfl, pr, rfl, ⟨_, sL hr5⟩, fun pl hpl => lc_nest (walk_list (K := K) (a := pr) (xs := r.map vn)) hpl (by rw [List.length_map]; omega) (fun H f => sL (f.at hr5 fun z => z)) (fun i x H6 H7 R hi f6 hy k => k _ _ rfl (hy.1 ▸ .refl)) fun H6 f6 nl => ⟨_, _, rfl, ?_⟩⟩
  rw [List.length_map] at nl
  have f06 := (f4.trans f5).trans (f6.up (T := Tp t))
  have offA : ∀ z, Fr H5 z → z ≠ t ∧ z ≠ l := fun z hz => ht5.off hz
  have ht6 := ht5.fz f6
  have ho6 := f6.at ho fun z => z
  have hr6 := f6.at hr5 fun z => z
  have f56 := f6.up (T := Tp t)
  have app : ∀ z, Fr H5 z → Fr H z := fun z hz => (f4.trans f5).thr z hz
  have pll : pl ≠ t ∧ pl ≠ l := ht5.offN hpl
  refine ⟨fun σ' H' => ∃ (ls : List (List Nat)) (n : Nat) (u10 : Option V), σ' = [some (.ref t), some (vn wr), some (vn m), some (vn k), some (.ref pn), some (.ref pr), u6, u7, some (.ref po), some (.ref pl), u10, none, none, none, none, none] ∧ Fz (Tp t) H5 H' ∧ TapeO H' t l ∧ NL (Fr H5) H' pl ls ∧ H' pr = some (.lst (r.map vn)) ∧ ls.length = r.length ∧ (∀ x ∈ ls, x ≠ []) ∧ ls.flatten.Perm (List.range n) ∧ n < 12, ?_, ?_⟩
  · refine ⟨_, rfl, pr, _, rfl, .inl (sL hr6), _, 0, rfl, rfl, _, rfl, ?_⟩
    rw [List.length_map]
    by_cases hr0 : 0 < r.length
    · have e0 : decide ((0 : Int) < ((r.length : Nat) : Int)) = true := decide_eq_true (by omega)
      rw [e0]
      refine ⟨_, rfl, po, _, rfl, .inl (sL ho6), (o.length : Int), by rw [List.length_map], by omega, by omega, for_it (n := o.length) walk_rangeN (fun i σ Hc => ∃ (ls : List (List Nat)) (u10 : Option V), σ = [some (.ref t), some (vn wr), some (vn m), some (vn k), some (.ref pn), some (.ref pr), u6, u7, some (.ref po), some (.ref pl), u10, none, none, none, none, none] ∧ Fz (Tp t) H5 Hc ∧ TapeO Hc t l ∧ NL (Fr H5) Hc pl ls ∧ ls.length = r.length ∧ ls.flatten.Perm (o.take i) ∧ ∀ j x, j < i → ls[j]? = some x → x ≠ [])
        ⟨List.replicate r.length [], _, rfl, f56, ht6, nl, List.length_replicate, by
          rw [List.take_zero, List.flatten_replicate_nil]
          , fun j x h => by omega⟩ (fun _ _ _ _ _ => trivial) ?_ ?_⟩
      · rintro i y σ Hx Hc hi ⟨ls, u10, rfl, fc, ht, nl, ll, pm, hne⟩ ⟨rfl, rfl⟩
        have hi : i < o.length := hi
        have ei : o[i]? = some (o[i]'hi) := List.getElem?_eq_getElem hi
        have lfl := pm.length_eq
        rw [List.length_take] at lfl
        have fin : ∀ (j : Nat) (H7 : Hp), j < r.length → Fz (Tp t) Hc H7 → TapeO H7 t l → (i < r.length → j = i) → ∃ (ps : List Addr) (z : Addr) (x : List Nat), H7 pl = some (.lst (ps.map V.ref)) ∧ (ps.map V.ref)[j]? = some (.ref z) ∧ H7 z = some (.lst (x.map vn)) ∧ x.length < 100000 ∧ H7 po = some (.lst (o.map vn)) ∧
            ∃ (ls : List (List Nat)) (u10 : Option V), [some (.ref t), some (vn wr), some (vn m), some (vn k), some (.ref pn), some (.ref pr), u6, u7, some (.ref po), some (.ref pl), some (vn i), none, none, none, none, none] = [some (.ref t), some (vn wr), some (vn m), some (vn k), some (.ref pn), some (.ref pr), u6, u7, some (.ref po), some (.ref pl), u10, none, none, none, none, none] ∧ Fz (Tp t) H5 (upd H7 z (.lst (x.map vn ++ [vn (o[i]'hi)]))) ∧ TapeO (upd H7 z (.lst (x.map vn ++ [vn (o[i]'hi)]))) t l ∧ NL (Fr H5) (upd H7 z (.lst (x.map vn ++ [vn (o[i]'hi)]))) pl ls ∧ ls.length = r.length ∧ ls.flatten.Perm (o.take (i + 1)) ∧ ∀ j x, j < i + 1 → ls[j]? = some x → x ≠ [] := fun j H7 hj f7 ht7 hji => by
          have nl7 := nl.fz f7 fun z hz => (offA z hz).1
          have ex : ls[j]? = some (ls[j]'(by omega)) := List.getElem?_eq_getElem _
          obtain ⟨ps, z, g1, g2, g3, g4, g5, g6⟩ := nl7.get ex
          have hx : (ls[j]'(by omega)).length ≤ ls.flatten.length := by
            rw [← flatten_len]
            have : ∀ (l : List (List Nat)) (j : Nat) (x : List Nat), l[j]? = some x → x.length ≤ (l.map fun l => l.length).sum := by
              intro l
              induction l with
              | nil => intro j x h; simp at h
              | cons a l ih =>
                intro j x h
                rw [List.map_cons, List.sum_cons]
                cases j with
                | zero =>
                  have : a = x := by simpa using h
                  rw [this]
                  omega
                | succ j =>
                  have := ih j x (by simpa using h)
                  omega
            exact this ls j _ ex
          have g7 := g6 (ls[j]'(by omega) ++ [o[i]'hi])
          rw [List.map_append] at g7
          refine ⟨ps, z, ls[j]'(by omega), g1, g2, g3, by omega, f7.at (fc.at ho oo.1) oo.1, ls.set j (ls[j]'(by omega) ++ [o[i]'hi]), _, rfl, (fc.trans f7).mut g4 g3, ht7.put (offA z g4), g7, by rw [List.length_set]; exact ll, ?_, fun j2 x h1 h2 => ?_⟩
          · rw [take_succ_get ei]
            exact (flatten_set ex).trans (pm.append_right _)
          · by_cases e : j = j2
            · subst e
              rw [List.getElem?_set_self (by omega)] at h2
              rw [← Option.some.inj h2]
              simp
            · rw [List.getElem?_set_ne e] at h2
              refine hne j2 x ?_ h2
              have hj2 := (List.getElem?_eq_some_iff.mp h2).1
              by_cases h3 : i < r.length
              · have := hji h3
                omega
              · omega
        have hrc := fc.at hr5 or_.1
        refine ⟨_, rfl, _, rfl, _, rfl, pr, _, rfl, .inl (sL hrc), _, _, rfl, rfl, _, rfl, ?_⟩
        rw [List.length_map]
        by_cases hir : i < r.length
        · have e1 : decide ((i : Int) < ((r.length : Nat) : Int)) = true := decide_eq_true (by omega)
          rw [e1]
          obtain ⟨ps, z, x, g1, g2, g3, g4, g5, g6⟩ := fin i Hc hir .refl ht fun _ => rfl
          exact ⟨_, rfl, pl, _, (i : Int), _, rfl, rfl, sL g1, atN g2, tyL g3, _, rfl, _, rfl, po, _, (i : Int), _, rfl, rfl, sL g5, atN (vn_get ei), z, _, _, rfl, rfl, g3, by rw [List.length_map]; exact szl g4, g6⟩
        · have e1 : decide ((i : Int) < ((r.length : Nat) : Int)) = false := decide_eq_false (by omega)
          rw [e1]
          refine ⟨_, rfl, _, rfl, pr, _, rfl, .inl (sL hrc), t, l, r.length, by rw [List.length_map]; rfl, ht, hr0, by omega, fun j H7 hj f7 ht7 => ?_⟩
          obtain ⟨ps, z, x, g1, g2, g3, g4, g5, g6⟩ := fin j H7 hj f7 ht7 fun h => absurd h hir
          exact ⟨pl, _, (j : Int), _, rfl, rfl, sL g1, atN g2, tyL g3, _, rfl, _, rfl, po, _, (i : Int), _, rfl, rfl, sL g5, atN (vn_get ei), z, _, _, rfl, rfl, g3, by rw [List.length_map]; exact szl g4, g6⟩
      · rintro σ Hc ⟨ls, u10, rfl, fc, ht, nl, ll, pm, hne⟩
        rw [List.take_length] at pm
        refine ⟨ls, max m r.length, _, rfl, fc, ht, nl, fc.at hr5 or_.1, ll, fun x hx => ?_, pm.trans hpm, by omega⟩
        obtain ⟨j, hj, rfl⟩ := List.getElem_of_mem hx
        exact hne j _ (by omega) (List.getElem?_eq_getElem hj)
    · have e0 : decide ((0 : Int) < ((r.length : Nat) : Int)) = false := decide_eq_false (by omega)
      rw [e0]
      refine ⟨0, rfl, by decide, by decide, for_it (n := 0) walk_rangeN (fun i σ Hc => σ = [some (.ref t), some (vn wr), some (vn m), some (vn k), some (.ref pn), some (.ref pr), u6, u7, some (.ref po), some (.ref pl), none, none, none, none, none, none] ∧ Hc = H6) ⟨rfl, rfl⟩ (fun _ _ _ _ _ => trivial) (fun i x σ H H' hi => absurd hi (Nat.not_lt_zero _)) ?_⟩
      rintro σ Hc ⟨rfl, rfl⟩
      have er : r.length = 0 := by omega
      rw [er] at nl
      exact ⟨[], 0, _, rfl, f56, ht6, nl, hr6, er.symm, fun x h => (nomatch h), List.Perm.refl _, by decide⟩
  rintro σ H7 ⟨ls, n, u10, rfl, f7, ht7, nl7, hr7, ll, hne, pm, hn12⟩
  have lfl := pm.length_eq
  rw [List.length_range] at lfl
  have fnd : ls.flatten.Nodup := pm.nodup_iff.mpr List.nodup_range
  refine ⟨by decide, fun l1 hl1 => ?_⟩
  have f8 : Fz N0 H7 (upd H7 l1 (.lst [vn 0])) := .new hl1
  have nl8 := nl7.fz0 f8
  have hr8 := f8.at hr7 fun z => z
  have hl8 : (upd H7 l1 (.lst [vn 0])) l1 = some (.lst [vn 0]) := upd_same
  generalize upd H7 l1 (.lst [vn 0]) = H8 at f8 nl8 hr8 hl8
  obtain ⟨ps, p1, p2, p3, p4, p5, p6, p7⟩ := id nl8
  refine ⟨_, rfl, pl, rfl, ⟨_, sL p1⟩, fun D hD => lc_det (R := RN) (walk_list (K := K) (a := pl) (xs := ps.map V.ref)) pRN hD (by rw [List.length_map]; omega) (fun i => ls[i]?.bind fun x => some x.length) (fun H f => sL (f.at p1 fun z => z)) (fun j x H9 H10 C Nx hj f9 hy k1 k2 => ?_) fun H9 f9 hl9 => ?_⟩
  · obtain ⟨rfl, hy⟩ := hy
    rw [List.length_map] at hj
    have ex : ls[j]? = some (ls[j]'(by omega)) := List.getElem?_eq_getElem _
    have ez : ps[j]? = some ps[j] := List.getElem?_eq_getElem hj
    rw [List.getElem?_map, ez] at hy
    obtain rfl := Option.some.inj hy
    have hz := f9.at (p7 j _ _ ez ex) fun z => z
    exact ⟨rfl, _, rfl, _, _, rfl, .inl (sL hz), k1 _ _ (ls[j]'(by omega)).length (by rw [ex]; rfl) .refl (by simp [RN])⟩
  have el : (List.range (ps.map V.ref).length).filterMap (fun i => ls[i]?.bind fun x => some x.length) = ls.map fun x => x.length := by
    rw [List.length_map, p6, fm_get]
    exact congrFun (List.filterMap_eq_map (f := fun x : List Nat => x.length)) _
  rw [el] at hl9
  have hl10 := ln_iff.mp hl9
  rw [map_vn] at hl10
  have hl19 := f9.at hl8 fun z => z
  have esum : ((ls.map fun x => x.length).map fun n : Nat => (n : Int)).sum = (n : Int) := by rw [sum_cast, flatten_len, lfl]
  refine ⟨D, _, rfl, sL hl10, ?_⟩
  rw [esum]
  refine ⟨l1, (n : Int), _, rfl, rfl, hl19, by omega, by omega, by
    have := sizeLine_eq
    simp
    omega, fun pb hpb => ?_⟩
  have er : (List.replicate ((n : Nat) : Int).toNat [vn 0]).flatten = (List.replicate n 0).map vn := by
    rw [Int.toNat_natCast, List.map_replicate]
    clear lfl pm esum hn12 hpb
    induction n with
    | zero => rfl
    | succ n ih => rw [List.replicate_succ, List.replicate_succ, List.flatten_cons, ih]; rfl
  rw [er]
  -- the blocks
  have nlb := nl8.fz0 f9
  have hrb := f9.at hr8 fun z => z
  have frb : Fr H9 pb := .inl hpb
  have f79 := f8.trans f9
  have fb : Fz N0 H9 (upd H9 pb (.lst ((List.replicate n 0).map vn))) := .new hpb
  have hpl9 := f9.at p1 fun z => z
  have lps : ps.length = r.length := by omega
  have rlt : ∀ b ∈ r, b < 50 ∧ b ∈ names := fun b hb => ⟨lt b (dr.mem b hb), dr.mem b hb⟩
  have hln : ∀ (j : Nat) x c, ls[j]? = some x → c ∈ x → c < n := fun j x c h1 h2 => List.mem_range.mp (pm.mem_iff.mp (List.mem_flatten.mpr ⟨x, List.mem_of_getElem? h1, h2⟩))
  refine ⟨_, rfl, _, rfl, pr, pl, _, _, rfl, .inl ⟨sL (fb.at hrb fun z => z), sL (fb.at hpl9 fun z => z), for_it (walk_zip (K := K) (a := pr) (b := pl) (n := r.length) (xs := r.map vn) (ys := ps.map V.ref) (by rw [List.length_map, List.length_map, lps, Nat.min_self])) (fun i σ Hc => ∃ (bl : List Nat) (u12 u13 u14 : Option V), σ = [some (.ref t), some (vn wr), some (vn m), some (vn k), some (.ref pn), some (.ref pr), u6, u7, some (.ref po), some (.ref pl), u10, some (.ref pb), u12, u13, u14, none] ∧ Fz N0 H9 Hc ∧ Hc pb = some (.lst (bl.map vn)) ∧ bl.length = n ∧ ∀ (j : Nat) x b c, j < i → ls[j]? = some x → r[j]? = some b → c ∈ x → bl[c]? = some b)
    ⟨List.replicate n 0, none, none, none, rfl, fb, upd_same, List.length_replicate, fun j x b c h => by omega⟩ (fun i σ Hc _ z => by
      obtain ⟨_, _, _, _, _, f, _⟩ := z
      exact ⟨sL (f.at hrb fun z => z), sL (f.at hpl9 fun z => z)⟩) ?_ ?_⟩⟩
  · rintro i y σ Hc H' hi ⟨bl, u12, u13, u14, rfl, fc, hb, lb, hv⟩ ⟨p, x1, x2, rfl, hp0, rfl, e1, e2⟩
    have e1 : (r.map vn)[i]? = some x1 := e1
    have e2 : (ps.map V.ref)[i]? = some x2 := e2
    have ez : ps[i]? = some (ps[i]'(by omega)) := List.getElem?_eq_getElem _
    have ex : ls[i]? = some (ls[i]'(by omega)) := List.getElem?_eq_getElem _
    have eb : r[i]? = some (r[i]'hi) := List.getElem?_eq_getElem hi
    rw [List.getElem?_map, ez] at e2
    obtain rfl := Option.some.inj e2
    rw [vn_get eb] at e1
    obtain rfl := Option.some.inj e1
    have fn : Fz N0 Hc (upd Hc p (.tup [vn (r[i]'hi), .ref (ps[i]'(by omega))])) := .new hp0
    have fc1 := fc.trans fn
    have hz := (f9.trans fc1).at (p7 i _ _ ez ex) fun z => z
    have hb1 := fn.at hb fun z => z
    have nzb : ps[i]'(by omega) ≠ pb := fun z => by
      have := f9.at (p7 i _ _ ez ex) fun z => z
      rw [z, hpb] at this
      cases this
    refine ⟨p, _, rfl, sT upd_same, rfl, _, _, rfl, _, _, rfl, rfl, ?_⟩
    refine ⟨_, rfl, _, rfl, ⟨_, sL hz⟩, for_it (walk_list (K := K) (xs := (ls[i]'(by omega)).map vn)) (fun k2 σ Hx => ∃ (bl : List Nat) (u14 : Option V), σ = [some (.ref t), some (vn wr), some (vn m), some (vn k), some (.ref pn), some (.ref pr), u6, u7, some (.ref po), some (.ref pl), u10, some (.ref pb), some (vn (r[i]'hi)), some (.ref (ps[i]'(by omega))), u14, none] ∧ Fz N0 H9 Hx ∧ Hx pb = some (.lst (bl.map vn)) ∧ bl.length = n ∧ Hx (ps[i]'(by omega)) = some (.lst ((ls[i]'(by omega)).map vn)) ∧ (∀ (j : Nat) x b c, j < i → ls[j]? = some x → r[j]? = some b → c ∈ x → bl[c]? = some b) ∧ ∀ c ∈ (ls[i]'(by omega)).take k2, bl[c]? = some (r[i]'hi))
      ⟨bl, u14, rfl, fc1, hb1, lb, hz, hv, fun c h => by simp at h⟩ (fun k2 σ Hx _ z => by
        obtain ⟨_, _, _, _, _, _, z, _⟩ := z
        exact sL z) ?_ ?_⟩
    · rintro k2 y σ Hy Hx hk ⟨bl, u14, rfl, g1, g2, g3, g4, g5, g6⟩ ⟨rfl, hy⟩
      obtain ⟨ch, hch, rfl⟩ := vn_get' hy
      have hcn := hln i _ ch ex (List.mem_of_getElem? hch)
      refine ⟨_, rfl, _, rfl, _, rfl, pb, _, (ch : Int), ch, rfl, rfl, g2, ixN_nat (by rw [List.length_map]; omega), bl.set ch (r[i]'hi), _, rfl, g1.mut frb g2, by rw [upd_same, List.map_set], by rw [List.length_set]; exact g3, by rw [upd_ne nzb]; exact g4, fun j x b c hj h1 h2 h3 => ?_, fun c hc => ?_⟩
      · have hne : ch ≠ c := fun z => by
          subst z
          have := flatten_once fnd h1 ex h3 (List.mem_of_getElem? hch)
          omega
        rw [List.getElem?_set_ne hne]
        exact g5 j x b c hj h1 h2 h3
      · by_cases z : ch = c
        · subst z
          rw [List.getElem?_set_self (by omega)]
        · rw [List.getElem?_set_ne z]
          rw [take_succ_get hch, List.mem_append, List.mem_singleton] at hc
          exact g6 c (hc.resolve_right fun q => z q.symm)
    · rintro σ Hx ⟨bl, u14, rfl, g1, g2, g3, g4, g5, g6⟩
      rw [List.length_map, List.take_length] at g6
      refine ⟨bl, _, _, _, rfl, g1, g2, g3, fun j x b c hj h1 h2 h3 => ?_⟩
      by_cases z : j = i
      · subst z
        rw [ex] at h1
        rw [eb] at h2
        rw [← Option.some.inj h2]
        exact g6 c (by rw [Option.some.inj h1]; exact h3)
      · exact g5 j x b c (by omega) h1 h2 h3
  rintro σ Hc ⟨bl, u12, u13, u14, rfl, fc, hb, lb, hv⟩
  -- the end
  refine ⟨_, rfl, pb, _, rfl, .inl ⟨sL hb, fun tb htb => ?_⟩⟩
  have ft : Fz N0 Hc (upd Hc tb (.tup (bl.map vn))) := .new htb
  have fct := fc.trans ft
  have hrt := fct.at hrb fun z => z
  have hplt := fct.at hpl9 fun z => z
  refine ⟨_, rfl, _, rfl, pr, pl, _, _, rfl, .inl ⟨sL hrt, sL hplt, fun D2 hD2 => lc_det (R := EN) (walk_zip (K := K) (a := pr) (b := pl) (n := r.length) (xs := r.map vn) (ys := ps.map V.ref) (by rw [List.length_map, List.length_map, lps, Nat.min_self])) pEN hD2 (by omega) (fun i => (r.zip ls)[i]?.bind fun p => some (p.1, lotM (mskL p.2))) (fun H f => ⟨sL (f.at hrt fun z => z), sL (f.at hplt fun z => z)⟩) (fun i x H11 H12 C Nx hi f11 hy k1 k2 => ?_) fun H11 f11 hl11 => ?_⟩⟩
  · obtain ⟨p, x1, x2, rfl, hp0, rfl, e1, e2⟩ := hy
    have e1 : (r.map vn)[i]? = some x1 := e1
    have e2 : (ps.map V.ref)[i]? = some x2 := e2
    have ez : ps[i]? = some (ps[i]'(by omega)) := List.getElem?_eq_getElem _
    have ex : ls[i]? = some (ls[i]'(by omega)) := List.getElem?_eq_getElem _
    have eb : r[i]? = some (r[i]'hi) := List.getElem?_eq_getElem hi
    rw [List.getElem?_map, ez] at e2
    obtain rfl := Option.some.inj e2
    rw [vn_get eb] at e1
    obtain rfl := Option.some.inj e1
    have fn : Fz N0 H11 (upd H11 p (.tup [vn (r[i]'hi), .ref (ps[i]'(by omega))])) := .new hp0
    have hz := (((f9.trans fct).trans f11).trans fn).at (p7 i _ _ ez ex) fun z => z
    have hz' := hz
    rw [map_vn] at hz'
    have hzl : (ls[i]'(by omega)).length < 64 := by
      have hs := nodup_sub (b := List.range n) (fnd.sublist (by
        have h1 : [ls[i]'(by omega)].Sublist ls := List.singleton_sublist.mpr (List.getElem_mem _)
        have h2 := flat_sub h1
        rw [List.flatten_cons, List.flatten_nil, List.append_nil] at h2
        exact h2)) fun c hc => List.mem_range.mpr (hln i _ c ex hc)
      rw [List.length_range] at hs
      omega
    have hnd : (ls[i]'(by omega)).Nodup := fnd.sublist (by
        have h1 : [ls[i]'(by omega)].Sublist ls := List.singleton_sublist.mpr (List.getElem_mem _)
        have h2 := flat_sub h1
        rw [List.flatten_cons, List.flatten_nil, List.append_nil] at h2
        exact h2)
    refine ⟨p, _, rfl, sT upd_same, rfl, _, _, rfl, _, _, rfl, rfl, rfl, _, rfl, _, rfl, _, _, rfl, sL hz', by rw [List.length_map]; exact hzl, fun ns' p1' hpm' hps' hp1' => ⟨p1', _, rfl, .inl ⟨sL upd_same, fun p2' hp2' => ⟨sz (show 2 ≤ 100000 by decide), fun p3' hp3' => ?_⟩⟩⟩⟩
    have es1 := sorted_msk hpm' hps' hnd
    have fA : Fz N0 (upd H11 p (.tup [vn (r[i]'hi), .ref (ps[i]'(by omega))])) (upd (upd H11 p (.tup [vn (r[i]'hi), .ref (ps[i]'(by omega))])) p1' (.lst (ns'.map V.int))) := .new hp1'
    have fB := fA.snoc (o := .tup (ns'.map V.int)) hp2'
    have fC := fB.snoc (o := .tup [vn (r[i]'hi), .ref p2']) hp3'
    refine k1 _ _ (r[i]'hi, lotM (mskL (ls[i]'(by omega)))) ?_ (fn.trans fC) ⟨p3', _, _, rfl, upd_same, rfl, tn_iff.mpr ⟨p2', rfl, ?_⟩⟩
    · have : (r.zip ls)[i]? = some (r[i]'hi, ls[i]'(by omega)) := List.getElem?_zip_eq_some.mpr ⟨eb, ex⟩
      rw [this]
      rfl
    · have h1 : (upd (upd (upd (upd H11 p (.tup [vn (r[i]'hi), .ref (ps[i]'(by omega))])) p1' (.lst (ns'.map V.int))) p2' (.tup (ns'.map V.int))) p3' (.tup [vn (r[i]'hi), .ref p2'])) p2' = some (.tup (ns'.map V.int)) := (Fz.new (T := N0) hp3').tup upd_same
      rw [h1, es1, ← map_vn]
  have elen : (r.zip ls).length = r.length := by rw [List.length_zip]; omega
  have elog : (List.range r.length).filterMap (fun i => (r.zip ls)[i]?.bind fun p => some (p.1, lotM (mskL p.2))) = (r.zip ls).map fun p => (p.1, lotM (mskL p.2)) := by
    rw [← elen, fm_get]
    exact congrFun (List.filterMap_eq_map (f := fun p : Nat × List Nat => (p.1, lotM (mskL p.2)))) _
  rw [elog] at hl11
  obtain ⟨ws, hw1, hw2⟩ := hl11
  refine ⟨D2, _, rfl, .inl ⟨sL hw1, fun tl htl => ⟨sz (show 2 ≤ 100000 by decide), fun tq htq => ?_⟩⟩⟩
  have f12 : Fz N0 H11 (upd H11 tl (.tup ws)) := .new htl
  have f13 := f12.snoc (o := .tup [.ref tb, .ref tl]) htq
  have fall := (ft.trans f11).trans f13
  have fcall := fc.trans fall
  have fH : Fz (Tp t) H (upd (upd H11 tl (.tup ws)) tq (.tup [.ref tb, .ref tl])) := ((f4.trans f5).trans f7).trans ((f79.trans fcall).up)
  have htq' := ht7.fz (f79.trans fcall)
  have htl2 : (upd (upd H11 tl (.tup ws)) tq (.tup [.ref tb, .ref tl])) tl = some (.tup ws) := (Fz.new (T := N0) htq).tup upd_same
  have htb2 := (f11.trans f13).tup (upd_same (H := Hc) (a := tb) (o := .tup (bl.map vn)))
  -- the log is one of these blocks
  have zat : ∀ (j : Nat) e, ((r.zip ls).map fun p => (p.1, lotM (mskL p.2)))[j]? = some e → ∃ x, r[j]? = some e.1 ∧ ls[j]? = some x ∧ e.2 = lotM (mskL x) := fun j e h => by
    rw [List.getElem?_map] at h
    cases hz : (r.zip ls)[j]? with
    | none => rw [hz] at h; cases h
    | some p =>
      rw [hz] at h
      obtain ⟨h1, h2⟩ := List.getElem?_zip_eq_some.mp hz
      have h := Option.some.inj h
      exact ⟨p.2, by rw [← h]; exact h1, h2, by rw [← h]⟩
  have zm : ((r.zip ls).map fun p => (p.1, lotM (mskL p.2))).map (fun e => e.2) = ls.map fun x => lotM (mskL x) := by
    rw [List.map_map]
    have h1 : (r.zip ls).map (fun p => p.2) = ls := List.map_snd_zip (by omega)
    have h2 : ((fun e : Nat × List Nat => e.2) ∘ fun p : Nat × List Nat => (p.1, lotM (mskL p.2))) = (fun x => lotM (mskL x)) ∘ fun p : Nat × List Nat => p.2 := rfl
    rw [h2, ← List.map_map, h1]
  have xnd : ∀ x ∈ ls, x.Nodup := fun x hx => fnd.sublist (by
    have h2 := flat_sub (List.singleton_sublist.mpr hx)
    rw [List.flatten_cons, List.flatten_nil, List.append_nil] at h2
    exact h2)
  have ok : LogOk bl ((r.zip ls).map fun p => (p.1, lotM (mskL p.2))) := by
    refine ⟨fun e he => ?_, fun e he => ?_, fun e he c hc => ?_, ?_, fun j e e' h1 h2 => ?_, by omega, fun b hb => ?_⟩
    · obtain ⟨j, hj⟩ := List.getElem?_of_mem he
      obtain ⟨x, h1, h2, h3⟩ := zat j e hj
      rw [h3]
      intro z
      have hx := hne x (List.mem_of_getElem? h2)
      obtain ⟨c, hc⟩ := List.exists_mem_of_ne_nil _ hx
      have : c ∈ lotM (mskL x) := mem_lotM.mpr (mskL_bit.mpr hc)
      rw [z] at this
      cases this
    · obtain ⟨j, hj⟩ := List.getElem?_of_mem he
      obtain ⟨x, h1, h2, h3⟩ := zat j e hj
      rw [h3]
      exact lotM_sorted _
    · obtain ⟨j, hj⟩ := List.getElem?_of_mem he
      obtain ⟨x, h1, h2, h3⟩ := zat j e hj
      rw [h3] at hc
      exact hv j x e.1 c (List.getElem?_eq_some_iff.mp h1).1 h2 h1 (mskL_bit.mp (mem_lotM.mp hc))
    · rw [zm, lb]
      exact (flatten_perm _ fun x hx => msk_perm (xnd x hx)).trans pm
    · obtain ⟨x, g1, _, _⟩ := zat j e h1
      obtain ⟨x', g2, _, _⟩ := zat (j + 1) e' h2
      exact dr.adj j _ _ g1 g2
    · obtain ⟨c, hc, hcb⟩ := List.getElem_of_mem hb
      have hcf : c ∈ ls.flatten := pm.mem_iff.mpr (List.mem_range.mpr (by omega))
      obtain ⟨x, hx, hcx⟩ := List.mem_flatten.mp hcf
      obtain ⟨j, hj⟩ := List.getElem?_of_mem hx
      have hjr : j < r.length := by
        have := (List.getElem?_eq_some_iff.mp hj).1
        omega
      have := hv j x (r[j]) c hjr hj (List.getElem?_eq_getElem hjr) hcx
      rw [List.getElem?_eq_getElem hc, hcb] at this
      rw [Option.some.inj this]
      exact (rlt _ (List.getElem_mem hjr)).1
  refine q bl names _ _ _ ok len (fun b hb => ?_) fH htq' ⟨tq, _, _, rfl, upd_same, tn_iff.mpr ⟨tb, rfl, htb2⟩, tl, ws, rfl, htl2, pEN.all f13 hw2⟩
  obtain ⟨c, hc, hcb⟩ := List.getElem_of_mem hb
  have hcf : c ∈ ls.flatten := pm.mem_iff.mpr (List.mem_range.mpr (by omega))
  obtain ⟨x, hx, hcx⟩ := List.mem_flatten.mp hcf
  obtain ⟨j, hj⟩ := List.getElem?_of_mem hx
  have hjr : j < r.length := by
    have := (List.getElem?_eq_some_iff.mp hj).1
    omega
  have := hv j x (r[j]) c hjr hj (List.getElem?_eq_getElem hjr) hcx
  rw [List.getElem?_eq_getElem hc, hcb] at this
  rw [Option.some.inj this]
  exact (rlt _ (List.getElem_mem hjr)).2
end
end Rw

/-! The law's own defs: same, is_book. -/
namespace Rw
open PySem PySem.Spec PyProof.Rows L2
section
variable {P : Program} {w : World} {K : PySem.W.Frag} {mg : Str → Option Value} {base : Heap} {B W c : Addr}
/-- data that may be shown -/
structure ShD (d : PyData) : Prop where
  show_ : d.showable = true
  nod : d.hasDict = false
  dep : d.depth ≤ 40
  len : d.shown.length ≤ sizeLine
/-- two values that are shown alike -/
inductive Alike (K : PySem.W.Frag) (H : Hp) : V → V → Prop
  | int (n : Nat) (h : n < 2 ^ 1900) : Alike K H (vn n) (vn n)
  | dat (a b : Addr) (d : PyData) (h1 : Dp K H (.ref a) d) (h2 : Dp K H (.ref b) d) (h : ShD d) : Alike K H (.ref a) (.ref b)
def rReprU (K : PySem.W.Frag) : List V → Hp → VK → Prop := fun xs H Q => (∃ i : Int, xs = [.int i] ∧ i.natAbs.log2 < 1920 ∧ Q (.str (toString i)) H) ∨ rRepr K xs H Q
theorem cr_reprU {X : Cx} (hg : X.A.guards = some []) (hu : X.A.units + 64 < cLine) : CallR X (.builtin "repr") (rReprU X.K) := by
  intro pins s σ H xs us Q I r h
  rcases h with h | h
  · exact SkE.call_repr_int pins s σ H xs us Q I r h
  · exact cr_reprD hg hu pins s σ H xs us Q I r h
abbrev s__law_same : Stmt := topS 61
abbrev N__law_same : List Str := ["_law_told", "_law_due"]
theorem sc__law_same : FnScope N__law_same ["_law_told", "_law_due"] (C8.fnScope s__law_same) := C8.fnScope_by (by decide +kernel)
def sp_same (K : PySem.W.Frag) : Sp := fun vs H Q _ => ∃ u v, vs = [u, v] ∧ Alike K H u v ∧ Q (.bl true) H
theorem ok__law_same (T : Tx K mg B W c) : CalG P w K mg base 1 "_law_same" (sp_same K) := by
  refine calGD T.d__law_same sc__law_same (fun vs H Q E ⟨_, _, h, _⟩ => by rw [h]; rfl) fun f cdv A outer s H vs Q E hr hg h => ?_
  obtain ⟨u, v, rfl, ha, q⟩ := h
  refine ⟨_, (pss_one (ps_ret (pe_cmpR op_eq (pe_callB (cr_reprU hg hr.units) (by rfl) T.z_repr (by decide +kernel) (pa_cons (pv 0) pa_nil)) (pe_callB (cr_reprU hg hr.units) (by rfl) T.z_repr (by decide +kernel) (pa_cons (pv 1) pa_nil)) (nomark _)))), ?_⟩
  cases ha with
  | int n hn =>
    have hl : ((n : Nat) : Int).natAbs.log2 < 1920 := by
      rw [Int.natAbs_natCast]
      by_cases h0 : n = 0
      · rw [h0]; decide
      · exact Nat.lt_of_lt_of_le ((Nat.log2_lt h0).mpr hn) (by decide)
    refine ⟨_, rfl, .inl ⟨_, rfl, hl, _, rfl, .inl ⟨_, rfl, hl, rfl, ?_⟩⟩⟩
    rw [decide_eq_true rfl]
    exact q
  | dat a b d h1 h2 h =>
    refine ⟨_, rfl, .inr ⟨a, d, rfl, h1, h.show_, h.nod, h.dep, h.len, _, rfl, .inr ⟨b, d, rfl, h2, h.show_, h.nod, h.dep, h.len, rfl, ?_⟩⟩⟩
    rw [decide_eq_true rfl]
    exact q
abbrev s__law_is_book : Stmt := topS 63
abbrev N__law_is_book : List Str := ["_law_told", "_law_blocks"]
theorem sc__law_is_book : FnScope N__law_is_book ["_law_told", "_law_blocks"] (C8.fnScope s__law_is_book) := C8.fnScope_by (by decide +kernel)
def sp_is_book (K : PySem.W.Frag) (B : Addr) : Sp := fun vs H Q _ => ∃ u v bs nd, vs = [u, v] ∧ IsB B H u bs nd ∧ TN H v bs ∧ ShD (dTN bs) ∧ Q (.bl true) H
theorem ok__law_is_book (T : Tx K mg B W c) : CalG P w K mg base 2 "_law_is_book" (sp_is_book K B) := by
  refine calGD T.d__law_is_book sc__law_is_book (fun vs H Q E ⟨_, _, _, _, h, _⟩ => by rw [h]; rfl) fun f cdv A outer s H vs Q E hr hg h => ?_
  obtain ⟨u, v, bs, nd, rfl, ⟨x, dx, vb, vnn, rfl, hx, hb, hn⟩, hv, sh, q⟩ := h
  obtain ⟨a, rfl, ha⟩ := tn_iff.mp hb
  obtain ⟨b, rfl, hb2⟩ := tn_iff.mp hv
  refine ⟨_, (pss_one (ps_ret (pe_and (pe_callB (C8.call_isC T.i_Book) (by rfl) T.z_isinstance (by decide +kernel) (pa_cons (pv 0) (pa_cons (C8.pe_gc (by rfl) T.g_Book) pa_nil))) (pe_one (pe_cG (ok__law_same T) hr (by decide) hg (by rfl) (pa_cons (pe_fld (pv 0) rfl) (pa_cons (pv 1) pa_nil))))))), ?_⟩
  exact ⟨_, rfl, x, dx, _, rfl, hx, _, rfl, _, rfl, x, B, dx, _, _, rfl, hx, T.cB, T.nB_blocks, rfl, _, rfl, _, _, rfl, .dat a b (dTN bs) (dpTN hb) (dpTN hv) sh, q⟩
/-- small numbers are shown in eight letters at most -/
theorem short_int : ∀ n : Nat, n < 64 → (PyData.shown (.int (n : Int))).length ≤ 8 := by
  have : ∀ n : Fin 64, (PyData.shown (.int ((n : Nat) : Int))).length ≤ 8 := by decide +kernel
  exact fun n h => this ⟨n, h⟩
theorem sh_all {α : Type} {D : α → PyData} {xs : List α} (h : ∀ x ∈ xs, (D x).leavesShort 8 = true ∧ (D x).showable = true ∧ (D x).bulk ≤ 10) : PyData.leavesShortAll 8 (xs.map D) = true ∧ PyData.showableAll (xs.map D) = true ∧ PyData.bulkAll (xs.map D) ≤ 11 * xs.length := by
  induction xs with
  | nil => exact ⟨rfl, rfl, Nat.le_refl _⟩
  | cons x xs ih =>
    obtain ⟨h1, h2, h3⟩ := h x (List.mem_cons_self)
    obtain ⟨g1, g2, g3⟩ := ih fun y hy => h y (List.mem_cons_of_mem _ hy)
    rw [List.map_cons, PyData.leavesShortAll, PyData.showableAll, PyData.bulkAll, h1, g1, h2, g2, List.length_cons]
    exact ⟨rfl, rfl, by omega⟩
theorem sh_N {n : Nat} (h : n < 64) : (dN n).leavesShort 8 = true ∧ (dN n).showable = true ∧ (dN n).bulk ≤ 10 := by
  unfold dN
  rw [PyData.leavesShort, PyData.showable, PyData.bulk]
  refine ⟨decide_eq_true (short_int n h), decide_eq_true ?_, by decide⟩
  rw [Int.natAbs_natCast]
  by_cases h0 : n = 0
  · rw [h0]; decide
  · exact Nat.lt_of_lt_of_le ((Nat.log2_lt h0).mpr (show n < 2 ^ 6 from h)) (by decide)
theorem sh_TN {ns : List Nat} (h : ∀ n ∈ ns, n < 64) (hz : ns.length ≤ 1000) : ShD (dTN ns) := by
  obtain ⟨h1, h2, h3⟩ := sh_all (D := dN) (xs := ns) fun n hn => sh_N (h n hn)
  have g := gdTN ns
  refine ⟨by unfold dTN; rw [PyData.showable]; exact h2, PyData.hasDict_of_canLay _ g.1, Nat.le_trans g.2 (by decide), PyData.shown_fits_bulk (B := 8) (by decide) (by decide) (by unfold dTN; rw [PyData.leavesShort]; exact h1) (by unfold dTN; rw [PyData.bulk]; omega)⟩
theorem sh_PN {p : Nat × Nat} (h1 : p.1 < 64) (h2 : p.2 < 64) : (dPN p).leavesShort 8 = true ∧ (dPN p).showable = true ∧ (dPN p).bulk ≤ 10 := by
  obtain ⟨a1, a2, a3⟩ := sh_N h1
  obtain ⟨b1, b2, b3⟩ := sh_N h2
  unfold dPN
  rw [PyData.leavesShort, PyData.showable, PyData.bulk]
  simp only [PyData.leavesShortAll, PyData.showableAll, PyData.bulkAll, a1, a2, b1, b2]
  refine ⟨rfl, rfl, ?_⟩
  have e1 : (dN p.1).bulk = 0 := by unfold dN; rw [PyData.bulk]
  have e2 : (dN p.2).bulk = 0 := by unfold dN; rw [PyData.bulk]
  omega
theorem sh_NP {nd : List (Nat × Nat)} (h : ∀ p ∈ nd, p.1 < 64 ∧ p.2 < 64) (hz : nd.length ≤ 10000) : ShD (dNP nd) := by
  obtain ⟨h1, h2, h3⟩ := sh_all (D := dPN) (xs := nd) fun p hp => sh_PN (h p hp).1 (h p hp).2
  have g := gdNP nd
  refine ⟨by unfold dNP; rw [PyData.showable]; exact h2, PyData.hasDict_of_canLay _ g.1, Nat.le_trans g.2 (by decide), PyData.shown_fits_bulk (B := 8) (by decide) (by decide) (by unfold dNP; rw [PyData.leavesShort]; exact h1) (by unfold dNP; rw [PyData.bulk]; omega)⟩
end
end Rw

/-! The law's own defs: many_rows. -/
namespace Rw
open PySem PySem.Spec PyProof.Rows L2
section
variable {P : Program} {w : World} {K : PySem.W.Frag} {mg : Str → Option Value} {base : Heap} {B W c : Addr}
theorem length_put_old {kvs : List (Key × V)} {k : Key} {v : V} (h : (valV kvs k).isSome = true) : (putK kvs k v).length = kvs.length := by
  unfold putK
  rw [valV_any, h, if_pos rfl, List.length_map]
abbrev s__law_many_rows : Stmt := topS 62
abbrev N__law_many_rows : List Str := ["_law_spec", "_law_direct_here", "_law_blocks", "_law_found", "_law_known", "_law_at", "_law_block", "_law_there", "_law_count", "_law_here", "_law_mask"]
theorem sc__law_many_rows : FnScope N__law_many_rows ["_law_spec"] (C8.fnScope s__law_many_rows) := C8.fnScope_by (by decide +kernel)
def sp_lmany : Sp := fun vs H Q _ => ∃ (v : V) (bs : List Nat) (nd : List (Nat × Nat)), vs = [v] ∧ SP2 H v (bs, nd) ∧ (∀ p ∈ nd, p.1 < bs.length ∧ p.2 < bs.length) ∧ bs.length < 12 ∧ ∀ ms, Srt ms bs → (∀ l : List Nat, l.Nodup → (∀ s ∈ l, ReachL bs nd ms s) → l.length ≤ 2000) ∧ ReachL bs nd ms (2 ^ bs.length - 1) ∧
  ∃ F, RowG bs nd ms F ∧ ∀ H', Fz N0 H H' → Q (vn (F 0)) H'
theorem ok__law_many_rows (T : Tx K mg B W c) : C8.Cal P w K mg base 2 "_law_many_rows" sp_lmany [] := by
  refine calD T.d__law_many_rows sc__law_many_rows (fun vs H Q E ⟨_, _, _, h, _⟩ => by rw [h]; rfl) fun f cdv A outer s H vs Q E hr h => ?_
  obtain ⟨v, bs, nd, rfl, hs, hlt, hz, q⟩ := h
  obtain ⟨a, u1, u2, rfl, ha, hb, hn⟩ := id hs
  obtain ⟨ab, rfl, hab⟩ := tn_iff.mp hb
  refine ⟨_, (pss_cons (ps_asg (pe_tup (pa_cons (C8.pe_c (ok__law_direct T) hr (by decide) (by rfl) (pa_cons (pv 0) pa_nil)) (pa_cons (pe_callB (cr_sortedSet rfl) (by rfl) T.z_sorted (by decide +kernel) (pa_cons (pe_callTy (cr_setI rfl) (by rfl) T.z_set (by decide +kernel) (pa_cons (pe_ix ix_tup (pv 0) pe_int (fun _ _ => rfl)) pa_nil)) pa_nil)) (pa_cons (pe_lst (pa_cons pe_int pa_nil)) (pa_cons (pe_disp (pps_cons pe_int pe_int pps_nil) (by rfl) (by rfl) (fun z => by cases z) (by decide)) pa_nil))))) (pg_tup rfl (pgs_cons (pg_name (i := 1) sc__law_many_rows.nd rfl (.inl rfl)) (pgs_cons (pg_name (i := 2) sc__law_many_rows.nd rfl (.inl rfl)) (pgs_cons (pg_name (i := 3) sc__law_many_rows.nd rfl (.inl rfl)) (pgs_cons (pg_name (i := 4) sc__law_many_rows.nd rfl (.inl rfl)) pgs_nil))))))
      (pss_cons (ps_set (i := 5) sc__law_many_rows.nd rfl (.inl rfl) pe_int)
      (pss_cons (ps_while PassesOwn.never (pt_cmpR op_lt (pv 5) (pe_callB call_len_seq (by rfl) T.z_len PySem.boot_len (pa_cons (pv 3) pa_nil)) (nomark _))
        (pss_cons (ps_for PassesOwn.never rfl (pi_list (pv 2)) (pg_name (i := 6) sc__law_many_rows.nd rfl (.inl rfl))
          (pss_cons (ps_set (i := 7) sc__law_many_rows.nd rfl (.inl rfl) (pe_op op_add (pe_ix ix_list (pv 3) (pv 5) (fun _ _ => rfl)) (C8.pe_c (ok__law_brought T) hr (by decide) (by rfl) (pa_cons (pe_ix ix_tup (pv 0) pe_int (fun _ _ => rfl)) (pa_cons (pv 1) (pa_cons (pe_ix ix_list (pv 3) (pv 5) (fun _ _ => rfl)) (pa_cons (pv 6) pa_nil)))))))
          (pss_one (ps_if (pt_cmp (pc_dnotin (hu_of hr) (pv 7) (pv 4)))
            (pss_cons (ps_dput (hu_of hr) (pv 4) (pv 7) pe_int rfl)
            (pss_one (ps_expr (pe_bm PySem.F.plainAttrs_list PySem.F.slot_list_append PySem.F.type_list_append mt_append (pv 3) (pa_cons (pv 7) pa_nil)))))
            pss_nil))))
        (pss_one (ps_set (i := 5) sc__law_many_rows.nd rfl (.inl rfl) (pe_op op_add (pv 5) pe_int)))))
      (pss_cons (ps_for PassesOwn.never rfl (pi_list (pe_callB cr_sortedPO (by rfl) T.z_sorted (by decide +kernel) (pa_cons (pe_lc (own := [("_law_mask", 10)]) (by rfl) sc__law_many_rows.nd (pi_list (pv 3)) (blkOk_by (own := [("_law_mask", 10)]) (N := N__law_many_rows) (sc := C8.fnScope s__law_many_rows) (by decide +kernel)) (fun _ _ _ _ _ => (pg_name (i := 10) sc__law_many_rows.nd rfl (.inl rfl))) (fun _ _ _ _ _ => pts_nil) (fun _ _ _ _ _ => (pe_tup (pa_cons (pe_callB (lenK (K := K) rfl) (by rfl) T.z_len PySem.boot_len (pa_cons (C8.pe_c (ok__law_lot T) hr (by decide) (by rfl) (pa_cons (pv 10) pa_nil)) pa_nil)) (pa_cons (pv 10) pa_nil))))) pa_nil))) (pg_tup rfl (pgs_cons (pg_name (i := 8) sc__law_many_rows.nd rfl (.inl rfl)) (pgs_cons (pg_name (i := 9) sc__law_many_rows.nd rfl (.inl rfl)) pgs_nil)))
        (pss_one (ps_for PassesOwn.never rfl (pi_list (pv 2)) (pg_name (i := 6) sc__law_many_rows.nd rfl (.inl rfl))
          (pss_cons (ps_set (i := 7) sc__law_many_rows.nd rfl (.inl rfl) (pe_op op_add (pv 9) (C8.pe_c (ok__law_brought T) hr (by decide) (by rfl) (pa_cons (pe_ix ix_tup (pv 0) pe_int (fun _ _ => rfl)) (pa_cons (pv 1) (pa_cons (pv 9) (pa_cons (pv 6) pa_nil)))))))
          (pss_one (ps_if (pt_cmpR op_ne (pv 7) (pv 9) (nomark _))
            (pss_one (ps_dput (hu_of hr) (pv 4) (pv 7) (pe_op op_add (pe_dget (hu_of hr) (pv 4) (pv 7) (fun _ _ => rfl)) (pe_dget (hu_of hr) (pv 4) (pv 9) (fun _ _ => rfl))) rfl))
            pss_nil))))))
      (pss_one (ps_ret (pe_dget (hu_of hr) (pv 4) (pe_op op_sub (pe_op op_shl1 pe_int (pe_callB call_len_seq (by rfl) T.z_len PySem.boot_len (pa_cons (pe_ix ix_tup (pv 0) pe_int (fun _ _ => rfl)) pa_nil))) pe_int) (fun _ _ => rfl)))))))), ?_⟩
  refine ⟨_, rfl, _, bs, nd, rfl, hs, hlt, by omega, fun pd H1 f1 frd hd => ?_⟩
  refine ⟨_, rfl, a, _, 0, _, rfl, rfl, sT (f1.tup ha), rfl, ss_nats (bs := bs) (a := ab) (.inr (sT (f1.tup hab))) (by omega) fun ms pb H4 hms fl4 frb hb4 => ?_⟩
  have lms := hms.len
  obtain ⟨hR, hall, F, hF, q⟩ := q ms hms
  have f4 := f1.trans fl4
  have hd4 := fl4.at hd fun z => z
  refine ⟨sz (show 1 ≤ 100000 by decide), fun pf hpf => ?_⟩
  refine fun pk hpk => ⟨upd_same, [(.inl 0, .int 1)], rfl, (by decide : 1 ≤ 15), ⟨sz (show 4 ≤ 100000 by decide), fun pt hpt => ?_⟩⟩
  have nfk : pf ≠ pk := fun z => by rw [← z, upd_same] at hpk; cases hpk
  have g1 : Fz N0 H4 (upd H4 pf (.lst [.int 0])) := .new hpf
  have g2 := g1.snoc (o := .dK []) hpk
  have frk : Fr H4 pk := g1.fr hpk
  have g3 : Fz N0 H4 (upd (upd (upd H4 pf (.lst [.int 0])) pk (.dK [])) pk (.dK [(.inl 0, .int 1)])) := g2.mut frk upd_same
  have g4 : Fz N0 H4 (upd (upd (upd (upd H4 pf (.lst [.int 0])) pk (.dK [])) pk (.dK [(.inl 0, .int 1)])) pt (.tup [.ref pd, .ref pb, .ref pf, .ref pk])) := g3.snoc hpt
  have npf : pf ≠ pt := fun z => by rw [← z, upd_ne nfk, upd_ne nfk, upd_same] at hpt; cases hpt
  have npk : pk ≠ pt := fun z => by rw [← z] at hpt; exact absurd (upd_same.symm.trans hpt) (by simp)
  have hf5 : (upd (upd (upd (upd H4 pf (.lst [.int 0])) pk (.dK [])) pk (.dK [(.inl 0, .int 1)])) pt (.tup [.ref pd, .ref pb, .ref pf, .ref pk])) pf = some (.lst ([0].map vn)) := by rw [upd_ne npf, upd_ne nfk, upd_ne nfk, upd_same]; rfl
  have hk5 : (upd (upd (upd (upd H4 pf (.lst [.int 0])) pk (.dK [])) pk (.dK [(.inl 0, .int 1)])) pt (.tup [.ref pd, .ref pb, .ref pf, .ref pk])) pk = some (.dK [(.inl 0, .int 1)]) := by rw [upd_ne npk, upd_same]
  refine ⟨pt, _, rfl, sT upd_same, rfl, _, _, rfl, _, _, rfl, _, _, rfl, _, _, rfl, rfl, ?_⟩
  have g5 := f4.trans g4
  have hb5 := g4.at hb4 fun z => z
  have hd5 := g4.at hd4 fun z => z
  have frf : Fr H pf := f4.fr hpf
  have frk' : Fr H pk := f4.thr _ frk
  show (tSeq _ _) _ _ (upd (upd (upd (upd H4 pf (.lst [.int 0])) pk (.dK [])) pk (.dK [(.inl 0, .int 1)])) pt (.tup [.ref pd, .ref pb, .ref pf, .ref pk]))
  generalize upd (upd (upd (upd H4 pf (.lst [.int 0])) pk (.dK [])) pk (.dK [(.inl 0, .int 1)])) pt (.tup [.ref pd, .ref pb, .ref pf, .ref pk]) = H5 at g4 g5 hf5 hk5 hb5 hd5
  -- the standings
  have k0 : ∀ s : Nat, valV ([(.inl 0, .int 1)] : List (Key × V)) (.inl (s : Int)) = if s ∈ [0] then some (vn (if s = 0 then 1 else 0)) else none := fun s => by
    have e := vput [] 0 s (.int 1)
    have e2 : valV ([(.inl 0, .int 1)] : List (Key × V)) (.inl (s : Int)) = if s = 0 then some (.int 1) else valV ([] : List (Key × V)) (.inl (s : Int)) := e
    rw [e2]
    by_cases h : s = 0
    · rw [if_pos h, if_pos (by simp [h]), if_pos h]; rfl
    · rw [if_neg h, if_neg (by simp [h]), valV_nil]
  have nbf : pb ≠ pf := fun z => by rw [z, hpf] at hb4; cases hb4
  have ndf : pd ≠ pf := fun z => by rw [z, hpf] at hd4; cases hd4
  have nbk : pb ≠ pk := fun z => by rw [z, hk5] at hb5; cases hb5
  have ndk : pd ≠ pk := fun z => by rw [z, hk5] at hd5; cases hd5
  refine ⟨fun k σ Hc => ∃ (fl : List Nat) (kk : List (Key × V)) (at_ : Nat) (u6 u7 : Option V), k = 3000 - at_ ∧ σ = [some (.ref a), some (.ref pd), some (.ref pb), some (.ref pf), some (.ref pk), some (vn at_), u6, u7, none, none, none] ∧ Fz N0 H Hc ∧ Hc pb = some (.lst (ms.map vn)) ∧ Hc pd = some (.lst ((dmL bs.length nd).map vn)) ∧ Hc pf = some (.lst (fl.map vn)) ∧ Hc pk = some (.dK kk) ∧ SM bs nd ms fl at_ 0 ∧ at_ ≤ fl.length ∧ kk.length = fl.length ∧ ∀ s : Nat, valV kk (.inl (s : Int)) = if s ∈ fl then some (vn (if s = 0 then 1 else 0)) else none,
    ⟨_, [0], [(.inl 0, .int 1)], 0, none, none, rfl, rfl, g5, hb5, hd5, hf5, hk5, .init, by decide, rfl, k0⟩, ?_⟩
  rintro k σ Hc ⟨fl, kk, at_, u6, u7, rfl, rfl, fc, hb, hd, hf, hk, sm, hat, lk, hv⟩
  have lfl := hR fl sm.nodup sm.reach
  refine ⟨_, rfl, _, rfl, pf, _, rfl, .inl (sL hf), _, _, rfl, rfl, _, rfl, ?_⟩
  rw [List.length_map]
  by_cases hat2 : at_ < fl.length
  · have e0 : decide ((at_ : Int) < ((fl.length : Nat) : Int)) = true := decide_eq_true (by omega)
    rw [e0]
    have es : fl[at_]? = some (fl[at_]'hat2) := List.getElem?_eq_getElem hat2
    generalize hs0 : fl[at_]'hat2 = s0 at es
    refine ⟨_, fun σ' H' z => z, _, rfl, pb, rfl, ⟨_, sL hb⟩, for_it (walk_list (K := K) (a := pb) (xs := ms.map vn)) (fun j σ Hc => ∃ (fl : List Nat) (kk : List (Key × V)) (u6 u7 : Option V), σ = [some (.ref a), some (.ref pd), some (.ref pb), some (.ref pf), some (.ref pk), some (vn at_), u6, u7, none, none, none] ∧ Fz N0 H Hc ∧ Hc pb = some (.lst (ms.map vn)) ∧ Hc pd = some (.lst ((dmL bs.length nd).map vn)) ∧ Hc pf = some (.lst (fl.map vn)) ∧ Hc pk = some (.dK kk) ∧ SM bs nd ms fl at_ j ∧ fl[at_]? = some s0 ∧ kk.length = fl.length ∧ ∀ s : Nat, valV kk (.inl (s : Int)) = if s ∈ fl then some (vn (if s = 0 then 1 else 0)) else none)
      ⟨fl, kk, _, _, rfl, fc, hb, hd, hf, hk, sm, es, lk, hv⟩ (fun j σ Hc _ z => by
        obtain ⟨_, _, _, _, _, _, z, _⟩ := z
        exact sL z) ?_ ?_⟩
    · rintro j y σ Hx Hc hj ⟨fl, kk, u6, u7, rfl, fc, hb, hd, hf, hk, sm, es, lk, hv⟩ ⟨rfl, hy⟩
      obtain ⟨b, hbj, rfl⟩ := vn_get' hy
      have lfl := hR fl sm.nodup sm.reach
      have hat3 := (List.getElem?_eq_some_iff.mp es).1
      refine ⟨_, rfl, _, rfl, pf, _, (at_ : Int), _, rfl, rfl, sL hf, atN (vn_get es), _, rfl, a, _, 0, _, rfl, rfl, sT (fc.tup ha), rfl, _, rfl, _, rfl, _, rfl, pf, _, (at_ : Int), _, rfl, rfl, sL hf, atN (vn_get es), _, rfl, _, pd, bs, nd, s0, b, rfl, pTN.go fc (tn_iff.mpr ⟨ab, rfl, hab⟩), hd, by omega, fun H6 f6 => ⟨_, _, rfl, rfl, ?_⟩⟩
      have hk6 := f6.dK hk
      have hf6 := f6.at hf fun z => z
      have hb6 := f6.at hb fun z => z
      have hd6 := f6.at hd fun z => z
      have f06 := fc.trans f6
      refine ⟨_, rfl, _, rfl, pk, _, rfl, DGo (s0 + lbr bs nd s0 b) hk6, _, rfl, ?_⟩
      rw [hv]
      by_cases hin : s0 + lbr bs nd s0 b ∈ fl
      · rw [if_pos hin]
        exact ⟨fl, kk, _, _, rfl, f06, hb6, hd6, hf6, hk6, sm.old es hbj (by rw [← lbr_add]; exact hin), es, lk, hv⟩
      · rw [if_neg hin]
        have smn := sm.new es hbj (by rw [← lbr_add]; exact hin)
        rw [← lbr_add] at smn
        have lfl2 := hR _ smn.nodup smn.reach
        rw [List.length_append, List.length_singleton] at lfl2
        have hno : valV kk (.inl ((s0 + lbr bs nd s0 b : Nat) : Int)) = none := by rw [hv, if_neg hin]
        have hn0 : s0 + lbr bs nd s0 b ≠ 0 := fun z => hin (by rw [z]; exact sm.zero)
        have lput : (putK kk (.inl ((s0 + lbr bs nd s0 b : Nat) : Int)) (.int 0)).length = kk.length + 1 := by rw [putK_new _ hno, List.length_append]; rfl
        refine ⟨_, rfl, _, rfl, pk, _, rfl, DPn (s0 + lbr bs nd s0 b) (.int 0) hk6 (by omega), ?_⟩
        have hf7 : (upd H6 pk (.dK (putK kk (.inl ((s0 + lbr bs nd s0 b : Nat) : Int)) (.int 0)))) pf = some (.lst (fl.map vn)) := by rw [upd_ne nfk]; exact hf6
        refine ⟨_, rfl, tyL hf7, _, rfl, pf, _, _, rfl, rfl, hf7, by rw [List.length_map]; exact szl (by omega), fl ++ [s0 + lbr bs nd s0 b], putK kk (.inl ((s0 + lbr bs nd s0 b : Nat) : Int)) (.int 0), _, _, rfl, (f06.mut frk' hk6).mut frf hf7, by rw [upd_ne nbf, upd_ne nbk]; exact hb6, by rw [upd_ne ndf, upd_ne ndk]; exact hd6, by rw [upd_same, List.map_append]; rfl, by rw [upd_ne nfk.symm, upd_same], smn, by rw [List.getElem?_append_left hat3]; exact es, by rw [lput, lk, List.length_append]; rfl, fun s => ?_⟩
        rw [vput]
        by_cases e : s = s0 + lbr bs nd s0 b
        · rw [if_pos e, if_pos (by simp [e]), if_neg (by rw [e]; exact hn0)]
          rfl
        · rw [if_neg e, hv]
          have : (s ∈ fl ++ [s0 + lbr bs nd s0 b]) ↔ s ∈ fl := by
            rw [List.mem_append, List.mem_singleton]
            exact ⟨fun z => z.resolve_right e, .inl⟩
          by_cases h : s ∈ fl
          · rw [if_pos h, if_pos (this.mpr h)]
          · rw [if_neg h, if_neg fun z => h (this.mp z)]
    · rintro σ Hc ⟨fl, kk, u6, u7, rfl, fc, hb, hd, hf, hk, sm, es, lk, hv⟩
      rw [List.length_map] at sm
      have hat3 := (List.getElem?_eq_some_iff.mp es).1
      have lfl := hR fl sm.nodup sm.reach
      exact ⟨_, rfl, _, _, rfl, rfl, _, by omega, fl, kk, at_ + 1, _, _, rfl, rfl, fc, hb, hd, hf, hk, sm.turn, by omega, lk, hv⟩
  · have e0 : decide ((at_ : Int) < ((fl.length : Nat) : Int)) = false := decide_eq_false (by omega)
    rw [e0]
    obtain rfl : at_ = fl.length := by omega
    -- sorted by their number of changes
    refine ⟨_, rfl, pf, rfl, ⟨_, sL hf⟩, fun D hD => lc_det (R := PN) (walk_list (K := K) (a := pf) (xs := fl.map vn)) pPN hD (by rw [List.length_map]; omega) (fun i => fl[i]?.bind fun s => some ((lotM s).length, s)) (fun H f => sL (f.at hf fun z => z)) (fun j x H6 H7 C Nx hj f6 hy k1 k2 => ?_) fun H6 f6 hl6 => ?_⟩
    · obtain ⟨rfl, hy⟩ := hy
      obtain ⟨n, hn, rfl⟩ := vn_get' hy
      have hlt64 : n < 2 ^ 64 := Nat.lt_of_lt_of_le (sm.reach n (List.mem_of_getElem? hn)).lt (Nat.pow_le_pow_right (by decide) (by omega))
      refine ⟨rfl, _, rfl, n, rfl, hlt64, fun lv H8 f8 hl => ?_⟩
      obtain ⟨al, rfl, hal⟩ := tn_iff.mp hl
      refine ⟨al, _, rfl, .inr (sT hal), _, rfl, sz (show 2 ≤ 100000 by decide), fun p hp => k1 _ _ ((lotM n).length, n) (by rw [hn]; rfl) (f8.snoc hp) ⟨p, _, _, rfl, upd_same, ?_, rfl⟩⟩
      rw [List.length_map]
      rfl
    have ez : (List.range (fl.map vn).length).filterMap (fun i => fl[i]?.bind fun s => some ((lotM s).length, s)) = fl.map fun s => ((lotM s).length, s) := by
      rw [List.length_map, fm_get]
      exact congrFun (List.filterMap_eq_map (f := fun s => ((lotM s).length, s))) _
    rw [ez] at hl6
    refine sort_po hl6 fun zs pz H8 hpm hpw f8 hl8 => ?_
    have mem : ∀ x ∈ zs, x.1 = (lotM x.2).length ∧ x.2 ∈ fl := fun x hx => by
      obtain ⟨s, hs, rfl⟩ := List.mem_map.mp (hpm.mem_iff.mp hx)
      exact ⟨rfl, hs⟩
    have mpm : (zs.map fun x => x.2).Perm fl := by
      have := hpm.map fun x : Nat × Nat => x.2
      rw [List.map_map] at this
      exact this.trans (by rw [show ((fun x : Nat × Nat => x.2) ∘ fun s => ((lotM s).length, s)) = id from rfl, List.map_id])
    generalize hml : (zs.map fun x => x.2) = ml at mpm
    have mnd : ml.Nodup := mpm.nodup_iff.mpr sm.nodup
    have lml : ml.length = zs.length := by rw [← hml, List.length_map]
    have mpw : ml.Pairwise fun x y => (lotM x).length ≤ (lotM y).length := by
      rw [← hml, List.pairwise_map]
      refine hpw.imp_of_mem fun {x y} hx hy h => ?_
      rw [← (mem x hx).1, ← (mem y hy).1]
      exact h
    have zat : ∀ i s, ml[i]? = some s → zs[i]? = some ((lotM s).length, s) := fun i s h => by
      rw [← hml, List.getElem?_map] at h
      cases hz : zs[i]? with
      | none => rw [hz] at h; cases h
      | some x =>
        rw [hz] at h
        obtain rfl := Option.some.inj h
        rw [← (mem x (List.mem_of_getElem? hz)).1]
    obtain ⟨vs, hz1, hz2⟩ := hl8
    have f68 := f6.trans f8
    have hk8 := f68.dK hk
    have hb8 := f68.at hb fun z => z
    have hd8 := f68.at hd fun z => z
    have nzk : pz ≠ pk := fun z => by rw [z, hk8] at hz1; cases hz1
    have lvs := plen hz2
    -- the sum
    have sum0 : (ml.map fun s => (if s = 0 then 1 else 0) * F s).sum = F 0 := by
      have h := sum_put (g := fun _ => 0) (F := F) (t := 0) (d := 1) mnd (mpm.mem_iff.mpr sm.zero)
      have h2 : (ml.map fun s => (fun _ => 0) s * F s).sum = 0 := sum_zero fun _ _ => rfl
      have h3 : (ml.map fun s => (if s = 0 then (fun _ => 0) s + 1 else (fun _ => 0) s) * F s) = ml.map fun s => (if s = 0 then 1 else 0) * F s := rfl
      rw [← h3, h, h2]
      omega
    refine ⟨pz, rfl, ⟨_, sL hz1⟩, for_it (walk_list (K := K) (a := pz) (xs := vs)) (fun i σ Hc => ∃ (kk : List (Key × V)) (kn : Nat → Nat) (u6 u7 u8 u9 : Option V), σ = [some (.ref a), some (.ref pd), some (.ref pb), some (.ref pf), some (.ref pk), some (vn fl.length), u6, u7, u8, u9, none] ∧ Fz N0 H Hc ∧ Hc pb = some (.lst (ms.map vn)) ∧ Hc pd = some (.lst ((dmL bs.length nd).map vn)) ∧ Hc pz = some (.lst vs) ∧ Paired (PN Hc) vs zs ∧ Hc pk = some (.dK kk) ∧ kk.length = fl.length ∧ (∀ s : Nat, s ∈ fl → valV kk (.inl (s : Int)) = some (vn (kn s))) ∧ ((ml.drop i).map fun s => kn s * F s).sum + (if 2 ^ bs.length - 1 ∈ ml.take i then kn (2 ^ bs.length - 1) else 0) = F 0)
      ⟨kk, fun s => if s = 0 then 1 else 0, _, _, none, none, rfl, fc.trans f68, hb8, hd8, hz1, hz2, hk8, lk, fun s hs => by rw [hv, if_pos hs], by rw [List.drop_zero, sum0, List.take_zero, if_neg (by simp)]; rfl⟩ (fun i σ Hc _ z => by
        obtain ⟨_, _, _, _, _, _, _, _, _, _, z, _⟩ := z
        exact sL z) ?_ ?_⟩
    · rintro i y σ Hx Hc hi ⟨kk, kn, u6, u7, u8, u9, rfl, fc, hb, hd, hz, hp, hk, lk, hv, hsum⟩ ⟨rfl, hy⟩
      obtain ⟨h, hmi⟩ : ∃ h, ml[i]? = some h := ⟨_, List.getElem?_eq_getElem (by omega)⟩
      obtain ⟨x, hx, e1, y1, y2, rfl, he1, r1, r2⟩ := pget hp hy
      rw [zat i h hmi] at hx
      obtain rfl := Option.some.inj hx
      obtain rfl := show y1 = vn (lotM h).length from r1
      obtain rfl := show y2 = vn h from r2
      have hmi1 := (List.getElem?_eq_some_iff.mp hmi).1
      have hmi2 := (List.getElem?_eq_some_iff.mp hmi).2
      have hhf : h ∈ fl := mpm.mem_iff.mp (List.mem_of_getElem? hmi)
      have hdrop : ml.drop i = h :: ml.drop (i + 1) := by rw [List.drop_eq_getElem_cons hmi1, hmi2]
      have ndd : (h :: ml.drop (i + 1)).Nodup := by rw [← hdrop]; exact mnd.sublist (List.drop_sublist _ _)
      refine ⟨e1, _, rfl, sT he1, rfl, _, _, rfl, _, _, rfl, rfl, ?_⟩
      refine ⟨_, rfl, pb, rfl, ⟨_, sL hb⟩, for_it (walk_list (K := K) (a := pb) (xs := ms.map vn)) (fun j σ Hc => ∃ (kk : List (Key × V)) (kn' : Nat → Nat) (u6 u7 : Option V), σ = [some (.ref a), some (.ref pd), some (.ref pb), some (.ref pf), some (.ref pk), some (vn fl.length), u6, u7, some (vn (lotM h).length), some (vn h), none] ∧ Fz N0 H Hc ∧ Hc pb = some (.lst (ms.map vn)) ∧ Hc pd = some (.lst ((dmL bs.length nd).map vn)) ∧ Hc pz = some (.lst vs) ∧ Paired (PN Hc) vs zs ∧ Hc pk = some (.dK kk) ∧ kk.length = fl.length ∧ (∀ s : Nat, s ∈ fl → valV kk (.inl (s : Int)) = some (vn (kn' s))) ∧ kn' h = kn h ∧ (∀ s ∈ ml.take i, kn' s = kn s) ∧
          ((ml.drop (i + 1)).map fun s => kn' s * F s).sum = ((ml.drop (i + 1)).map fun s => kn s * F s).sum + kn h * (((ms.take j).filter fun b => decide (0 < lbr bs nd h b)).map fun b => F (h ||| lbr bs nd h b)).sum)
        ⟨kk, kn, _, _, rfl, fc, hb, hd, hz, hp, hk, lk, hv, rfl, fun _ _ => rfl, by rw [List.take_zero]; simp⟩ (fun j σ Hc _ z => by
          obtain ⟨_, _, _, _, _, _, z, _⟩ := z
          exact sL z) ?_ ?_⟩
      · rintro j y σ Hx Hc hj ⟨kk, kn', u6, u7, rfl, fc, hb, hd, hz, hp, hk, lk, hv, hkh, hkt, hsm⟩ ⟨rfl, hy⟩
        obtain ⟨b, hbj, rfl⟩ := vn_get' hy
        have hbm := List.mem_of_getElem? hbj
        refine ⟨_, rfl, _, rfl, a, _, 0, _, rfl, rfl, sT (fc.tup ha), rfl, _, rfl, _, rfl, _, rfl, _, pd, bs, nd, h, b, rfl, pTN.go fc (tn_iff.mpr ⟨ab, rfl, hab⟩), hd, by omega, fun H9 f9 => ⟨_, _, rfl, rfl, ?_⟩⟩
        have hk9 := f9.dK hk
        have hb9 := f9.at hb fun z => z
        have hd9 := f9.at hd fun z => z
        have hz9 := f9.at hz fun z => z
        have hp9 := pPN.all f9 hp
        have f09 := fc.trans f9
        refine ⟨_, rfl, _, rfl, rfl, _, rfl, ?_⟩
        have ene : (!decide (V.int ((h : Int) + ((lbr bs nd h b : Nat) : Int)) = vn h)) = decide (0 < lbr bs nd h b) := by
          have : decide (V.int ((h : Int) + ((lbr bs nd h b : Nat) : Int)) = vn h) = decide (h + lbr bs nd h b = h) := dvn _ _
          rw [this]
          by_cases h0 : 0 < lbr bs nd h b
          · rw [decide_eq_true h0, decide_eq_false (by omega)]
            rfl
          · rw [decide_eq_false h0, decide_eq_true (by omega)]
            rfl
        show if (!decide (V.int ((h : Int) + ((lbr bs nd h b : Nat) : Int)) = vn h)) = true then _ else _
        rw [ene]
        have etk := take_succ_get hbj
        by_cases h0 : 0 < lbr bs nd h b
        · rw [if_pos (decide_eq_true h0)]
          have hin : h + lbr bs nd h b ∈ fl := by rw [lbr_add]; exact sm.all hhf hbm
          have hmore := ripe_more h0
          have hind : h + lbr bs nd h b ∈ ml.drop (i + 1) := by
            obtain ⟨j2, hj2, ej2⟩ := List.getElem_of_mem (mpm.mem_iff.mpr hin)
            have hgt : i < j2 := by
              refine Classical.byContradiction fun hge => ?_
              have hle : (lotM (h + lbr bs nd h b)).length ≤ (lotM h).length := by
                by_cases e : j2 = i
                · subst e
                  rw [hmi2] at ej2
                  rw [← ej2]
                  exact Nat.le_refl _
                · have := List.pairwise_iff_getElem.mp mpw j2 i hj2 hmi1 (by omega)
                  rw [ej2, hmi2] at this
                  exact this
              rw [lbr_add] at hle
              omega
            refine List.mem_iff_getElem.mpr ⟨j2 - (i + 1), by rw [List.length_drop]; omega, ?_⟩
            rw [List.getElem_drop]
            have : i + 1 + (j2 - (i + 1)) = j2 := by omega
            simp only [this]
            exact ej2
          have hne : h + lbr bs nd h b ≠ h := by omega
          have hnt : ∀ s ∈ ml.take i, s ≠ h + lbr bs nd h b := fun s hs z => by
            have h1 := List.nodup_append.mp (show (ml.take (i + 1) ++ ml.drop (i + 1)).Nodup by rw [List.take_append_drop]; exact mnd)
            exact h1.2.2 s (by rw [take_succ_get hmi]; exact List.mem_append_left _ hs) _ hind z
          have v1 := hv _ hin
          have v2 := hv _ hhf
          refine ⟨_, rfl, _, rfl, pk, _, rfl, DGn (n := h + lbr bs nd h b) hk9 v1, _, rfl, _, rfl, pk, _, rfl, DGn hk9 v2, _, _, rfl, rfl, _, rfl, _, rfl, pk, _, rfl, DPn (h + lbr bs nd h b) _ hk9 (by omega), ?_⟩
          refine ⟨putK kk (.inl ((h + lbr bs nd h b : Nat) : Int)) (vn (kn' (h + lbr bs nd h b) + kn' h)), fun s => if s = h + lbr bs nd h b then kn' s + kn h else kn' s, _, _, rfl, f09.mut frk' hk9, by rw [upd_ne nbk]; exact hb9, by rw [upd_ne ndk]; exact hd9, by rw [upd_ne nzk]; exact hz9, L2.Paired.mapP hp9 fun v x r => PN.upd hk9 (fun ys z => nomatch z) r, upd_same, by rw [length_put_old (by rw [v1]; rfl), lk], fun s hs => ?_, (if_neg fun z => hne z.symm).trans hkh, fun s hs => (if_neg (hnt s hs)).trans (hkt s hs), ?_⟩
          · rw [vput]
            show _ = some (vn (if s = h + lbr bs nd h b then kn' s + kn h else kn' s))
            by_cases e : s = h + lbr bs nd h b
            · rw [if_pos e, if_pos e, e, hkh]
            · rw [if_neg e, if_neg e]
              exact hv s hs
          · rw [sum_put (List.nodup_cons.mp ndd).2 hind, hsm, etk, List.filter_append, List.map_append, List.sum_append]
            have : ([b].filter fun b => decide (0 < lbr bs nd h b)) = [b] := by
              exact List.filter_cons_of_pos (p := fun b => decide (0 < lbr bs nd h b)) (decide_eq_true h0)
            have eo : F (h ||| lbr bs nd h b) = F (h + lbr bs nd h b) := by rw [lbr_add]
            rw [this, List.map_cons, List.map_nil, List.sum_cons, List.sum_nil, Nat.add_zero, Nat.mul_add, eo]
            exact Nat.add_assoc _ _ _
        · rw [if_neg (by rw [decide_eq_false h0]; decide)]
          refine ⟨kk, kn', _, _, rfl, f09, hb9, hd9, hz9, hp9, hk9, lk, hv, hkh, hkt, ?_⟩
          rw [hsm, etk, List.filter_append]
          have : ([b].filter fun b => decide (0 < lbr bs nd h b)) = [] := by
            exact List.filter_cons_of_neg (p := fun b => decide (0 < lbr bs nd h b)) (by rw [decide_eq_false h0]; decide)
          rw [this, List.append_nil]
      · rintro σ Hc ⟨kk, kn', u6, u7, rfl, fc, hb, hd, hz, hp, hk, lk, hv, hkh, hkt, hsm⟩
        rw [List.length_map, List.take_length] at hsm
        refine ⟨kk, kn', _, _, _, _, rfl, fc, hb, hd, hz, hp, hk, lk, hv, ?_⟩
        rw [hdrop, List.map_cons, List.sum_cons] at hsum
        have eF := hF h (sm.reach h hhf)
        have etk := take_succ_get hmi
        by_cases hhall : h = 2 ^ bs.length - 1
        · subst hhall
          rw [if_pos rfl] at eF
          have hnin : 2 ^ bs.length - 1 ∉ ml.take i := fun z => by
            have h1 := List.nodup_append.mp (show (ml.take i ++ [2 ^ bs.length - 1]).Nodup by rw [← etk]; exact mnd.sublist (List.take_sublist _ _))
            exact h1.2.2 _ z _ (List.mem_singleton.mpr rfl) rfl
          rw [if_neg hnin, eF] at hsum
          rw [etk, if_pos (by simp), hsm, hkh]
          have hno : (ms.filter fun b => decide (0 < lbr bs nd (2 ^ bs.length - 1) b)) = [] := List.filter_eq_nil_iff.mpr fun b _ => by
            rw [lbr_all]
            decide
          rw [hno, List.map_nil, List.sum_nil]
          omega
        · rw [if_neg hhall] at eF
          rw [hsm, ← eF]
          have e2 : (2 ^ bs.length - 1 ∈ ml.take (i + 1)) ↔ 2 ^ bs.length - 1 ∈ ml.take i := by
            rw [etk, List.mem_append, List.mem_singleton]
            exact ⟨fun z => z.resolve_right fun q => hhall q.symm, .inl⟩
          by_cases hin : 2 ^ bs.length - 1 ∈ ml.take i
          · rw [if_pos hin] at hsum
            rw [if_pos (e2.mpr hin), hkt _ hin]
            omega
          · rw [if_neg hin] at hsum
            rw [if_neg fun z => hin (e2.mp z)]
            omega
    · rintro σ Hc ⟨kk, kn, u6, u7, u8, u9, rfl, fc, hb, hd, hz, hp, hk, lk, hv, hsum⟩
      rw [lvs, ← lml, List.drop_length, List.take_length, List.map_nil, List.sum_nil, Nat.zero_add] at hsum
      have hallin : 2 ^ bs.length - 1 ∈ fl := sm.cover hall
      rw [if_pos (mpm.mem_iff.mpr hallin)] at hsum
      have v1 := hv _ hallin
      rw [hsum] at v1
      have e1 : V.int (((2 ^ bs.length : Nat) : Int) - 1) = vn (2 ^ bs.length - 1) := by
        have := Nat.two_pow_pos bs.length
        show V.int _ = V.int _
        congr 1
        omega
      refine ⟨_, rfl, _, rfl, a, _, 0, _, rfl, rfl, sT (fc.tup ha), rfl, ab, _, rfl, .inr (sT (fc.tup hab)), bs.length, rfl, by rw [List.length_map], by omega, ((2 ^ bs.length : Nat) : Int), 1, rfl, rfl, pk, vn (F 0), rfl, ?_, q Hc fc⟩
      show DGet Hc pk (V.int (((2 ^ bs.length : Nat) : Int) - 1)) _
      rw [e1]
      exact DGn hk v1
end
end Rw

/-! Needs that a log tells back. -/
namespace Rw
/-- a log of these blocks (LogOk's plain part) -/
structure LogP (bs : List Nat) (log : List (Nat × List Nat)) : Prop where
  ne : ∀ e ∈ log, e.2 ≠ []
  srt : ∀ e ∈ log, e.2.Pairwise (· < ·)
  blk : ∀ e ∈ log, ∀ c ∈ e.2, bs[c]? = some e.1
  part : (log.map (·.2)).flatten.Perm (List.range bs.length)
  adj : ∀ i e e', log[i]? = some e → log[i + 1]? = some e' → e.1 ≠ e'.1
section
variable {bs : List Nat} {log : List (Nat × List Nat)} {nd : List (Nat × Nat)}
theorem LogP.uniq (h : LogP bs log) : ((log.map fun e => e.2).flatten).Nodup := h.part.nodup_iff.mpr List.nodup_range
theorem LogP.get (h : LogP bs log) {c : Nat} (hc : c < bs.length) : ∃ e, log[tim log c]? = some e ∧ c ∈ e.2 ∧ bs[c]? = some e.1 := by
  have h1 : c ∈ (log.map fun e => e.2).flatten := h.part.mem_iff.mpr (List.mem_range.mpr hc)
  obtain ⟨l, hl, hcl⟩ := List.mem_flatten.mp h1
  obtain ⟨e, he, rfl⟩ := List.mem_map.mp hl
  obtain ⟨i, hi, hie⟩ := List.getElem_of_mem he
  have he2 : log[i]? = some e := by rw [List.getElem?_eq_getElem hi, hie]
  rw [tim_at h.uniq he2 hcl]
  exact ⟨e, he2, hcl, h.blk e he c hcl⟩
theorem LogP.lt (h : LogP bs log) {i : Nat} {e : Nat × List Nat} {c : Nat} (he : log[i]? = some e) (hc : c ∈ e.2) : c < bs.length :=
  (List.getElem?_eq_some_iff.mp (h.blk e (List.mem_of_getElem? he) c hc)).1
theorem LogP.bro (h : LogP bs log) {i c : Nat} (hc : c < bs.length) : c ∈ bro log i ↔ tim log c < i := by
  obtain ⟨e, h1, h2, _⟩ := h.get hc
  rw [mem_bro]
  constructor
  · rintro ⟨j, e', g1, g2, g3⟩
    rw [tim_at h.uniq g2 g3]
    exact g1
  · intro g
    exact ⟨_, e, g, h1, h2⟩
theorem LogP.st (h : LogP bs log) {i c : Nat} (hc : c < bs.length) : (stM log i).testBit c = true ↔ tim log c < i := by
  rw [stM_bit, h.bro hc]
/-- needs that the log tells back -/
structure Good (bs : List Nat) (log : List (Nat × List Nat)) (nd : List (Nat × Nat)) : Prop where
  lt : ∀ p ∈ nd, p.1 < bs.length ∧ p.2 < bs.length ∧ tim log p.2 < tim log p.1
  late : ∀ c b j, c < bs.length → bs[c]? = some b → lastW log (tim log c) b = some j → ∃ d, (c, d) ∈ nd ∧ j < tim log d
/-- who of block b comes later than i needs one that came between its block's writes, of another block -/
theorem Good.key (h : LogP bs log) (g : Good bs log nd) {i : Nat} {e : Nat × List Nat} (he : log[i]? = some e) {k : Nat} (hk : bs[k]? = some e.1) (hik : i < tim log k) : ∃ d, (k, d) ∈ nd ∧ i < tim log d ∧ bs[d]? ≠ some e.1 := by
  have hkl := (List.getElem?_eq_some_iff.mp hk).1
  cases hl : lastW log (tim log k) e.1 with
  | none =>
    have := lastW_none hl i hik
    rw [he] at this
    exact absurd rfl this
  | some j =>
    obtain ⟨h1, h2, h3⟩ := lastW_lt hl
    have hij : i ≤ j := Classical.byContradiction fun n => by
      have := h3 i (by omega) hik
      rw [he] at this
      exact this rfl
    obtain ⟨d, hd, hjd⟩ := g.late k e.1 j hkl hk hl
    obtain ⟨_, hdl, hdk⟩ := g.lt _ hd
    refine ⟨d, hd, by omega, fun z => ?_⟩
    obtain ⟨e', g1, g2, g3⟩ := h.get hdl
    have hz : e'.1 = e.1 := Option.some.inj (g3.symm.trans z)
    have := h3 (tim log d) hjd hdk
    rw [g1] at this
    exact this (congrArg some hz)
theorem Good.lbr (h : LogP bs log) (g : Good bs log nd) {i : Nat} {e : Nat × List Nat} (he : log[i]? = some e) : lbr bs nd (stM log i) e.1 = mskL e.2 := bits_ext fun k => by
  rw [lbr_bit, mskL_bit]
  constructor
  · rintro ⟨X, hX, hk⟩
    obtain ⟨h1, h2, h3⟩ := hX k hk
    have hkl := (List.getElem?_eq_some_iff.mp h1).1
    rw [h.st hkl] at h2
    by_cases e1 : tim log k = i
    · obtain ⟨e', g1, g2, _⟩ := h.get hkl
      rw [e1, he] at g1
      rw [Option.some.inj g1]
      exact g2
    · obtain ⟨d, hd, hid, hdb⟩ := g.key h he h1 (by omega)
      have hdl : d < bs.length := (g.lt _ hd).2.1
      rcases h3 d hd with q | q
      · rw [h.st hdl] at q
        omega
      · exact absurd (hX d q).1 hdb
  · intro hk
    refine ⟨fun c => c ∈ e.2, fun c hc => ⟨h.blk e (List.mem_of_getElem? he) c hc, ?_, fun d hd => ?_⟩, hk⟩
    · rw [h.st (h.lt he hc), tim_at h.uniq he hc]
      omega
    · obtain ⟨_, hdl, hdt⟩ := g.lt _ hd
      rw [h.st hdl]
      have hdt : tim log d < tim log c := hdt
      rw [tim_at h.uniq he hc] at hdt
      exact .inl hdt
theorem Good.beneath (g : Good bs log nd) {c d : Nat} (b : Beneath nd c d) : tim log d < tim log c := by
  induction b with
  | one h => exact (g.lt _ h).2.2
  | more h _ ih =>
    have := (g.lt _ h).2.2
    exact Nat.lt_trans ih this
theorem Beneath.last {c d : Nat} (b : Beneath nd c d) : ∃ e, (e, d) ∈ nd := by
  induction b with
  | one h => exact ⟨_, h⟩
  | more _ _ ih => exact ih
/-- by the masks of what lies beneath, too -/
theorem Good.brW (h : LogP bs log) (g : Good bs log nd) {bn : List Nat} (hbn : BN nd bs.length bn) {i : Nat} {e : Nat × List Nat} (he : log[i]? = some e) : brW bs bn (stM log i) e.1 = mskL e.2 := bits_ext fun k => by
  rw [brW_bit, mskL_bit]
  have hb : ∀ k d, k < bs.length → ((bn.getD k 0).testBit d = true ↔ Beneath nd k d) := fun k d hk => by
    have e1 : bn[k]? = some (bn.getD k 0) := by
      have hk' : k < bn.length := by rw [hbn.1]; exact hk
      rw [List.getD_eq_getElem?_getD, List.getElem?_eq_getElem hk']
      rfl
    exact hbn.2 k _ e1 d
  constructor
  · rintro ⟨h1, h2, h3⟩
    have hkl := (List.getElem?_eq_some_iff.mp h1).1
    rw [h.st hkl] at h2
    by_cases e1 : tim log k = i
    · obtain ⟨e', g1, g2, _⟩ := h.get hkl
      rw [e1, he] at g1
      rw [Option.some.inj g1]
      exact g2
    · obtain ⟨d, hd, hid, hdb⟩ := g.key h he h1 (by omega)
      have hdl : d < bs.length := (g.lt _ hd).2.1
      rcases h3 d ((hb k d hkl).mpr (.one hd)) with q | q
      · rw [h.st hdl] at q
        omega
      · exact absurd q hdb
  · intro hk
    have hkl := h.lt he hk
    refine ⟨h.blk e (List.mem_of_getElem? he) k hk, ?_, fun d hd => ?_⟩
    · rw [h.st hkl, tim_at h.uniq he hk]
      omega
    · have hd := (hb k d hkl).mp hd
      obtain ⟨e', he'⟩ := hd.last
      have ht := g.beneath hd
      rw [tim_at h.uniq he hk] at ht
      exact .inl ((h.st (g.lt _ he').2.1).mpr ht)
/-- the row's log is the log -/
theorem Good.relog (h : LogP bs log) (g : Good bs log nd) : logA bs nd 0 (log.map fun e => e.1) = log := by
  have main : ∀ i, i ≤ log.length → logA bs nd 0 ((log.map fun e => e.1).take i) = log.take i ∧ stA bs nd 0 ((log.map fun e => e.1).take i) = stM log i := by
    intro i
    induction i with
    | zero =>
      intro _
      refine ⟨by rw [List.take_zero, List.take_zero]; rfl, ?_⟩
      rw [List.take_zero]
      unfold stA stM bro
      rw [List.take_zero]
      rfl
    | succ i ih =>
      intro hi
      obtain ⟨h1, h2⟩ := ih (by omega)
      have e1 : log[i]? = some (log[i]'(by omega)) := List.getElem?_eq_getElem _
      have e2 : (log.map fun e => e.1)[i]? = some (log[i]'(by omega)).1 := by rw [List.getElem?_map, e1]; rfl
      rw [take_succ_get e2, logA_snoc, stA_snoc, h1, h2, g.lbr h e1, take_succ_get e1, stM_succ e1]
      refine ⟨?_, rfl⟩
      rw [lotM_mskL (h.srt _ (List.getElem_mem _))]
  have := (main log.length (Nat.le_refl _)).1
  rw [List.take_length, show log.length = (log.map fun e => e.1).length by rw [List.length_map], List.take_length] at this
  exact this
/-- a late change has a need in every book that makes the log -/
theorem late_need (h : LogP bs log) (hl : ∀ i e, log[i]? = some e → lbr bs nd (stM log i) e.1 = mskL e.2) {c b j : Nat} (hc : c < bs.length) (hb : bs[c]? = some b) (hj : lastW log (tim log c) b = some j) : ∃ d, (c, d) ∈ nd := by
  refine Classical.byContradiction fun n => ?_
  obtain ⟨h1, h2, _⟩ := lastW_lt hj
  cases he : log[j]? with
  | none => rw [he] at h2; cases h2
  | some e =>
    rw [he] at h2
    have hbe : e.1 = b := Option.some.inj h2
    have hin : InBr bs nd (stM log j) e.1 c := ⟨fun x => x = c, fun x hx => by
      rw [hx, hbe]
      refine ⟨hb, ?_, fun d hd => absurd ⟨d, hd⟩ n⟩
      rw [h.st hc]
      omega, rfl⟩
    have := lbr_bit.mpr hin
    rw [hl j e he, mskL_bit] at this
    have := tim_at h.uniq he this
    omega
end
end Rw

/-! The hidden books' logs, the freest and the fullest book. -/
namespace Rw
theorem LogOk.p {bs : List Nat} {log : List (Nat × List Nat)} (h : LogOk bs log) : LogP bs log := ⟨h.ne, h.srt, h.blk, h.part, h.adj⟩
theorem logA_get (bs : List Nat) (nd : List (Nat × Nat)) : ∀ (row : List Nat) (S : Nat) (i : Nat), (logA bs nd S row)[i]? = row[i]?.map fun b => (b, lotM (lbr bs nd (stA bs nd S (row.take i)) b))
  | [], _, _ => by simp [logA]
  | b :: r, S, 0 => rfl
  | b :: r, S, i + 1 => by
    show (logA bs nd (S ||| lbr bs nd S b) r)[i]? = r[i]?.map _
    rw [logA_get bs nd r]
    rfl
section
variable {bs : List Nat} {nd : List (Nat × Nat)} {S b : Nat}
/-- nothing more of b comes behind a write of b -/
theorem lbr_again : lbr bs nd (S ||| lbr bs nd S b) b = 0 := bits_ext fun k => by
  constructor
  · intro h
    obtain ⟨X, hX, hk⟩ := lbr_bit.mp h
    obtain ⟨_, h2, _⟩ := hX k hk
    have hin : InBr bs nd S b k := ⟨fun c => X c ∨ InBr bs nd S b c, fun c hc => ?_, .inl hk⟩
    · rw [Nat.testBit_or, Bool.or_eq_true, lbr_bit] at h2
      exact absurd (.inr hin) h2
    · rcases hc with hc | hc
      · obtain ⟨g1, g2, g3⟩ := hX c hc
        rw [Nat.testBit_or, Bool.or_eq_true, lbr_bit] at g2
        refine ⟨g1, fun z => g2 (.inl z), fun d hd => ?_⟩
        rcases g3 d hd with q | q
        · rw [Nat.testBit_or, Bool.or_eq_true, lbr_bit] at q
          rcases q with q | q
          · exact .inl q
          · exact .inr (.inr q)
        · exact .inr (.inl q)
      · obtain ⟨g1, g2, g3⟩ := inBr_sup bs nd S b c hc
        exact ⟨g1, g2, fun d hd => (g3 d hd).imp_right .inr⟩
  · intro h
    simp at h
/-- as long as something is missing, something is ripe -/
theorem some_ripe (rk : Nat → Nat) (hrk : ∀ p ∈ nd, p.1 < bs.length ∧ p.2 < bs.length ∧ rk p.2 < rk p.1) {c : Nat} (hc : c < bs.length) (hS : ¬ S.testBit c = true) : ∃ b, b ∈ bs ∧ 0 < lbr bs nd S b := by
  have main : ∀ r c, rk c < r → c < bs.length → ¬ S.testBit c = true → ∃ b, b ∈ bs ∧ 0 < lbr bs nd S b := by
    intro r
    induction r with
    | zero => intro c h; omega
    | succ r ih =>
      intro c h hc hS
      by_cases hn : ∃ d, (c, d) ∈ nd ∧ ¬ S.testBit d = true
      · obtain ⟨d, hd, hdS⟩ := hn
        have := hrk _ hd
        have h1 : rk d < rk c := this.2.2
        exact ih d (by omega) this.2.1 hdS
      · have eb : bs[c]? = some (bs[c]) := List.getElem?_eq_getElem hc
        refine ⟨bs[c], List.getElem_mem hc, ?_⟩
        have hin : InBr bs nd S bs[c] c := ⟨fun x => x = c, fun x hx => by
          rw [hx]
          refine ⟨eb, hS, fun d hd => .inl (Classical.byContradiction fun q => hn ⟨d, hd, q⟩)⟩, rfl⟩
        refine Nat.pos_of_ne_zero fun z => ?_
        have := lbr_bit.mpr hin
        rw [z] at this
        simp at this
  exact main _ c (Nat.lt_succ_self _) hc hS
end
/-- the log of a willing row -/
theorem willing_log {bs : List Nat} {nd : List (Nat × Nat)} {row : List Nat} (hd : Drawn bs.length nd) (wr : WRow bs nd row) (few : bs.length < 12) (val : ∀ b ∈ bs, b < 50) : LogOk bs (logA bs nd 0 row) := by
  obtain ⟨rk, hrk⟩ := hd
  have hget : ∀ i e, (logA bs nd 0 row)[i]? = some e → row[i]? = some e.1 ∧ e.2 = lotM (lbr bs nd (stA bs nd 0 (row.take i)) e.1) := fun i e h => by
    rw [logA_get] at h
    cases hr : row[i]? with
    | none => rw [hr] at h; cases h
    | some b =>
      rw [hr] at h
      obtain rfl := Option.some.inj h
      exact ⟨rfl, rfl⟩
  have hlen := logA_len bs nd row 0
  -- what has come
  have hbro : ∀ i, i ≤ row.length → (bro (logA bs nd 0 row) i).Nodup ∧ (∀ c, c ∈ bro (logA bs nd 0 row) i ↔ (stA bs nd 0 (row.take i)).testBit c = true) ∧ i ≤ (lotM (stA bs nd 0 (row.take i))).length ∧ stA bs nd 0 (row.take i) < 2 ^ bs.length := by
    intro i
    induction i with
    | zero =>
      intro _
      rw [List.take_zero]
      refine ⟨.nil, fun c => ?_, Nat.zero_le _, Nat.two_pow_pos _⟩
      unfold bro stA
      simp
    | succ i ih =>
      intro hi
      obtain ⟨h1, h2, h3, h4⟩ := ih (by omega)
      have er : row[i]? = some (row[i]'(by omega)) := List.getElem?_eq_getElem _
      have el : (logA bs nd 0 row)[i]? = some (row[i]'(by omega), lotM (lbr bs nd (stA bs nd 0 (row.take i)) (row[i]'(by omega)))) := by rw [logA_get, er]; rfl
      obtain ⟨_, hpos⟩ := wr.brings i _ er
      rw [bro_succ el, take_succ_get er, stA_snoc]
      refine ⟨?_, fun c => ?_, ?_, Nat.or_lt_two_pow h4 lbr_lt⟩
      · rw [List.nodup_append]
        refine ⟨h1, nodup_of_lt (lotM_sorted _), fun x hx y hy q => ?_⟩
        have hy2 := inBr_sup bs nd _ _ y (lbr_bit.mp (mem_lotM.mp hy))
        rw [q] at hx
        exact hy2.2.1 ((h2 y).mp hx)
      · rw [List.mem_append, h2, Nat.testBit_or, Bool.or_eq_true, mem_lotM]
      · have := ripe_more hpos
        omega
  obtain ⟨g1, g2, g3, g4⟩ := hbro row.length (Nat.le_refl _)
  rw [List.take_length] at g2 g3 g4
  -- all have come
  have hall : ∀ c, c < bs.length → (stA bs nd 0 row).testBit c = true := fun c hc => Classical.byContradiction fun n => by
    rcases wr.ends with e | e
    · have nd2 : (lotM (stA bs nd 0 row) ++ [c]).Nodup := by
        rw [List.nodup_append]
        refine ⟨nodup_of_lt (lotM_sorted _), List.pairwise_singleton _ _, fun x hx y hy q => ?_⟩
        rw [List.mem_singleton] at hy
        rw [q, hy] at hx
        exact n (mem_lotM.mp hx)
      have := nodup_sub (b := List.range bs.length) nd2 fun x hx => by
        rcases List.mem_append.mp hx with z | z
        · refine List.mem_range.mpr (Classical.byContradiction fun q => ?_)
          have h1 := Nat.testBit_lt_two_pow (Nat.lt_of_lt_of_le g4 (Nat.pow_le_pow_right (by decide) (show bs.length ≤ x by omega)))
          rw [mem_lotM.mp z] at h1
          cases h1
        · rw [List.mem_singleton.mp z]; exact List.mem_range.mpr hc
      rw [List.length_append, List.length_singleton, List.length_range] at this
      omega
    · obtain ⟨b, hb, hp⟩ := some_ripe (nd := nd) rk hrk hc n
      rw [e b hb] at hp
      omega
  have hflat : ((logA bs nd 0 row).map fun e => e.2).flatten = bro (logA bs nd 0 row) row.length := by
    unfold bro
    rw [← hlen, List.take_length]
  refine ⟨fun e he => ?_, fun e he => ?_, fun e he c hc => ?_, ?_, fun i e e' h1 h2 => ?_, few, val⟩
  · obtain ⟨i, hi⟩ := List.getElem?_of_mem he
    obtain ⟨h1, h2⟩ := hget i e hi
    obtain ⟨_, hp⟩ := wr.brings i _ h1
    obtain ⟨k, hk⟩ := some_bit hp
    rw [h2]
    intro z
    have := mem_lotM.mpr hk
    rw [z] at this
    cases this
  · obtain ⟨i, hi⟩ := List.getElem?_of_mem he
    rw [(hget i e hi).2]
    exact lotM_sorted _
  · obtain ⟨i, hi⟩ := List.getElem?_of_mem he
    rw [(hget i e hi).2, mem_lotM] at hc
    exact (inBr_sup bs nd _ _ c (lbr_bit.mp hc)).1
  · show ((logA bs nd 0 row).map fun e => e.2).flatten.Perm _
    rw [hflat]
    refine (List.perm_ext_iff_of_nodup g1 List.nodup_range).mpr fun c => ?_
    rw [g2, List.mem_range]
    refine ⟨fun h => Classical.byContradiction fun q => ?_, hall c⟩
    have h1 := Nat.testBit_lt_two_pow (Nat.lt_of_lt_of_le g4 (Nat.pow_le_pow_right (by decide) (show bs.length ≤ c by omega)))
    rw [h] at h1
    cases h1
  · obtain ⟨r1, _⟩ := hget i e h1
    obtain ⟨r2, _⟩ := hget (i + 1) e' h2
    intro z
    obtain ⟨_, hp⟩ := wr.brings (i + 1) _ r2
    rw [take_succ_get r1, stA_snoc, ← z, lbr_again] at hp
    omega
/-- a willing row's log is what its book brings -/
theorem willing_brings {bs : List Nat} {nd : List (Nat × Nat)} {row : List Nat} (lg : LogP bs (logA bs nd 0 row)) : ∀ i e, (logA bs nd 0 row)[i]? = some e → lbr bs nd (stM (logA bs nd 0 row) i) e.1 = mskL e.2 := by
  have hst : ∀ i, i ≤ row.length → stA bs nd 0 (row.take i) = stM (logA bs nd 0 row) i := by
    intro i
    induction i with
    | zero =>
      intro _
      rw [List.take_zero]
      unfold stA stM bro
      rw [List.take_zero]
      rfl
    | succ i ih =>
      intro hi
      have er : row[i]? = some (row[i]'(by omega)) := List.getElem?_eq_getElem _
      have el : (logA bs nd 0 row)[i]? = some (row[i]'(by omega), lotM (lbr bs nd (stA bs nd 0 (row.take i)) (row[i]'(by omega)))) := by rw [logA_get, er]; rfl
      rw [take_succ_get er, stA_snoc, stM_succ el, ih (by omega)]
      congr 1
      exact bits_ext fun k => by rw [mskL_bit, mem_lotM]
  intro i e h
  rw [logA_get] at h
  cases hr : row[i]? with
  | none => rw [hr] at h; cases h
  | some b =>
    rw [hr] at h
    obtain rfl := Option.some.inj h
    have hi := (List.getElem?_eq_some_iff.mp hr).1
    rw [← hst i (by omega)]
    exact bits_ext fun k => by rw [mskL_bit, mem_lotM]
theorem mem_btw {log : List (Nat × List Nat)} {j i c : Nat} : c ∈ btw log j i ↔ ∃ k e, j < k ∧ k < i ∧ log[k]? = some e ∧ c ∈ e.2 := by
  unfold btw
  rw [List.mem_flatten]
  constructor
  · rintro ⟨l, hl, hc⟩
    obtain ⟨e, he, rfl⟩ := List.mem_map.mp hl
    obtain ⟨m, hm⟩ := List.getElem?_of_mem he
    rw [List.getElem?_drop, List.getElem?_take] at hm
    split at hm
    · rename_i hlt
      exact ⟨j + 1 + m, e, by omega, hlt, hm, hc⟩
    · cases hm
  · rintro ⟨k, e, h1, h2, h3, h4⟩
    refine ⟨e.2, List.mem_map.mpr ⟨e, ?_, rfl⟩, h4⟩
    have : ((log.take i).drop (j + 1))[k - (j + 1)]? = some e := by
      rw [List.getElem?_drop, List.getElem?_take, show j + 1 + (k - (j + 1)) = k by omega, if_pos h2]
      exact h3
    exact List.mem_of_getElem? this
theorem mem_lateL {log : List (Nat × List Nat)} {p : Nat × List Nat} : ∀ {i : Nat}, i ≤ log.length → (p ∈ lateL log i ↔ ∃ m x j, m < i ∧ log[m]? = some x ∧ lastW log m x.1 = some j ∧ p.1 ∈ x.2 ∧ p.2 = lotM (mskL (btw log j m)))
  | 0, _ => by simp [lateL]
  | i + 1, hi => by
    have e : log[i]? = some (log[i]'(by omega)) := List.getElem?_eq_getElem _
    rw [lateL_succ e, List.mem_append, mem_lateL (by omega)]
    constructor
    · rintro (⟨m, x, j, h1, h2, h3, h4, h5⟩ | h)
      · exact ⟨m, x, j, by omega, h2, h3, h4, h5⟩
      · cases hj : lastW log i (log[i]'(by omega)).1 with
        | none => rw [hj] at h; cases h
        | some j =>
          rw [hj] at h
          obtain ⟨c, hc, rfl⟩ := List.mem_map.mp h
          exact ⟨i, _, j, by omega, e, hj, hc, rfl⟩
    · rintro ⟨m, x, j, h1, h2, h3, h4, h5⟩
      by_cases q : m = i
      · subst q
        rw [e] at h2
        obtain rfl := Option.some.inj h2
        refine .inr ?_
        rw [h3]
        exact List.mem_map.mpr ⟨p.1, h4, Prod.ext rfl h5.symm⟩
      · exact .inl ⟨m, x, j, by omega, h2, h3, h4, h5⟩
section
variable {bs : List Nat} {log : List (Nat × List Nat)}
/-- a change is late -/
def Late (bs : List Nat) (log : List (Nat × List Nat)) (c : Nat) : Prop := ∃ b j, bs[c]? = some b ∧ lastW log (tim log c) b = some j
theorem late_iff (ok : LogOk bs log) {c : Nat} : c ∈ (lateL log log.length).map (fun e => e.1) ↔ c < bs.length ∧ Late bs log c := by
  constructor
  · intro h
    obtain ⟨p, hp, rfl⟩ := List.mem_map.mp h
    obtain ⟨m, x, j, h1, h2, h3, h4, h5⟩ := (mem_lateL (Nat.le_refl _)).mp hp
    have hb := ok.blk x (List.mem_of_getElem? h2) _ h4
    exact ⟨(List.getElem?_eq_some_iff.mp hb).1, x.1, j, hb, by rw [tim_at ok.nd h2 h4]; exact h3⟩
  · rintro ⟨hc, b, j, h1, h2⟩
    obtain ⟨e, g1, g2, g3⟩ := ok.p.get hc
    have : e.1 = b := Option.some.inj (g3.symm.trans h1)
    exact List.mem_map.mpr ⟨(c, lotM (mskL (btw log j (tim log c)))), (mem_lateL (Nat.le_refl _)).mpr ⟨_, e, j, (List.getElem?_eq_some_iff.mp g1).1, g1, by rw [this]; exact h2, g2, rfl⟩, rfl⟩
theorem lateL_nodup (ok : LogOk bs log) : ((lateL log log.length).map fun e => e.1).Nodup := (ok.nd.sublist (bro_sub log log.length)).sublist (lateL_sub (Nat.le_refl _))
/-- the freest needs -/
theorem mem_freeN (ok : LogOk bs log) {p : Nat × Nat} (h : p ∈ freeN log) : ∃ b j, bs[p.1]? = some b ∧ lastW log (tim log p.1) b = some j ∧ p.2 ∈ btw log j (tim log p.1) := by
  obtain ⟨e, he, rfl⟩ := List.mem_map.mp h
  obtain ⟨m, x, j, h1, h2, h3, h4, h5⟩ := (mem_lateL (Nat.le_refl _)).mp he
  have hne := lateL_ne ok.ne ok.adj (Nat.le_refl _) e he
  have hb := ok.blk x (List.mem_of_getElem? h2) _ h4
  refine ⟨x.1, j, hb, by rw [tim_at ok.nd h2 h4]; exact h3, ?_⟩
  show e.2.headD 0 ∈ btw log j (tim log e.1)
  rw [tim_at ok.nd h2 h4]
  have : e.2.headD 0 ∈ e.2 := by
    cases hh : e.2 with
    | nil => exact absurd hh hne
    | cons a l => exact List.mem_cons_self
  rw [h5] at this ⊢
  exact mskL_bit.mp (mem_lotM.mp this)
theorem good_free (ok : LogOk bs log) {nd : List (Nat × Nat)} (h : ∀ p, p ∈ nd ↔ p ∈ freeN log) : Good bs log nd := by
  refine ⟨fun p hp => ?_, fun c b j hc hb hj => ?_⟩
  · obtain ⟨b, j, h1, h2, h3⟩ := mem_freeN ok ((h p).mp hp)
    obtain ⟨k, e, g1, g2, g3, g4⟩ := mem_btw.mp h3
    refine ⟨(List.getElem?_eq_some_iff.mp h1).1, ok.p.lt g3 g4, ?_⟩
    rw [tim_at ok.nd g3 g4]
    exact g2
  · obtain ⟨e, he, ec⟩ := List.mem_map.mp ((late_iff ok).mpr ⟨hc, b, j, hb, hj⟩)
    have hp : (c, e.2.headD 0) ∈ freeN log := List.mem_map.mpr ⟨e, he, by rw [ec]⟩
    obtain ⟨b', j', h1, h2, h3⟩ := mem_freeN ok hp
    have h1 : bs[c]? = some b' := h1
    rw [hb] at h1
    obtain rfl := Option.some.inj h1
    have h2 : lastW log (tim log c) b = some j' := h2
    rw [hj] at h2
    obtain rfl := Option.some.inj h2
    obtain ⟨k, e', g1, g2, g3, g4⟩ := mem_btw.mp h3
    exact ⟨_, (h _).mpr hp, by
      have g4 : e.2.headD 0 ∈ e'.2 := g4
      rw [tim_at ok.nd g3 g4]
      exact g1⟩
theorem good_full (ok : LogOk bs log) {nd : List (Nat × Nat)} (h : ∀ p, p ∈ nd ↔ FullN bs log p) : Good bs log nd := by
  refine ⟨fun p hp => (h p).mp hp, fun c b j hc hb hj => ?_⟩
  obtain ⟨e, he, ec⟩ := List.mem_map.mp ((late_iff ok).mpr ⟨hc, b, j, hb, hj⟩)
  have hp : (c, e.2.headD 0) ∈ freeN log := List.mem_map.mpr ⟨e, he, by rw [ec]⟩
  obtain ⟨b', j', h1, h2, h3⟩ := mem_freeN ok hp
  have h1 : bs[c]? = some b' := h1
  rw [hb] at h1
  obtain rfl := Option.some.inj h1
  have h2 : lastW log (tim log c) b = some j' := h2
  rw [hj] at h2
  obtain rfl := Option.some.inj h2
  obtain ⟨k, e', g1, g2, g3, g4⟩ := mem_btw.mp h3
  have g4 : e.2.headD 0 ∈ e'.2 := g4
  have ht := tim_at ok.nd g3 g4
  refine ⟨e.2.headD 0, (h _).mpr ⟨hc, ok.p.lt g3 g4, ?_⟩, ?_⟩
  · show tim log (e.2.headD 0) < tim log c
    rw [ht]
    exact g2
  · rw [ht]
    exact g1
theorem Good.bk {nd : List (Nat × Nat)} (g : Good bs log nd) (few : bs.length < 12) (hn : nd.Pairwise PLt) : Bk bs nd := by
  have hnd : nd.Nodup := hn.imp fun {a b} h z => by
    rw [z] at h
    unfold PLt at h
    omega
  refine ⟨fun p hp => ⟨(g.lt p hp).1, (g.lt p hp).2.1⟩, ⟨fun c => tim log c, fun c d h => (g.lt _ h).2.2⟩, by omega, ?_⟩
  have := full_few few (t := fun c => tim log c) hnd fun p hp => g.lt p hp
  omega
/-- no book that makes the log has fewer needs than there are late changes -/
theorem late_few (ok : LogOk bs log) {nd : List (Nat × Nat)} (hl : ∀ i e, log[i]? = some e → lbr bs nd (stM log i) e.1 = mskL e.2) : (lateL log log.length).length ≤ nd.length := by
  have := nodup_sub (b := nd.map fun p => p.1) (lateL_nodup ok) fun c hc => by
    obtain ⟨h1, b, j, h2, h3⟩ := (late_iff ok).mp hc
    obtain ⟨d, hd⟩ := late_need ok.p hl h1 h2 h3
    exact List.mem_map.mpr ⟨(c, d), hd, rfl⟩
  rw [List.length_map, List.length_map] at this
  exact this
end
end Rw

/-! The rows of the freest book. -/
namespace Rw
theorem lbr_congr {bs : List Nat} {nd nd' : List (Nat × Nat)} (h : ∀ p, p ∈ nd ↔ p ∈ nd') (S b : Nat) : lbr bs nd S b = lbr bs nd' S b := bits_ext fun k => by
  have : ∀ {nd nd' : List (Nat × Nat)}, (∀ p, p ∈ nd ↔ p ∈ nd') → InBr bs nd S b k → InBr bs nd' S b k := fun h ⟨X, hX, hk⟩ => ⟨X, fun c hc => by
    obtain ⟨h1, h2, h3⟩ := hX c hc
    exact ⟨h1, h2, fun d hd => h3 d ((h _).mpr hd)⟩, hk⟩
  rw [lbr_bit, lbr_bit]
  exact ⟨this h, this fun p => (h p).symm⟩
/-- a standing with all that its changes need -/
def Cl (nd : List (Nat × Nat)) (S : Nat) : Prop := ∀ c d, (c, d) ∈ nd → S.testBit c = true → S.testBit d = true
section
variable {bs : List Nat} {nd : List (Nat × Nat)} {S b : Nat}
theorem Cl.zero : Cl nd 0 := fun c d _ h => by simp at h
theorem Cl.next (h : Cl nd S) : Cl nd (S ||| lbr bs nd S b) := fun c d hd hc => by
  rw [Nat.testBit_or, Bool.or_eq_true, lbr_bit] at hc ⊢
  rcases hc with hc | hc
  · exact .inl (h c d hd hc)
  · exact (inBr_sup bs nd S b c hc).2.2 d hd
theorem Cl.beneath (h : Cl nd S) {c d : Nat} (bt : Beneath nd c d) (hc : S.testBit c = true) : S.testBit d = true := by
  induction bt with
  | one hd => exact h _ _ hd hc
  | more hd _ ih => exact ih (h _ _ hd hc)
/-- on such a standing both ways bring the same -/
theorem Cl.same (h : Cl nd S) (hlt : ∀ p ∈ nd, p.1 < bs.length ∧ p.2 < bs.length) {bn : List Nat} (hbn : BN nd bs.length bn) : brW bs bn S b = lbr bs nd S b := bits_ext fun k => by
  have hb : ∀ k d, k < bs.length → ((bn.getD k 0).testBit d = true ↔ Beneath nd k d) := fun k d hk => by
    have e1 : bn[k]? = some (bn.getD k 0) := by
      have hk' : k < bn.length := by rw [hbn.1]; exact hk
      rw [List.getD_eq_getElem?_getD, List.getElem?_eq_getElem hk']
      rfl
    exact hbn.2 k _ e1 d
  rw [brW_bit, lbr_bit]
  constructor
  · rintro ⟨h1, h2, h3⟩
    have hkl := (List.getElem?_eq_some_iff.mp h1).1
    refine ⟨fun c => bs[c]? = some b ∧ ¬ S.testBit c = true ∧ ∀ d, Beneath nd c d → S.testBit d = true ∨ bs[d]? = some b, fun c ⟨g1, g2, g3⟩ => ⟨g1, g2, fun d hd => ?_⟩, h1, h2, fun d hd => h3 d ((hb k d hkl).mpr hd)⟩
    by_cases hS : S.testBit d = true
    · exact .inl hS
    · exact .inr ⟨(g3 d (.one hd)).resolve_left hS, hS, fun e he => g3 e (.more hd he)⟩
  · rintro ⟨X, hX, hk⟩
    obtain ⟨h1, h2, _⟩ := hX k hk
    have hkl := (List.getElem?_eq_some_iff.mp h1).1
    refine ⟨h1, h2, fun d hd => ?_⟩
    have main : ∀ {c d}, Beneath nd c d → X c → S.testBit d = true ∨ X d := by
      intro c d bt
      induction bt with
      | one hd => exact fun hc => (hX _ hc).2.2 _ hd
      | more hd bt' ih =>
        intro hc
        rcases (hX _ hc).2.2 _ hd with q | q
        · exact .inl (h.beneath bt' q)
        · exact ih q
    rcases main ((hb k d hkl).mp hd) hk with q | q
    · exact .inl q
    · exact .inr (hX d q).1
end
theorem ReachL.cl {bs : List Nat} {nd : List (Nat × Nat)} {ms : List Nat} {S : Nat} (r : ReachL bs nd ms S) : Cl nd S := by
  induction r with
  | zero => exact .zero
  | next r h ih => exact ih.next
/-- rows by steps left -/
noncomputable def fuelF (bs : List Nat) (nd : List (Nat × Nat)) (ms : List Nat) : Nat → Nat → Nat
  | 0, S => if S = 2 ^ bs.length - 1 then 1 else 0
  | k + 1, S => if S = 2 ^ bs.length - 1 then 1 else ((ms.filter fun b => decide (0 < lbr bs nd S b)).map fun b => fuelF bs nd ms k (S ||| lbr bs nd S b)).sum
section
variable {bs : List Nat} {nd : List (Nat × Nat)} {ms : List Nat} {S : Nat}
theorem lotM_full (h : S < 2 ^ bs.length) (hl : bs.length ≤ (lotM S).length) : S = 2 ^ bs.length - 1 := bits_ext fun k => by
  have hk : ∀ k, S.testBit k = true → k < bs.length := fun k hk => Classical.byContradiction fun q => by
    have h1 := Nat.testBit_lt_two_pow (Nat.lt_of_lt_of_le h (Nat.pow_le_pow_right (by decide) (show bs.length ≤ k by omega)))
    rw [h1] at hk
    cases hk
  rw [Nat.testBit_two_pow_sub_one, decide_eq_true_iff]
  refine ⟨hk k, fun hkn => Classical.byContradiction fun n => ?_⟩
  have nd2 : (lotM S ++ [k]).Nodup := by
    rw [List.nodup_append]
    refine ⟨nodup_of_lt (lotM_sorted _), List.pairwise_singleton _ _, fun x hx y hy q => ?_⟩
    rw [List.mem_singleton] at hy
    rw [q, hy] at hx
    exact n (mem_lotM.mp hx)
  have := nodup_sub (b := List.range bs.length) nd2 fun x hx => by
    rcases List.mem_append.mp hx with z | z
    · exact List.mem_range.mpr (hk x (mem_lotM.mp z))
    · rw [List.mem_singleton.mp z]; exact List.mem_range.mpr hkn
  rw [List.length_append, List.length_singleton, List.length_range] at this
  omega
theorem fuel_stab : ∀ (k : Nat) (S : Nat), S < 2 ^ bs.length → bs.length ≤ k + (lotM S).length → fuelF bs nd ms (k + 1) S = fuelF bs nd ms k S
  | 0, S, h, hl => by
    have := lotM_full (bs := bs) h (by omega)
    unfold fuelF
    rw [if_pos this, if_pos this]
  | k + 1, S, h, hl => by
    show (if _ then _ else _) = (if _ then _ else _)
    by_cases e : S = 2 ^ bs.length - 1
    · rw [if_pos e, if_pos e]
    · rw [if_neg e, if_neg e]
      refine congrArg List.sum (List.map_congr_left fun b hb => ?_)
      have hp := of_decide_eq_true (List.mem_filter.mp hb).2
      have := ripe_more hp
      exact fuel_stab k _ (Nat.or_lt_two_pow h lbr_lt) (by omega)
theorem fuel_rowG : RowG bs nd ms (fuelF bs nd ms bs.length) := fun S r => by
  cases hn : bs.length with
  | zero =>
    have h := r.lt
    rw [hn] at h
    have : S = 2 ^ 0 - 1 := by omega
    rw [if_pos (by rw [this])]
    show (if _ then _ else _) = 1
    rw [hn, if_pos (by rw [this])]
  | succ n =>
    rw [← hn]
    by_cases e : S = 2 ^ bs.length - 1
    · rw [if_pos e, hn]
      show (if _ then _ else _) = 1
      rw [if_pos e]
    · rw [if_neg e]
      have e1 : fuelF bs nd ms bs.length S = ((ms.filter fun b => decide (0 < lbr bs nd S b)).map fun b => fuelF bs nd ms n (S ||| lbr bs nd S b)).sum := by
        rw [show fuelF bs nd ms bs.length S = fuelF bs nd ms (n + 1) S by rw [hn]]
        show (if _ then _ else _) = _
        rw [if_neg e]
      rw [e1]
      refine congrArg List.sum (List.map_congr_left fun b hb => ?_)
      have hp := of_decide_eq_true (List.mem_filter.mp hb).2
      have := ripe_more hp
      have h2 := fuel_stab (bs := bs) (nd := nd) (ms := ms) n _ (Nat.or_lt_two_pow r.lt (lbr_lt (bs := bs) (nd := nd) (S := S) (b := b))) (by omega)
      rw [← h2, hn]
theorem sum_le {l : List Nat} {f : Nat → Nat} {m : Nat} (h : ∀ x ∈ l, f x ≤ m) : (l.map f).sum ≤ l.length * m := by
  induction l with
  | nil => simp
  | cons a l ih =>
    rw [List.map_cons, List.sum_cons, List.length_cons, Nat.succ_mul]
    have := h a (List.mem_cons_self)
    have := ih fun x hx => h x (List.mem_cons_of_mem _ hx)
    omega
theorem fuel_le (hm : ms.length ≤ 12) : ∀ (k S : Nat), fuelF bs nd ms k S ≤ 12 ^ k
  | 0, S => by
    show (if _ then _ else _) ≤ _
    split <;> simp
  | k + 1, S => by
    show (if _ then _ else _) ≤ _
    have hp : 0 < 12 ^ (k + 1) := Nat.pow_pos (by decide)
    split
    · omega
    · have h1 := sum_le (l := ms.filter fun b => decide (0 < lbr bs nd S b)) (f := fun b => fuelF bs nd ms k (S ||| lbr bs nd S b)) (m := 12 ^ k) fun b _ => fuel_le hm k _
      have h2 : (ms.filter fun b => decide (0 < lbr bs nd S b)).length ≤ ms.length := List.length_filter_le _ _
      have h3 : (ms.filter fun b => decide (0 < lbr bs nd S b)).length * 12 ^ k ≤ 12 * 12 ^ k := Nat.mul_le_mul_right _ (by omega)
      have h4 : 12 ^ (k + 1) = 12 * 12 ^ k := by rw [Nat.pow_succ, Nat.mul_comm]
      omega
/-- all standings in the end -/
theorem reach_all (hms : Srt ms bs) (rk : Nat → Nat) (hrk : ∀ p ∈ nd, p.1 < bs.length ∧ p.2 < bs.length ∧ rk p.2 < rk p.1) : ReachL bs nd ms (2 ^ bs.length - 1) := by
  have main : ∀ r S, ReachL bs nd ms S → bs.length ≤ r + (lotM S).length → ReachL bs nd ms (2 ^ bs.length - 1) := by
    intro r
    induction r with
    | zero =>
      intro S h hl
      have := lotM_full (bs := bs) h.lt (by omega)
      rw [← this]
      exact h
    | succ r ih =>
      intro S h hl
      by_cases e : S = 2 ^ bs.length - 1
      · rw [← e]; exact h
      · have : ∃ c, c < bs.length ∧ ¬ S.testBit c = true := Classical.byContradiction fun n => e (bits_ext fun k => by
          rw [Nat.testBit_two_pow_sub_one, decide_eq_true_iff]
          refine ⟨fun hk => Classical.byContradiction fun q => ?_, fun hk => Classical.byContradiction fun q => n ⟨k, hk, q⟩⟩
          have h1 := Nat.testBit_lt_two_pow (Nat.lt_of_lt_of_le h.lt (Nat.pow_le_pow_right (by decide) (show bs.length ≤ k by omega)))
          rw [h1] at hk
          cases hk)
        obtain ⟨c, hc, hS⟩ := this
        obtain ⟨b, hb, hp⟩ := some_ripe (nd := nd) rk hrk hc hS
        have := ripe_more hp
        exact ih _ (h.next ((hms.2 b).mpr hb)) (by omega)
  exact main bs.length 0 .zero (by omega)
end
/-- standings that never tell c without d are few -/
theorem few_pair {c d : Nat} (hc : c < 11) (hd : d < 11) (hcd : c ≠ d) {L : List Nat} (hn : L.Nodup) (h : ∀ s ∈ L, s < 2048 ∧ (s.testBit c = true → s.testBit d = true)) : L.length ≤ 2000 := by
  have big : ∀ c : Fin 11, ∀ d : Fin 11, c ≠ d → 48 ≤ ((List.range 2048).filter fun s => s.testBit c.1 && !s.testBit d.1).length := by decide +kernel
  have hb := big ⟨c, hc⟩ ⟨d, hd⟩ fun z => hcd (Fin.mk.inj z)
  have nd2 : (L ++ (List.range 2048).filter fun s => s.testBit c && !s.testBit d).Nodup := by
    rw [List.nodup_append]
    refine ⟨hn, List.nodup_range.filter _, fun x hx y hy q => ?_⟩
    have h1 := (h x hx).2
    have h2 := (List.mem_filter.mp hy).2
    rw [Bool.and_eq_true, Bool.not_eq_true'] at h2
    rw [q] at h1
    rw [h1 h2.1] at h2
    cases h2.2
  have := nodup_lt 2048 _ nd2 fun x hx => by
    rcases List.mem_append.mp hx with z | z
    · exact (h x z).1
    · exact List.mem_range.mp (List.mem_filter.mp z).1
  rw [List.length_append] at this
  have hb : 48 ≤ ((List.range 2048).filter fun s => s.testBit c && !s.testBit d).length := hb
  omega
/-- two of more than five changes stand in one block -/
theorem two_alike {bs names : List Nat} (hn : names.length ≤ 5) (h : ∀ b ∈ bs, b ∈ names) (hl : 5 < bs.length) : ∃ (c d : Nat) (b : Nat), c ≠ d ∧ bs[c]? = some b ∧ bs[d]? = some b := by
  refine Classical.byContradiction fun n => ?_
  have nd : bs.Nodup := List.pairwise_iff_getElem.mpr fun i j hi hj hij q => n ⟨i, j, bs[i], by omega, List.getElem?_eq_getElem hi, by rw [List.getElem?_eq_getElem hj, q]⟩
  have := nodup_sub nd h
  omega
theorem few_reach {bs names : List Nat} {nd : List (Nat × Nat)} {ms : List Nat} (few : bs.length < 12) (hn : names.length ≤ 5) (h : ∀ b ∈ bs, b ∈ names) (hlt : ∀ p ∈ nd, p.1 < bs.length ∧ p.2 < bs.length ∧ p.1 ≠ p.2) {L : List Nat} (hL : L.Nodup) (hr : ∀ s ∈ L, ReachL bs nd ms s) : L.length ≤ 2000 := by
  by_cases h10 : bs.length ≤ 10
  · have := nodup_lt (2 ^ bs.length) L hL fun s hs => (hr s hs).lt
    have h2 : 2 ^ bs.length ≤ 2 ^ 10 := Nat.pow_le_pow_right (by decide) h10
    omega
  · have e11 : bs.length = 11 := by omega
    have lt11 : ∀ s ∈ L, s < 2048 := fun s hs => by
      have := (hr s hs).lt
      rw [e11] at this
      exact this
    cases hnd : nd with
    | cons p r =>
      obtain ⟨h1, h2, h3⟩ := hlt p (by rw [hnd]; exact List.mem_cons_self)
      exact few_pair (c := p.1) (d := p.2) (by omega) (by omega) h3 hL fun s hs => ⟨lt11 s hs, (hr s hs).cl p.1 p.2 (by rw [hnd]; exact List.mem_cons_self)⟩
    | nil =>
      obtain ⟨c, d, b, hcd, hc, hd⟩ := two_alike hn h (by omega)
      have hc' := (List.getElem?_eq_some_iff.mp hc).1
      have hd' := (List.getElem?_eq_some_iff.mp hd).1
      refine few_pair (c := c) (d := d) (by omega) (by omega) hcd hL fun s hs => ⟨lt11 s hs, ?_⟩
      have r := hr s hs
      rw [hnd] at r
      clear hs hr
      induction r with
      | zero => intro h; simp at h
      | @next S b' r hb ih =>
        intro hb2
        rw [Nat.testBit_or, Bool.or_eq_true, lbr_bit] at hb2 ⊢
        rcases hb2 with q | q
        · exact .inl (ih q)
        · have g := inBr_sup bs [] S b' c q
          have eb : b' = b := Option.some.inj (g.1.symm.trans hc)
          by_cases hS : S.testBit d = true
          · exact .inl hS
          · exact .inr ⟨fun x => x = d, fun x hx => by
              rw [hx, eb]
              exact ⟨hd, hS, fun e he => (nomatch he)⟩, rfl⟩
/-- by the masks of what lies beneath -/
theorem reach_same {bs : List Nat} {nd : List (Nat × Nat)} {ms bn : List Nat} (hlt : ∀ p ∈ nd, p.1 < bs.length ∧ p.2 < bs.length) (hbn : BN nd bs.length bn) {S : Nat} (r : Reach bs bn ms 0 S) : ReachL bs nd ms S := by
  induction r with
  | here => exact .zero
  | @next S p r h ih =>
    obtain ⟨h1, h2, h3⟩ := way_mem h
    rw [h3, ih.cl.same hlt hbn]
    exact ih.next h1
theorem rowF_of {bs : List Nat} {nd : List (Nat × Nat)} {ms bn : List Nat} (hlt : ∀ p ∈ nd, p.1 < bs.length ∧ p.2 < bs.length) (hbn : BN nd bs.length bn) {F : Nat → Nat} (h : RowG bs nd ms F) : RowF bs bn ms F := fun S r => by
  have rl := reach_same hlt hbn r
  have hs : ∀ b, brW bs bn S b = lbr bs nd S b := fun b => rl.cl.same hlt hbn
  rw [h S rl]
  have : (waysW bs bn ms S).map (fun p => F p.2) = (ms.filter fun b => decide (0 < lbr bs nd S b)).map fun b => F (S ||| lbr bs nd S b) := by
    unfold waysW ripeW
    rw [List.map_map]
    have e1 : (ms.filter fun b => decide (0 < brW bs bn S b)) = ms.filter fun b => decide (0 < lbr bs nd S b) := List.filter_congr fun b _ => by rw [hs b]
    rw [e1]
    refine List.map_congr_left fun b _ => ?_
    show F (S ||| brW bs bn S b) = _
    rw [hs b]
  rw [this]
theorem rowG_congr {bs : List Nat} {nd nd' : List (Nat × Nat)} {ms : List Nat} (h : ∀ p, p ∈ nd ↔ p ∈ nd') {F : Nat → Nat} (g : RowG bs nd ms F) : RowG bs nd' ms F := by
  have hr : ∀ {S}, ReachL bs nd' ms S → ReachL bs nd ms S := fun r => by
    induction r with
    | zero => exact .zero
    | @next S b r hb ih =>
      rw [← lbr_congr h S b]
      exact ih.next hb
  intro S r
  rw [g S (hr r)]
  have e : (fun b => decide (0 < lbr bs nd S b)) = fun b => decide (0 < lbr bs nd' S b) := funext fun b => by rw [lbr_congr h S b]
  have e2 : (fun b => F (S ||| lbr bs nd S b)) = fun b => F (S ||| lbr bs nd' S b) := funext fun b => by rw [lbr_congr h S b]
  rw [e, e2]
/-- the freest book's rows, counted either way -/
theorem rows_free {bs names : List Nat} {log : List (Nat × List Nat)} (ok : LogOk bs log) (hn : names.length ≤ 5) (hb : ∀ b ∈ bs, b ∈ names) : ∃ F : Nat → Nat, F 0 < 2 ^ 1900 ∧
    (∀ nd, (∀ p, p ∈ nd ↔ p ∈ freeN log) → ∀ ms, Srt ms bs → (∀ l : List Nat, l.Nodup → (∀ s ∈ l, ReachL bs nd ms s) → l.length ≤ 2000) ∧ ReachL bs nd ms (2 ^ bs.length - 1) ∧ RowG bs nd ms F) ∧
    (∀ nd, (∀ p, p ∈ nd ↔ p ∈ freeN log) → ∀ bn ms, BN nd bs.length bn → Srt ms bs → (∀ l : List Nat, l.Nodup → (∀ s ∈ l, Reach bs bn ms 0 s) → l.length ≤ 2000) ∧ RowF bs bn ms F) := by
  have few := ok.few
  have hms0 : Srt (lotM (mskL bs)) bs := ⟨lotM_sorted _, fun k => by rw [mem_lotM, mskL_bit]⟩
  have uniq : ∀ ms, Srt ms bs → ms = lotM (mskL bs) := fun ms h => sorted_ext h.1 hms0.1 fun k => by rw [h.2, hms0.2]
  have good : ∀ nd : List (Nat × Nat), (∀ p, p ∈ nd ↔ p ∈ freeN log) → ∀ p ∈ nd, p.1 < bs.length ∧ p.2 < bs.length ∧ tim log p.2 < tim log p.1 := fun nd h => (good_free ok h).lt
  have gne : ∀ nd : List (Nat × Nat), (∀ p, p ∈ nd ↔ p ∈ freeN log) → ∀ p ∈ nd, p.1 < bs.length ∧ p.2 < bs.length ∧ p.1 ≠ p.2 := fun nd h p hp => by
    obtain ⟨h1, h2, h3⟩ := good nd h p hp
    exact ⟨h1, h2, fun z => by rw [z] at h3; omega⟩
  have row : ∀ nd : List (Nat × Nat), (∀ p, p ∈ nd ↔ p ∈ freeN log) → RowG bs nd (lotM (mskL bs)) (fuelF bs (freeN log) (lotM (mskL bs)) bs.length) := fun nd h => rowG_congr (fun p => (h p).symm) fuel_rowG
  refine ⟨fuelF bs (freeN log) (lotM (mskL bs)) bs.length, ?_, fun nd h ms hms => ?_, fun nd h bn ms hbn hms => ?_⟩
  · have h1 := fuel_le (bs := bs) (nd := freeN log) (ms := lotM (mskL bs)) (by have := hms0.len; omega) bs.length 0
    have h2 : 12 ^ bs.length ≤ 12 ^ 12 := Nat.pow_le_pow_right (by decide) (by omega)
    have h3 : 12 ^ 12 < 2 ^ 1900 := by decide +kernel
    omega
  · rw [uniq ms hms]
    exact ⟨fun l hl hr => few_reach few hn hb (gne nd h) hl hr, reach_all hms0 (fun c => tim log c) (good nd h), row nd h⟩
  · rw [uniq ms hms]
    have hlt : ∀ p ∈ nd, p.1 < bs.length ∧ p.2 < bs.length := fun p hp => ⟨(good nd h p hp).1, (good nd h p hp).2.1⟩
    exact ⟨fun l hl hr => few_reach few hn hb (gne nd h) hl fun s hs => reach_same hlt hbn (hr s hs), rowF_of hlt hbn (row nd h)⟩
end Rw

/-! The law. -/
namespace Rw
open PySem PySem.Spec PyProof.Rows L2
section
variable {P : Program} {w : World} {K : PySem.W.Frag} {mg : Str → Option Value} {base : Heap} {B W c : Addr}
theorem psorted_ext : ∀ {a b : List (Nat × Nat)}, a.Pairwise PLt → b.Pairwise PLt → (∀ k, k ∈ a ↔ k ∈ b) → a = b
  | [], [], _, _, _ => rfl
  | [], y :: b, _, _, h => by have := (h y).mpr (List.mem_cons_self); simp at this
  | x :: a, [], _, _, h => by have := (h x).mp (List.mem_cons_self); simp at this
  | x :: a, y :: b, ha, hb, h => by
    have irr : ∀ x, ¬ PLt x x := fun x h => by unfold PLt at h; omega
    have asy : ∀ x y, PLt x y → ¬ PLt y x := fun x y h g => by unfold PLt at h g; omega
    have ha' := List.pairwise_cons.mp ha
    have hb' := List.pairwise_cons.mp hb
    have exy : x = y := by
      have h1 := (h x).mp (List.mem_cons_self)
      have h2 := (h y).mpr (List.mem_cons_self)
      rcases List.mem_cons.mp h1 with z | z
      · exact z
      · rcases List.mem_cons.mp h2 with z2 | z2
        · exact z2.symm
        · exact absurd (ha'.1 y z2) (asy _ _ (hb'.1 x z))
    subst exy
    rw [psorted_ext ha'.2 hb'.2 fun k => ?_]
    have hk := h k
    rw [List.mem_cons, List.mem_cons] at hk
    constructor
    · intro q
      rcases hk.mp (.inr q) with z | z
      · rw [z] at q
        exact absurd (ha'.1 x q) (irr x)
      · exact z
    · intro q
      rcases hk.mpr (.inr q) with z | z
      · rw [z] at q
        exact absurd (hb'.1 x q) (irr x)
      · exact z
/-- the pairs (c, d), d earlier than c, for c below m -/
def evL (log : List (Nat × List Nat)) (n : Nat) : Nat → List (Nat × Nat)
  | 0 => []
  | c + 1 => evL log n c ++ ((List.range n).filter fun o => decide (tim log o < tim log c)).map fun o => (c, o)
theorem mem_evL {log : List (Nat × List Nat)} {n : Nat} {p : Nat × Nat} : ∀ {c : Nat}, p ∈ evL log n c ↔ p.1 < c ∧ p.2 < n ∧ tim log p.2 < tim log p.1
  | 0 => by simp [evL]
  | c + 1 => by
    rw [evL, List.mem_append, mem_evL, List.mem_map]
    simp only [List.mem_filter, List.mem_range, decide_eq_true_iff]
    constructor
    · rintro (⟨h1, h2, h3⟩ | ⟨o, ⟨h1, h2⟩, rfl⟩)
      · exact ⟨by omega, h2, h3⟩
      · exact ⟨Nat.lt_succ_self c, h1, h2⟩
    · rintro ⟨h1, h2, h3⟩
      by_cases e : p.1 = c
      · exact .inr ⟨p.2, ⟨h2, by rw [← e]; exact h3⟩, by rw [← e]⟩
      · exact .inl ⟨by omega, h2, h3⟩
theorem evL_lt {log : List (Nat × List Nat)} {n : Nat} : ∀ {c : Nat}, (evL log n c).Pairwise PLt
  | 0 => .nil
  | c + 1 => by
    rw [evL, List.pairwise_append]
    refine ⟨evL_lt, ?_, ?_⟩
    · rw [List.pairwise_map]
      exact (List.pairwise_lt_range.filter _).imp fun h => .inr ⟨rfl, h⟩
    · intro a ha b hb
      obtain ⟨o, ho, rfl⟩ := List.mem_map.mp hb
      exact .inl (mem_evL.mp ha).1
theorem evL_len {log : List (Nat × List Nat)} {n : Nat} : ∀ {c : Nat}, (evL log n c).length ≤ c * n
  | 0 => Nat.zero_le _
  | c + 1 => by
    rw [evL, List.length_append, List.length_map, Nat.succ_mul]
    have h1 : (evL log n c).length ≤ c * n := evL_len
    have h2 := List.length_filter_le (fun o => decide (tim log o < tim log c)) (List.range n)
    rw [List.length_range] at h2
    omega
theorem fst_inj : ∀ {l : List (Nat × Nat)}, (l.map fun e => e.1).Nodup → ∀ {a b : Nat × Nat}, a ∈ l → b ∈ l → a.1 = b.1 → a = b
  | [], _, _, _, h, _, _ => nomatch h
  | x :: l, hn, a, b, ha, hb, e => by
    rw [List.map_cons, List.nodup_cons] at hn
    rcases List.mem_cons.mp ha with rfl | ha'
    · rcases List.mem_cons.mp hb with rfl | hb'
      · rfl
      · exact absurd (List.mem_map.mpr ⟨b, hb', e.symm⟩) hn.1
    · rcases List.mem_cons.mp hb with rfl | hb'
      · exact absurd (List.mem_map.mpr ⟨a, ha', e⟩) hn.1
      · exact fst_inj hn.2 ha' hb' e
theorem free_nodup {bs : List Nat} {log : List (Nat × List Nat)} (ok : LogOk bs log) : ((freeN log).map fun e => e.1).Nodup := by
  have := lateL_nodup ok
  rwa [show ((lateL log log.length).map fun e => e.1) = (freeN log).map fun e => e.1 from by unfold freeN; rw [List.map_map]; rfl] at this
theorem late_head {bs : List Nat} {log : List (Nat × List Nat)} (ok : LogOk bs log) {c : Nat} (hc : c < bs.length) (hL : Late bs log c) : ∃ b m h t, bs[c]? = some b ∧ lateV log (tim log c) b = vn m ∧ m < 2 ^ 64 ∧ lotM m = h :: t ∧ (c, h) ∈ freeN log := by
  obtain ⟨b, j, hb, hj⟩ := hL
  obtain ⟨e, g1, g2, g3⟩ := ok.p.get hc
  have eb : e.1 = b := Option.some.inj (g3.symm.trans hb)
  have hm : (c, lotM (mskL (btw log j (tim log c)))) ∈ lateL log log.length := (mem_lateL (Nat.le_refl _)).mpr ⟨_, e, j, (List.getElem?_eq_some_iff.mp g1).1, g1, by rw [eb]; exact hj, g2, rfl⟩
  have hne := lateL_ne ok.ne ok.adj (Nat.le_refl _) _ hm
  obtain ⟨h, t, e2⟩ := List.exists_cons_of_ne_nil hne
  have few := ok.few
  refine ⟨b, mskL (btw log j (tim log c)), h, t, hb, by unfold lateV; rw [hj], Nat.lt_pow_two_of_testBit _ fun k hk => ?_, e2, List.mem_map.mpr ⟨_, hm, ?_⟩⟩
  · rw [← Bool.not_eq_true]
    intro z
    have := List.mem_range.mp (ok.part.mem_iff.mp ((btw_sub log j (tim log c)).mem (mskL_bit.mp z)))
    omega
  · have e3 : lotM (mskL (btw log j (tim log c))) = h :: t := e2
    show (c, (lotM (mskL (btw log j (tim log c)))).headD 0) = (c, h)
    rw [e3]
    rfl
theorem if_tail {b : Bool} {X R : Prop} (h : R) (hx : b = true → R → X) : if b = true then X else R := by
  cases b with
  | true => exact hx rfl h
  | false => exact h
abbrev s_law : Stmt := topS 64
abbrev N_law : List Str := ["_law_script", "_law_tape_here", "_law_turn", "_law_hidden", "_law_blocks", "_law_log_here", "_law_late_here", "_law_times_here", "_law_row", "_law_some", "_law_free", "_law_full", "_law_least", "_law_every", "_law_change", "_law_block", "_law_lot_here", "_law_other"]
theorem sc_law : FnScope N_law ["_law_script"] (C8.fnScope s_law) := C8.fnScope_by (by decide +kernel)
def sp_law (K : PySem.W.Frag) : Sp := fun vs H Q _ => ∃ (a : Addr) (ns : List Int), vs = [.ref a] ∧ SqL K H a (ns.map V.int) ∧ TS H ∧ ∀ H', Q (.bl true) H'
theorem ok_law (T : Tx K mg B W c) (TB : LamX.TabB base mg c tP) {f : Addr} {fd : FuncData} (F : C8.Fun K "law" "law" s_law f fd) : FnG P w K mg base 10 f fd ["_law_script"] (sp_law K) := by
  refine fnG F sc_law (fun vs H Q E ⟨_, _, h, _⟩ => by rw [h]; rfl) fun cdv A outer s H vs Q E hr hg h => ?_
  obtain ⟨a, ns, rfl, ha, hT, q⟩ := h
  refine ⟨_, (pss_cons (ps_set (i := 1) sc_law.nd rfl (.inl rfl) (C8.pe_c (ok__law_tape T) hr (by decide) (by rfl) (pa_cons (pv 0) pa_nil)))
      (pss_cons (ps_for PassesOwn.never rfl (pi_range1 (by rfl) T.z_range (pa_cons pe_int pa_nil)) (pg_name (i := 2) sc_law.nd rfl (.inl rfl))
        (pss_cons (ps_set (i := 3) sc_law.nd rfl (.inl rfl) pe_non)
        (C8.pss_cut (ps_if (pt_cmpR op_eq (C8.pe_c (ok__law_pick T) hr (by decide) (by rfl) (pa_cons (pv 1) (pa_cons pe_int pa_nil))) pe_int (nomark _))
          (pss_cons (ps_set (i := 3) sc_law.nd rfl (.inl rfl) (C8.pe_c (ok__law_drawn T) hr (by decide) (by rfl) (pa_cons (pv 1) (pa_cons (C8.pe_c (ok__law_drawn_blocks T) hr (by decide) (by rfl) (pa_cons (pv 1) (pa_cons (C8.pe_c (ok__law_pick T) hr (by decide) (by rfl) (pa_cons (pv 1) (pa_cons pe_int pa_nil))) (pa_cons (pe_op op_add pe_int (C8.pe_c (ok__law_pick T) hr (by decide) (by rfl) (pa_cons (pv 1) (pa_cons pe_int pa_nil)))) pa_nil)))) pa_nil))))
          (pss_one (ps_par (i := 4) (j := 5) (by rfl) sc_law.nd rfl rfl (by decide) rfl rfl (pa_cons (pe_ix ix_tup (pv 3) pe_int (fun _ _ => rfl)) (pa_cons (C8.pe_c (ok__law_log T) hr (by decide) (by rfl) (pa_cons (pv 3) (pa_cons (C8.pe_c (ok__law_willing T) hr (by decide) (by rfl) (pa_cons (pv 1) (pa_cons (pv 3) pa_nil))) pa_nil))) pa_nil)) (by rfl))))
          (pss_one (ps_asg (C8.pe_c (ok__law_dealt T) hr (by decide) (by rfl) (pa_cons (pv 1) (pa_cons (C8.pe_c (ok__law_pick T) hr (by decide) (by rfl) (pa_cons (pv 1) (pa_cons pe_int pa_nil))) (pa_cons (C8.pe_c (ok__law_pick T) hr (by decide) (by rfl) (pa_cons (pv 1) (pa_cons pe_int pa_nil))) (pa_cons (pe_op op_add pe_int (C8.pe_c (ok__law_pick T) hr (by decide) (by rfl) (pa_cons (pv 1) (pa_cons pe_int pa_nil)))) pa_nil))))) (pg_tup rfl (pgs_cons (pg_name (i := 4) sc_law.nd rfl (.inl rfl)) (pgs_cons (pg_name (i := 5) sc_law.nd rfl (.inl rfl)) pgs_nil))))))
        (pss_cons (ps_asg (pe_tup (pa_cons (C8.pe_c (ok__law_late T) hr (by decide) (by rfl) (pa_cons (pv 5) pa_nil)) (pa_cons (C8.pe_c (ok__law_times T) hr (by decide) (by rfl) (pa_cons (pv 5) pa_nil)) (pa_cons (pe_callTy call_tuple_of (by rfl) T.z_tuple (by decide +kernel) (pa_cons (pe_lc (own := [("_law_block", 15), ("_law_lot_here", 16)]) (by rfl) sc_law.nd (pi_tup (pv 5)) (blkOk_by (own := [("_law_block", 15), ("_law_lot_here", 16)]) (N := N_law) (sc := C8.fnScope s_law) (by decide +kernel)) (fun _ _ _ _ _ => (pgtK (K := K) (n := 2) rfl rfl (pgs_cons (pg_name (i := 15) sc_law.nd rfl (.inl rfl)) (pgs_cons (pg_name (i := 16) sc_law.nd rfl (.inl rfl)) pgs_nil)) rfl)) (fun _ _ _ _ _ => pts_nil) (fun _ _ _ _ _ => (pv 15))) pa_nil)) pa_nil)))) (pg_tup rfl (pgs_cons (pg_name (i := 6) sc_law.nd rfl (.inr rfl)) (pgs_cons (pg_name (i := 7) sc_law.nd rfl (.inr rfl)) (pgs_cons (pg_name (i := 8) sc_law.nd rfl (.inl rfl)) pgs_nil)))))
        (pss_cons (ps_setLc (i := 9) (own := [("_law_change", 14)]) (by rfl) sc_law.nd rfl rfl (sw_true rfl rfl rfl (by decide +kernel)) (pi_range1 (by rfl) T.z_range (pa_cons (pe_callB call_len_seq (by rfl) T.z_len PySem.boot_len (pa_cons (pv 4) pa_nil)) pa_nil)) (blkOk_by (own := [("_law_change", 14)]) (N := N_law) (sc := C8.fnScope s_law) (by decide +kernel)) (fun _ _ _ _ _ => (pg_name (i := 14) sc_law.nd rfl (.inl rfl))) (fun _ _ _ _ _ => (pts_one (pt_cmpR op_notN (pe_dget (hu_of hr) (pv 6) (pv 14) (fun _ _ => rfl)) pe_non (nomark _)))) (fun _ _ _ _ _ => (pv 14)))
        (pss_cons (ps_if (PW.pt (pw_or (pt_not (pt_val (pe_cG (ok__law_same T) hr (by decide) hg (by rfl) (pa_cons (C8.pe_c (ok_fewest_needs T) hr (by decide) (by rfl) (pa_cons (pv 4) (pa_cons (pv 5) pa_nil))) (pa_cons (pe_callB call_len_seq (by rfl) T.z_len PySem.boot_len (pa_cons (pv 9) pa_nil)) pa_nil))))) (pw_or1 (PW.pt (pw_and (pt_cmpR op_notN (pv 3) pe_non (nomark _)) (pw_and1 (pt_cmpR op_lt (pe_callB call_len_seq (by rfl) T.z_len PySem.boot_len (pa_cons (pe_ix ix_tup (pv 3) pe_int (fun _ _ => rfl)) pa_nil)) (pe_callB call_len_seq (by rfl) T.z_len PySem.boot_len (pa_cons (pv 9) pa_nil)) (nomark _))))))))
          (pss_one (ps_ret pe_bl))
          pss_nil)
        (pss_cons (ps_par3 (i := 10) (j := 11) (l := 12) (by rfl) sc_law.nd rfl rfl rfl (by decide) (by decide) (by decide) rfl rfl rfl (pa_cons (C8.pe_c (ok_freest_book T) hr (by decide) (by rfl) (pa_cons (pv 4) (pa_cons (pv 5) pa_nil))) (pa_cons (C8.pe_c (ok_fullest_book T) hr (by decide) (by rfl) (pa_cons (pv 4) (pa_cons (pv 5) pa_nil))) (pa_cons (pe_lst pa_nil) pa_nil))) (by rfl))
        (pss_cons (ps_if (PW.pt (pw_or (pt_not (pt_val (pe_cG (ok__law_is_book T) hr (by decide) hg (by rfl) (pa_cons (pv 10) (pa_cons (pv 4) pa_nil))))) (pw_or1 (pt_not (pt_val (pe_cG (ok__law_is_book T) hr (by decide) hg (by rfl) (pa_cons (pv 11) (pa_cons (pv 4) pa_nil))))))))
          (pss_one (ps_ret pe_bl))
          pss_nil)
        (pss_cons (ps_if (PW.pt (pw_or (pt_cmpR op_ne (pe_callB call_len_seq (by rfl) T.z_len PySem.boot_len (pa_cons (pe_fld (pv 10) rfl) pa_nil)) (pe_callB call_len_seq (by rfl) T.z_len PySem.boot_len (pa_cons (pv 9) pa_nil)) (nomark _)) (pw_or1 (pt_cmpR (op_neD hr.units) (C8.pe_c (ok__law_log T) hr (by decide) (by rfl) (pa_cons (pe_tup (pa_cons (pv 4) (pa_cons (pe_fld (pv 10) rfl) pa_nil))) (pa_cons (pv 8) pa_nil))) (pv 5) (nomark _)))))
          (pss_one (ps_ret pe_bl))
          pss_nil)
        (pss_cons (ps_set (i := 13) sc_law.nd rfl (.inl rfl) (pe_lst pa_nil))
        (pss_cons (ps_for PassesOwn.never rfl (pi_range1 (by rfl) T.z_range (pa_cons (pe_callB call_len_seq (by rfl) T.z_len PySem.boot_len (pa_cons (pv 4) pa_nil)) pa_nil)) (pg_name (i := 14) sc_law.nd rfl (.inr rfl))
          (pss_one (ps_expr (pe_bm PySem.F.plainAttrs_list PySem.F.slot_list_extend PySem.F.type_list_extend mt_extend (pv 13) (pa_cons (pe_lc (own := [("_law_other", 17)]) (by rfl) sc_law.nd (pi_range1 (by rfl) T.z_range (pa_cons (pe_callB call_len_seq (by rfl) T.z_len PySem.boot_len (pa_cons (pv 4) pa_nil)) pa_nil)) (blkOk_by (own := [("_law_other", 17)]) (N := N_law) (sc := C8.fnScope s_law) (by decide +kernel)) (fun _ _ _ _ _ => (pg_name (i := 17) sc_law.nd rfl (.inl rfl))) (fun _ _ _ _ _ => (pts_one (pt_cmpR op_lt (pe_dget (hu_of hr) (pv 7) (pv 17) (fun _ _ => rfl)) (pe_dget (hu_of hr) (pv 7) (pv 14) (fun _ _ => rfl)) (nomark _)))) (fun _ _ _ _ _ => (pe_tup (pa_cons (pv 14) (pa_cons (pv 17) pa_nil))))) pa_nil)))))
        (pss_cons (ps_if (PW.pt (pw_or (pt_not (pt_val (pe_cG (ok__law_same T) hr (by decide) hg (by rfl) (pa_cons (pe_fld (pv 11) rfl) (pa_cons (pe_callTy call_tuple_of (by rfl) T.z_tuple (by decide +kernel) (pa_cons (pv 13) pa_nil)) pa_nil))))) (pw_or (pt_cmpR op_notBl (C8.pe_c (ok_makes T) hr (by decide) (by rfl) (pa_cons (pv 10) (pa_cons (pv 5) pa_nil))) pe_bl (nomark _)) (pw_or1 (pt_cmpR op_notBl (C8.pe_c (ok_makes T) hr (by decide) (by rfl) (pa_cons (pv 11) (pa_cons (pv 5) pa_nil))) pe_bl (nomark _))))))
          (pss_one (ps_ret pe_bl))
          pss_nil)
        (pss_cons (ps_for PassesOwn.never rfl (pi_list (pv 9)) (pg_name (i := 14) sc_law.nd rfl (.inr rfl))
          (pss_one (ps_expr (pe_bm PySem.F.plainAttrs_list PySem.F.slot_list_append PySem.F.type_list_append mt_append (pv 12) (pa_cons (pe_tup (pa_cons (pv 14) (pa_cons (pe_ix ix_tup (C8.pe_c (ok__law_lot T) hr (by decide) (by rfl) (pa_cons (pe_dget (hu_of hr) (pv 6) (pv 14) (fun _ _ => rfl)) pa_nil)) pe_int (fun _ _ => rfl)) pa_nil))) pa_nil)))))
        (pss_one (ps_if (pt_not (pt_val (pe_cG (ok__law_same T) hr (by decide) hg (by rfl) (pa_cons (C8.pe_c (ok_other_rows T TB) hr (by decide) (by rfl) (pa_cons (pv 4) (pa_cons (pv 5) pa_nil))) (pa_cons (C8.pe_c (ok__law_many_rows T) hr (by decide) (by rfl) (pa_cons (pe_tup (pa_cons (pv 4) (pa_cons (pe_callTy call_tuple_of (by rfl) T.z_tuple (by decide +kernel) (pa_cons (pv 12) pa_nil)) pa_nil))) pa_nil)) pa_nil)))))
          (pss_one (ps_ret pe_bl))
          pss_nil)))))))))))))))
      (pss_one (ps_ret pe_bl)))), ?_⟩
  refine ⟨_, rfl, a, ns, rfl, ha, fun t l H1 f1 ht1 frt frl => ?_⟩
  have hT1 := f1.tab hT
  refine ⟨3, rfl, by decide, by decide, for_it (n := 3) walk_rangeN (fun i σ Hc => ∃ (u2 u3 u4 u5 u6 u7 u8 u9 u10 u11 u12 u13 u14 u15 u16 u17 : Option V), σ = [some (.ref a), some (.ref t), u2, u3, u4, u5, u6, u7, u8, u9, u10, u11, u12, u13, u14, u15, u16, u17] ∧ TapeO Hc t l ∧ TS Hc)
    ⟨_, _, _, _, _, _, _, _, _, _, _, _, _, _, _, _, rfl, ht1, hT1⟩ (fun _ _ _ _ _ => trivial) ?_ ?_⟩
  · rintro i y σ Hx Hc hi ⟨u2, u3, u4, u5, u6, u7, u8, u9, u10, u11, u12, u13, u14, u15, u16, u17, rfl, ht, hTc⟩ ⟨rfl, rfl⟩
    refine ⟨fun σ' H' => ∃ (u3 : V) (vb vl : V) (bs names : List Nat) (log : List (Nat × List Nat)), σ' = [some (.ref a), some (.ref t), some (vn i), some u3, some vb, some vl, u6, u7, u8, u9, u10, u11, u12, u13, u14, u15, u16, u17] ∧ TapeO H' t l ∧ TS H' ∧ TN H' vb bs ∧ LG H' vl log ∧ LogOk bs log ∧ names.length ≤ 5 ∧ (∀ b ∈ bs, b ∈ names) ∧ (u3 = .non ∨ ∃ nd, SP2 H' u3 (bs, nd) ∧ (lateL log log.length).length ≤ nd.length), ?_, ?_⟩
    · refine ⟨_, rfl, t, l, 2, rfl, ht, by decide, by decide, fun r H2 hr2 f2 ht2 => ⟨rfl, _, rfl, ?_⟩⟩
      rw [show V.int 0 = vn 0 from rfl, dvn]
      by_cases h0 : r = 0
      · rw [decide_eq_true h0]
        refine ⟨_, rfl, _, rfl, _, rfl, t, l, 12, rfl, ht2, by decide, by decide, fun m H3 hm f3 ht3 => ⟨_, rfl, t, l, 5, rfl, ht3, by decide, by decide, fun k H4 hk f4 ht4 => ⟨1, k, rfl, rfl, ?_⟩⟩⟩
        refine ⟨t, l, m, 1 + k, rfl, ht4, by omega, by omega, by omega, fun bs names v H5 hbl hnl hbn f5 ht5 htn => ?_⟩
        refine ⟨t, l, v, bs, rfl, ht5, htn, by omega, fun nd v2 H6 hp hdr f6 ht6 hsp => ?_⟩
        obtain ⟨q0, w1, w2, rfl, hq0, hw1, hw2⟩ := id hsp
        have hlt : ∀ p ∈ nd, p.1 < bs.length ∧ p.2 < bs.length := fun p hp => by
          obtain ⟨rk, hrk⟩ := hdr
          exact ⟨(hrk p hp).1, (hrk p hp).2.1⟩
        refine ⟨_, rfl, q0, _, 0, w1, rfl, rfl, sT hq0, rfl, _, rfl, _, rfl, _, rfl, t, l, _, bs, nd, rfl, ht6, hsp, hlt, by omega, fun row v3 H7 hwr f7 ht7 hrow => ?_⟩
        have hwl := hwr.len
        refine ⟨_, v3, bs, nd, row, rfl, pSP2.go f7 hsp, hrow, hlt, by omega, by omega, fun v4 H8 f8 hlg => ⟨_, _, rfl, ?_⟩⟩
        have ok := willing_log hdr hwr (by omega) fun b hb => (hbn b hb).2
        have hTS : TS H8 := f8.tab (f7.tab (f6.tab (f5.tab (f4.tab (f3.tab (f2.tab hTc))))))
        exact ⟨_, w1, v4, bs, names, _, rfl, ht7.fz f8, hTS, pTN.go f8 (pTN.go f7 hw1), hlg, ok, by omega, fun b hb => (hbn b hb).1, .inr ⟨nd, pSP2.go f8 (pSP2.go f7 hsp), late_few ok (willing_brings ok.p)⟩⟩
      · rw [decide_eq_false h0]
        refine ⟨_, rfl, _, rfl, t, l, 10, rfl, ht2, by decide, by decide, fun wr H3 hwr f3 ht3 => ⟨_, rfl, t, l, 12, rfl, ht3, by decide, by decide, fun m H4 hm f4 ht4 => ⟨_, rfl, t, l, 5, rfl, ht4, by decide, by decide, fun k H5 hk f5 ht5 => ⟨1, k, rfl, rfl, ?_⟩⟩⟩⟩
        refine ⟨t, l, wr, m, 1 + k, rfl, ht5, by omega, by omega, by omega, by omega, fun bs names log v H6 ok hnl hbn f6 ht6 hrq => ?_⟩
        obtain ⟨q0, w1, w2, rfl, hq0, hw1, hw2⟩ := hrq
        have hTS : TS H6 := f6.tab (f5.tab (f4.tab (f3.tab (f2.tab hTc))))
        exact ⟨q0, _, rfl, sT hq0, rfl, _, _, rfl, _, _, rfl, rfl, .non, w1, w2, bs, names, log, rfl, ht6, hTS, hw1, hw2, ok, by omega, hbn, .inl rfl⟩
    · rintro σ' H2 ⟨u3, vb, vl, bs, names, log, rfl, ht2, hT2, hb, hl, ok, hn5, hbn, hhid⟩
      have few := ok.few
      have llog := ok.len
      obtain ⟨al, vs, rfl, hal, hpl⟩ := id hl
      have lvs : vs.length = log.length := plen hpl
      obtain ⟨ab, rfl, hab⟩ := tn_iff.mp hb
      have hblk : ∀ b ∈ log.map (fun e => e.1), b < 64 := fun b hb => by
        obtain ⟨e, he, rfl⟩ := List.mem_map.mp hb
        obtain ⟨k, hk⟩ := List.exists_mem_of_ne_nil _ (ok.ne e he)
        have := ok.val _ (List.mem_of_getElem? (ok.blk e he k hk))
        omega
      -- late, times, the row
      refine ⟨_, rfl, _, bs, log, rfl, hl, ok, fun d1 H3 k1 f3 hd1 lk1 => ⟨_, rfl, _, bs, log, rfl, pLG.go f3 hl, ok, fun d2 H4 k2 f4 hd2 tk2 => ?_⟩⟩
      have f24 := f3.trans f4
      refine ⟨_, rfl, al, rfl, ⟨_, sT (f24.tup hal)⟩, fun D hD => lc_det (R := RN) (walk_tup (K := K) (a := al) (xs := vs)) pRN hD (by omega) (fun i => log[i]?.bind fun e => some e.1) (fun H f => sT (f.tup (f24.tup hal))) (fun j x H5 H6 C Nx hj f5 hy g1 g2 => ?_) fun H5 f5 hl5 => ?_⟩
      · obtain ⟨rfl, hy⟩ := hy
        obtain ⟨⟨b, l⟩, he, b1, y1, y2, rfl, hb1, r1, r2⟩ := pget (pEN.all (f24.trans f5) hpl) hy
        obtain rfl := show y1 = vn b from r1
        exact ⟨b1, _, rfl, sT hb1, rfl, _, _, rfl, _, _, rfl, rfl, rfl, _, rfl, g1 _ _ b (by rw [he]; rfl) .refl rfl⟩
      have er : (List.range vs.length).filterMap (fun i => log[i]?.bind fun e => some e.1) = log.map (fun e => e.1) := by
        rw [lvs, fm_get]
        exact congrFun (List.filterMap_eq_map (f := fun e : Nat × List Nat => e.1)) _
      rw [er] at hl5
      have hl5' := ln_iff.mp hl5
      refine ⟨D, _, rfl, .inl ⟨sL hl5', fun pr hpr => ⟨sz (show 3 ≤ 100000 by decide), fun pt hpt => ?_⟩⟩⟩
      have f6 : Fz N0 H5 (upd H5 pr (.tup ((log.map fun e => e.1).map vn))) := .new hpr
      have f7 := f6.snoc (o := .tup [.ref d1, .ref d2, .ref pr]) hpt
      have hpr7 : (upd (upd H5 pr (.tup ((log.map fun e => e.1).map vn))) pt (.tup [.ref d1, .ref d2, .ref pr])) pr = some (.tup ((log.map fun e => e.1).map vn)) := (Fz.new (T := N0) hpt).tup upd_same
      refine ⟨pt, _, rfl, sT upd_same, rfl, _, _, rfl, _, _, rfl, _, _, rfl, rfl, ?_⟩
      have f57 := f5.trans f7
      have f27 := f24.trans f57
      have hd1' := (f4.trans f57).dK hd1
      have hd2' := f57.dK hd2
      generalize upd (upd H5 pr (.tup ((log.map fun e => e.1).map vn))) pt (.tup [.ref d1, .ref d2, .ref pr]) = H7 at hpr7 f27 hd1' hd2'
      have hab7 := f27.tup hab
      -- some: the late changes
      have late_at : ∀ c, c < bs.length → ∃ b, bs[c]? = some b ∧ valV k1 (.inl (c : Int)) = some (lateV log (tim log c) b) := fun c hc => by
        obtain ⟨e, g1, g2, g3⟩ := ok.p.get hc
        exact ⟨e.1, g3, lk1 _ e c g1 g2⟩
      have late_non : ∀ c b, bs[c]? = some b → (Late bs log c ↔ lateV log (tim log c) b ≠ .non) := fun c b hb => by
        unfold lateV
        cases hj : lastW log (tim log c) b with
        | none =>
          refine ⟨fun ⟨b', j, h1, h2⟩ => ?_, fun h => absurd rfl h⟩
          rw [hb] at h1
          rw [← Option.some.inj h1, hj] at h2
          cases h2
        | some j => exact ⟨fun _ z => (nomatch z), fun _ => ⟨b, j, hb, hj⟩⟩
      refine ⟨_, rfl, ab, _, rfl, .inr (sT hab7), (bs.length : Int), by rw [List.length_map], by omega, by omega, fun D2 hD2 => lc_det (R := RN) (n := bs.length) walk_rangeN pRN hD2 (by omega) (fun i => if tv (Late bs log i) = true then some i else none) (fun _ _ => trivial) (fun c x H8 H9 C Nx hc f8 hy g1 g2 => ?_) fun H8 f8 hl8 => ?_⟩
      · obtain ⟨rfl, rfl⟩ := hy
        obtain ⟨b, hcb, hv⟩ := late_at c hc
        refine ⟨rfl, _, rfl, _, rfl, d1, _, rfl, DGn (f8.dK hd1') hv, rfl, _, rfl, ?_⟩
        by_cases hL : Late bs log c
        · have e0 : (!decide (lateV log (tim log c) b = V.non)) = true := by rw [decide_eq_false ((late_non c b hcb).mp hL)]; rfl
          rw [e0]
          exact ⟨_, rfl, g1 _ _ c (if_pos (tv_iff.mpr hL)) .refl rfl⟩
        · have e0 : (!decide (lateV log (tim log c) b = V.non)) = false := by rw [decide_eq_true (Classical.byContradiction fun z => hL ((late_non c b hcb).mpr z))]; rfl
          rw [e0]
          exact g2 _ (if_neg fun z => hL (tv_iff.mp z)) .refl
      rw [fm_range'] at hl8
      generalize hLs : ((List.range bs.length).filter fun c => tv (Late bs log c)) = Ls at hl8
      have hs8 := ln_iff.mp hl8
      have mLs : ∀ c, c ∈ Ls ↔ c < bs.length ∧ Late bs log c := fun c => by rw [← hLs, List.mem_filter, List.mem_range, tv_iff]
      have nLs : Ls.Pairwise (· < ·) := by rw [← hLs]; exact List.pairwise_lt_range.filter _
      have lLs : Ls.length = (lateL log log.length).length := by
        have h1 := nodup_sub (b := (lateL log log.length).map fun e => e.1) (nodup_of_lt nLs) fun c hc => (late_iff ok).mpr ((mLs c).mp hc)
        have h2 := nodup_sub (b := Ls) (lateL_nodup ok) fun c hc => (mLs c).mpr ((late_iff ok).mp hc)
        rw [List.length_map] at h1 h2
        omega
      have lll := lateL_blen ok
      have f28 := f27.trans f8
      -- fewest
      refine ⟨_, rfl, _, rfl, _, _, bs, log, rfl, pTN.go f28 hb, pLG.go f28 hl, ok, fun H9 f9 => ⟨_, rfl, D2, _, rfl, .inl (sL (f9.at hs8 fun z => z)), _, _, rfl, ?_⟩⟩
      rw [List.length_map, lLs]
      refine ⟨.int _ (by
        have : 12 < 2 ^ 1900 := by decide +kernel
        omega), _, rfl, ?_⟩
      have f29 := f28.trans f9
      have hs9 := f9.at hs8 fun z => z
      refine ⟨_, rfl, rfl, _, rfl, if_tail ?_ fun hu3 hR => ?_⟩
      rotate_left
      · rcases hhid with rfl | ⟨nd0, hs0, lt0⟩
        · cases hu3
        · obtain ⟨q0, w1, w2, rfl, hq0, hw1, hw2⟩ := id (pSP2.go f29 hs0)
          obtain ⟨an, vn2, rfl, han, hpn⟩ := id hw2
          refine ⟨_, rfl, q0, _, 1, _, rfl, rfl, sT hq0, rfl, an, _, rfl, .inr (sT han), _, rfl, D2, _, rfl, .inl (sL hs9), _, _, rfl, rfl, _, rfl, ?_⟩
          rw [List.length_map, show vn2.length = nd0.length from plen hpn, lLs, decide_eq_false (by omega)]
          exact hR
      -- the books
      refine ⟨_, rfl, _, rfl, _, _, bs, log, rfl, pTN.go f29 hb, pLG.go f29 hl, ok, fun nd1 vf H10 hn1 f10 hB1 => ⟨_, rfl, _, rfl, _, _, bs, log, rfl, pTN.go (f29.trans f10) hb, pLG.go (f29.trans f10) hl, ok, fun nd2 vu H11 hn2 hm2 f11 hB2 => ?_⟩⟩
      have f211 := f29.trans (f10.trans f11)
      have hs11 := (f10.trans f11).at hs9 fun z => z
      have hB1' := hB1.fz f11
      have hz : ∀ b ∈ bs, b < 64 := fun b hb => by have := ok.val b hb; omega
      refine ⟨sz (show 0 ≤ 100000 by decide), fun L hL => ?_⟩
      have f12 : Fz N0 H11 (upd H11 L (.lst [])) := .new hL
      have hLst : upd H11 L (.lst []) L = some (.lst []) := upd_same
      generalize upd H11 L (.lst []) = H12 at f12 hLst
      have f212 := f211.trans f12
      have hs12 := f12.at hs11 fun z => z
      have hB1a := hB1'.fz f12
      have hB2a := hB2.fz f12
      refine ⟨_, _, _, rfl, _, rfl, _, rfl, _, _, bs, nd1, rfl, hB1a, pTN.go f212 hb, sh_TN hz (by omega), _, rfl, ?_⟩
      refine ⟨_, rfl, _, rfl, _, _, bs, nd2, rfl, hB2a, pTN.go f212 hb, sh_TN hz (by omega), _, rfl, ?_⟩
      have g1 := good_free ok hn1.2
      have g2 := good_full ok hm2
      have nodupP : ∀ nd : List (Nat × Nat), nd.Pairwise PLt → nd.Nodup := fun nd h => h.imp fun {a b} z e => by subst e; unfold PLt at z; omega
      have n1len : nd1.length = (lateL log log.length).length := by
        have hf : (freeN log).Nodup := by
          have := lateL_nodup ok
          rw [show ((lateL log log.length).map fun e => e.1) = (freeN log).map fun e => e.1 from by unfold freeN; rw [List.map_map]; rfl] at this
          exact List.Pairwise.of_map _ (fun a b h => fun z => h (by rw [z])) this
        have h1 := nodup_sub (nodupP _ hn1.1) fun p hp => (hn1.2 p).mp hp
        have h2 := nodup_sub hf fun p hp => (hn1.2 p).mpr hp
        have h3 : (freeN log).length = (lateL log log.length).length := List.length_map _
        omega
      obtain ⟨x1, dx1, vb1, vn1, rfl, hx1, hbb1, hnn1⟩ := id hB1a
      obtain ⟨a1, vs1, rfl, ha1, hp1⟩ := id hnn1
      refine ⟨_, rfl, x1, B, dx1, _, _, rfl, hx1, T.cB, T.nB_needs, rfl, a1, _, rfl, .inr (sT ha1), _, rfl, D2, _, rfl, .inl (sL hs12), rfl, _, rfl, ?_⟩
      rw [List.length_map, show vs1.length = nd1.length from plen hp1, lLs, n1len, decide_eq_true rfl]
      refine ⟨_, rfl, _, rfl, x1, B, dx1, _, _, rfl, hx1, T.cB, T.nB_needs, rfl, sz (show 2 ≤ 100000 by decide), fun pp hpp => ?_⟩
      have f13 : Fz N0 H12 (upd H12 pp (.tup [.ref ab, .ref a1])) := .new hpp
      have hpp13 : upd H12 pp (.tup [.ref ab, .ref a1]) pp = some (.tup [.ref ab, .ref a1]) := upd_same
      generalize upd H12 pp (.tup [.ref ab, .ref a1]) = H13 at f13 hpp13
      have f213 := f212.trans f13
      have f713 := ((f8.trans f9).trans (f10.trans f11)).trans (f12.trans f13)
      refine ⟨_, rfl, _, _, bs, nd1, log.map fun e => e.1, rfl, ⟨pp, _, _, rfl, hpp13, pTN.go f213 hb, pNP.go f13 hnn1⟩, tn_iff.mpr ⟨pr, rfl, f713.tup hpr7⟩, fun p hp => ⟨(g1.lt p hp).1, (g1.lt p hp).2.1⟩, few, by rw [List.length_map]; omega, fun v4 H14 f14 hlg => ⟨_, rfl, ?_⟩⟩
      rw [Good.relog ok.p g1] at hlg
      have f214 := f213.trans f14
      refine neD_same (d := dLG log) (k := 3) (dpLG hlg) (dpLG (pLG.go f214 hl)) (gdLG _) (by decide) ⟨_, rfl, ?_⟩
      have f714 := f713.trans f14
      refine ⟨sz (show 0 ≤ 100000 by decide), fun E0 hE => ?_⟩
      have f15 : Fz N0 H14 (upd H14 E0 (.lst [])) := .new hE
      have frE : Fr H14 E0 := .of hE
      have hE15 : upd H14 E0 (.lst []) E0 = some (.lst []) := upd_same
      generalize upd H14 E0 (.lst []) = H15 at f15 hE15
      refine ⟨_, rfl, ab, _, rfl, .inr (sT ((f714.trans f15).tup hab7)), (bs.length : Int), by rw [List.length_map], by omega, by omega, for_it (n := bs.length) walk_rangeN (fun k σ Hc => ∃ (w14 w15 w16 w17 : Option V), σ = [some (.ref a), some (.ref t), some (vn i), some u3, some (.ref ab), some (.ref al), some (.ref d1), some (.ref d2), some (.ref pr), some (.ref D2), some (.ref x1), some vu, some (.ref L), some (.ref E0), w14, w15, w16, w17] ∧ Fz N0 H14 Hc ∧ LL PN Hc E0 (evL log bs.length k))
        ⟨_, _, _, _, rfl, f15, ⟨[], hE15, .nil⟩⟩ (fun _ _ _ _ _ => trivial) ?_ ?_⟩
      · rintro k y σ Hx Hc hk ⟨w14, w15, w16, w17, rfl, fc, hEl⟩ ⟨rfl, rfl⟩
        obtain ⟨vs, hE1, hE2⟩ := id hEl
        have fcc := f714.trans fc
        refine ⟨_, rfl, tyL hE1, _, rfl, ab, _, rfl, .inr (sT (fcc.tup hab7)), (bs.length : Int), by rw [List.length_map], by omega, by omega, fun D hD => lc_det (R := PN) (n := bs.length) walk_rangeN pPN hD (by omega) (fun o => if decide (tim log o < tim log k) = true then some (k, o) else none) (fun _ _ => trivial) (fun o x H5 H6 C Nx ho f5 hy j1 j2 => ?_) fun H5 f5 hl5 => ?_⟩
        · obtain ⟨rfl, rfl⟩ := hy
          have hd5 := (fcc.trans f5).dK hd2'
          refine ⟨rfl, _, rfl, _, rfl, d2, _, rfl, DGn hd5 (tk2.get ok ho), _, rfl, _, rfl, d2, _, rfl, DGn hd5 (tk2.get ok hk), _, _, rfl, rfl, _, rfl, ?_⟩
          by_cases hlt : tim log o < tim log k
          · have e0 : decide ((tim log o : Int) < (tim log k : Int)) = true := decide_eq_true (by omega)
            rw [e0]
            exact ⟨_, rfl, _, rfl, sz (show 2 ≤ 100000 by decide), fun p hp => j1 _ _ (k, o) (if_pos (decide_eq_true hlt)) (.new hp) ⟨p, _, _, rfl, upd_same, rfl, rfl⟩⟩
          · have e0 : decide ((tim log o : Int) < (tim log k : Int)) = false := decide_eq_false (by omega)
            rw [e0]
            exact j2 _ (if_neg (by simpa using hlt)) .refl
        · rw [fm_range] at hl5
          obtain ⟨ws, hw1, hw2⟩ := id hl5
          have hE5 := f5.at hE1 fun z => z
          have lv := plen hE2
          have lw := plen hw2
          have le1 : (evL log bs.length k).length ≤ k * bs.length := evL_len
          have le2 : k * bs.length ≤ 12 * 12 := Nat.mul_le_mul (by omega) (by omega)
          have le3 := List.length_filter_le (fun o => decide (tim log o < tim log k)) (List.range bs.length)
          rw [List.length_range] at le3
          rw [List.length_map] at lw
          refine ⟨E0, D, _, _, rfl, rfl, hE5, hw1, sz (by omega), ?_⟩
          have hp6 : Paired (PN (upd H5 E0 (.lst (vs ++ ws)))) (vs ++ ws) (evL log bs.length k ++ _) := L2.Paired.mapP (papp (pPN.all f5 hE2) hw2) fun v x r => PN.upd hE5 (fun ys z => nomatch z) r
          exact ⟨_, _, _, _, rfl, (fc.trans f5).mut frE hE5, ⟨_, upd_same, hp6⟩⟩
      · rintro σ Hc ⟨w14, w15, w16, w17, rfl, fc, hEl⟩
        have f715 := f714.trans fc
        have f215 := f214.trans fc
        obtain ⟨vs, hE1, hE2⟩ := id hEl
        have ee : evL log bs.length bs.length = nd2 := psorted_ext evL_lt hn2 fun p => mem_evL.trans ((hm2 p).trans (by unfold FullN; exact Iff.rfl)).symm
        rw [ee] at hE2
        have l2 : nd2.length ≤ 12 * 12 := by
          rw [← ee]
          exact Nat.le_trans evL_len (Nat.mul_le_mul (by omega) (by omega))
        obtain ⟨x2, dx2, vb2, vn2, rfl, hx2, hbb2, hnn2⟩ := id (hB2a.fz ((f13.trans f14).trans fc))
        obtain ⟨a2, vs2, rfl, ha2, hp2⟩ := id hnn2
        refine ⟨_, rfl, x2, B, dx2, _, _, rfl, hx2, T.cB, T.nB_needs, rfl, _, rfl, E0, _, rfl, .inl ⟨sL hE1, fun q1 hq1 => ?_⟩⟩
        have f16 : Fz N0 Hc (upd Hc q1 (.tup vs)) := .new hq1
        have hq16 : upd Hc q1 (.tup vs) q1 = some (.tup vs) := upd_same
        generalize upd Hc q1 (.tup vs) = H16 at f16 hq16
        have f216 := f215.trans f16
        have sh2 : ShD (dNP nd2) := sh_NP (fun p hp => by have := (hm2 p).mp hp; unfold FullN at this; omega) (by omega)
        refine ⟨_, _, rfl, .dat a2 q1 (dNP nd2) (dpNP (pNP.go f16 hnn2)) (dpNP ⟨q1, _, rfl, hq16, pPN.all f16 hE2⟩) sh2, _, rfl, ?_⟩
        have hB1c := hB1a.fz (((f13.trans f14).trans fc).trans f16)
        have hB2c := hB2a.fz (((f13.trans f14).trans fc).trans f16)
        refine ⟨_, rfl, _, rfl, _, _, bs, nd1, log, rfl, hB1c, Good.bk g1 few hn1.1, pLG.go f216 hl, ok, fun bn hbn i e he => Good.brW ok.p g1 hbn he, fun H17 f17 => ⟨_, _, rfl, rfl, _, rfl, ?_⟩⟩
        refine ⟨_, rfl, _, rfl, _, _, bs, nd2, log, rfl, hB2c.fz f17, Good.bk g2 few hn2, pLG.go (f216.trans f17) hl, ok, fun bn hbn i e he => Good.brW ok.p g2 hbn he, fun H18 f18 => ⟨_, _, rfl, rfl, _, rfl, ?_⟩⟩
        have f1118 : Fz N0 H11 H18 := (((((f12.trans f13).trans f14).trans fc).trans f16).trans f17).trans f18
        have hL18 : H18 L = some (.lst []) := (((((f13.trans f14).trans fc).trans f16).trans f17).trans f18).at hLst fun z => z
        have frL : Fr H11 L := .of hL
        have f711 := (f8.trans f9).trans (f10.trans f11)
        refine ⟨_, rfl, D2, rfl, ⟨_, sL (f1118.at hs11 fun z => z)⟩, for_it (n := (Ls.map vn).length) (walk_list (K := K) (a := D2) (xs := Ls.map vn)) (fun k σ Hx => ∃ (w14 w15 w16 w17 : Option V) (zs : List (Nat × Nat)), σ = [some (.ref a), some (.ref t), some (vn i), some u3, some (.ref ab), some (.ref al), some (.ref d1), some (.ref d2), some (.ref pr), some (.ref D2), some (.ref x1), some (.ref x2), some (.ref L), some (.ref E0), w14, w15, w16, w17] ∧ Fz N0 H11 Hx ∧ LL PN Hx L zs ∧ (zs.map fun e => e.1) = Ls.take k ∧ ∀ p ∈ zs, p ∈ freeN log)
          ⟨_, _, _, _, [], rfl, f1118, ⟨[], hL18, .nil⟩, by rw [List.take_zero]; rfl, fun p h => (nomatch h)⟩ (fun _ _ _ _ ⟨_, _, _, _, _, _, h, _⟩ => sL (h.at hs11 fun z => z)) ?_ ?_⟩
        · rintro k y σ Hy Hx hk ⟨w14, w15, w16, w17, zs, rfl, fx, hZl, hzm, hzf⟩ ⟨rfl, hy⟩
          obtain ⟨c, hc, rfl⟩ := vn_get' hy
          obtain ⟨zvs, hZ1, hZ2⟩ := id hZl
          obtain ⟨hcl, hcL⟩ := (mLs c).mp (List.mem_of_getElem? hc)
          obtain ⟨b, m, h0, t0, hb1, hv, hm64, hlm, hfr⟩ := late_head ok hcl hcL
          obtain ⟨b', hb', hv'⟩ := late_at c hcl
          obtain rfl : b = b' := Option.some.inj (hb1.symm.trans hb')
          rw [hv] at hv'
          refine ⟨_, rfl, tyL hZ1, _, rfl, _, rfl, _, rfl, d1, _, rfl, DGn ((f711.trans fx).dK hd1') hv', m, rfl, hm64, fun v H20 f20 htn => ?_⟩
          obtain ⟨av, rfl, hav⟩ := tn_iff.mp htn
          rw [hlm] at hav
          have lz1 := congrArg List.length hzm
          rw [List.length_map, List.length_take] at lz1
          have lz2 := plen hZ2
          refine ⟨av, _, 0, vn h0, rfl, rfl, sT hav, atN (vn_get (show (h0 :: t0)[0]? = some h0 from rfl)), sz (show 2 ≤ 100000 by decide), fun p hp => ?_⟩
          have fp := f20.snoc (o := .tup [vn c, vn h0]) hp
          have hL2 := fp.at hZ1 fun z => z
          refine ⟨L, _, _, rfl, rfl, hL2, sz (show zvs.length + 1 ≤ 100000 by omega), ?_⟩
          have hpp2 : Paired (PN (upd H20 p (.tup [vn c, vn h0]))) (zvs ++ [.ref p]) (zs ++ [(c, h0)]) := papp (pPN.all fp hZ2) (.cons ⟨p, _, _, rfl, upd_same, rfl, rfl⟩ .nil)
          refine ⟨_, _, _, _, zs ++ [(c, h0)], rfl, (fx.trans fp).mut frL hL2, ⟨_, upd_same, L2.Paired.mapP hpp2 fun v x r => PN.upd hL2 (fun ys z => nomatch z) r⟩, ?_, fun q hq => ?_⟩
          · rw [List.map_append, hzm, List.take_succ, hc]
            rfl
          · rcases List.mem_append.mp hq with z | z
            · exact hzf q z
            · rw [List.mem_singleton.mp z]
              exact hfr
        · rintro σ Hx ⟨w14, w15, w16, w17, zs, rfl, fx, hZl, hzm, hzf⟩
          rw [List.length_map, List.take_length] at hzm
          have hzs : ∀ p, p ∈ zs ↔ p ∈ freeN log := fun p => by
            refine ⟨hzf p, fun hp => ?_⟩
            have h1 : p.1 ∈ (lateL log log.length).map fun e => e.1 := by
              obtain ⟨e, he, rfl⟩ := List.mem_map.mp hp
              exact List.mem_map.mpr ⟨e, he, rfl⟩
            have h2 := (mLs p.1).mpr ((late_iff ok).mp h1)
            rw [← hzm] at h2
            obtain ⟨q1, hq1, e1⟩ := List.mem_map.mp h2
            rw [← fst_inj (free_nodup ok) (hzf q1 hq1) hp e1]
            exact hq1
          obtain ⟨zvs, hZ1, hZ2⟩ := id hZl
          obtain ⟨F, hF0, hFL, hFF⟩ := rows_free ok hn5 hbn
          have f2x := f211.trans fx
          refine ⟨_, rfl, _, rfl, _, _, bs, log, rfl, pTN.go f2x hb, pLG.go f2x hl, ok, f2x.tab hT2, fun nd hnd => ⟨Good.bk (good_free ok hnd.2) few hnd.1, fun bn ms hbn' hms => ⟨(hFF nd hnd.2 bn ms hbn' hms).1, F, (hFF nd hnd.2 bn ms hbn' hms).2, fun H20 f20 => ?_⟩⟩⟩
          have lz1 := congrArg List.length hzm
          rw [List.length_map] at lz1
          have lz2 := plen hZ2
          refine ⟨_, rfl, _, rfl, L, _, rfl, .inl ⟨sL (f20.at hZ1 fun z => z), fun q2 hq2 => ⟨sz (show 2 ≤ 100000 by decide), fun p2 hp2 => ?_⟩⟩⟩
          have f21 := f20.snoc (o := .tup zvs) hq2
          have f22 := f21.snoc (o := .tup [.ref ab, .ref q2]) hp2
          have f2y := f2x.trans f22
          have hq22 : (upd (upd H20 q2 (.tup zvs)) p2 (.tup [.ref ab, .ref q2])) q2 = some (.tup zvs) := (Fz.new (T := N0) hp2).tup upd_same
          refine ⟨.ref p2, bs, zs, rfl, ⟨p2, _, _, rfl, upd_same, pTN.go f2y hb, ⟨q2, _, rfl, hq22, pPN.all f22 hZ2⟩⟩, fun p hp => ⟨((good_free ok hzs).lt p hp).1, ((good_free ok hzs).lt p hp).2.1⟩, few, fun ms hms => ⟨(hFL zs hzs ms hms).1, (hFL zs hzs ms hms).2.1, F, (hFL zs hzs ms hms).2.2, fun H23 f23 => ⟨_, _, rfl, .int (F 0) hF0, _, rfl, ?_⟩⟩⟩
          have f2z := f2y.trans f23
          exact ⟨_, _, _, _, _, _, _, _, _, _, _, _, _, _, _, _, rfl, ht2.fz f2z, f2z.tab hT2⟩
  · rintro σ Hc ⟨u2, u3, u4, u5, u6, u7, u8, u9, u10, u11, u12, u13, u14, u15, u16, u17, rfl, ht, hTc⟩
    exact q Hc
end
end Rw

/-! The head alone, while one works. -/
namespace Rw
open PySem PySem.W PyProof.Rows
set_option maxHeartbeats 0 in
open_top hd for PySem.Challenge.rw_ripewaves_k62_whole_fewest_freest_fulles
end Rw

/-! The end: what the module's top has left, and the row's theorem. -/
namespace Rw
open PySem PySem.Spec PyProof.Rows L2
section
variable {K : PySem.W.Frag} {h : Heap} {mg : Str → Option Value}
theorem fun_c {x qual : Str} {st : Stmt} {f : Addr} {oc : Value} {od an : Option Addr} {osl : Array (Option Value)} {kV doc pm cdv ct : Value}
    (l : K.lookup f = some ⟨oc, od, .func (PySem.W.fnOf x qual (C8.fnArgs st) (C8.fnBody st) (C8.fnScope st) .none kV doc pm an cdv ct), osl⟩) (c : PySem.W.codeIn K cdv qual = true) :
    C8.Fun K x qual st f (PySem.W.fnOf x qual (C8.fnArgs st) (C8.fnBody st) (C8.fnScope st) .none kV doc pm an cdv ct) := ⟨oc, od, .none, kV, doc, pm, an, cdv, ct, osl, rfl, l, c⟩
/-- the parameters are given one by one -/
def BindsAll (x qual : Str) (st : Stmt) (ps : List Str) : Prop := ∀ (kV doc pm : Value) (an : Option Addr) (cdv ct : Value) (us : List Value), us.length = ps.length → bindArgs (PySem.W.fnOf x qual (C8.fnArgs st) (C8.fnBody st) (C8.fnScope st) .none kV doc pm an cdv ct) ⟨us, []⟩ = pure (ps.zip us)
theorem dn_mk {x : Str} {st : Stmt} {ps : List Str} {f : Addr} {oc : Value} {od an : Option Addr} {osl : Array (Option Value)} {kV doc pm cdv ct : Value} (X : K.In h) (G : h.Ns mainGlobals mg)
    (a : PySem.W.nsIn K mainGlobals x = some (some (.ref f))) (l : K.lookup f = some ⟨oc, od, .func (PySem.W.fnOf x x (C8.fnArgs st) (C8.fnBody st) (C8.fnScope st) .none kV doc pm an cdv ct), osl⟩) (c : PySem.W.codeIn K cdv x = true) (k : PySem.W.keepIn K (.ref f) = true)
    (b : BindsAll x x st ps) : Dn K mg x st ps := ⟨f, _, ⟨fun_c l c, PySem.W.mg_of X G a, k⟩, (fun_c l c).binds rfl b⟩
theorem dl_mk {x : Str} {st : Stmt} {ps : List Str} {f cc : Addr} {oc : Value} {od an : Option Addr} {osl : Array (Option Value)} {kV doc pm ct : Value} (X : K.In h) (G : h.Ns mainGlobals mg)
    (a : PySem.W.nsIn K mainGlobals x = some (some (.ref f))) (l : K.lookup f = some ⟨oc, od, .func (PySem.W.fnOf x x (C8.fnArgs st) (C8.fnBody st) (C8.fnScope st) .none kV doc pm an (.ref cc) ct), osl⟩) (c : PySem.W.codeIn K (.ref cc) x = true) (k : PySem.W.keepIn K (.ref f) = true)
    (b : BindsAll x x st ps) : Dl K mg cc x st ps := ⟨f, _, ⟨fun_c l c, PySem.W.mg_of X G a, k⟩, (fun_c l c).binds rfl b, rfl⟩
theorem dk_mk {x qual : Str} {C : Addr} {st : Stmt} {ps : List Str} {f : Addr} {oc : Value} {od an : Option Addr} {osl : Array (Option Value)} {kV doc pm cdv ct : Value} (X : K.In h) (G : h.Ns mainGlobals mg)
    (a : PySem.W.nsIn K mainGlobals x = some (some (.ref C))) (mk : PySem.W.makesIn K C = true) (fi : PySem.W.findIn K (.ref C) "__init__" = some (some (.ref f))) (fn : PySem.W.isFn K (.ref f) = true) (kc : PySem.W.keepIn K (.ref C) = true)
    (l : K.lookup f = some ⟨oc, od, .func (PySem.W.fnOf "__init__" qual (C8.fnArgs st) (C8.fnBody st) (C8.fnScope st) .none kV doc pm an cdv ct), osl⟩) (c : PySem.W.codeIn K cdv qual = true)
    (b : BindsAll "__init__" qual st ps) : Dk K mg x C qual st ps := ⟨f, _, ⟨mk, fi, fn, kc⟩, PySem.W.mg_of X G a, fun_c l c, (fun_c l c).binds rfl b⟩
theorem dm_mk {m qual : Str} {C : Addr} {st : Stmt} {ps : List Str} {f : Addr} {oc : Value} {od an : Option Addr} {osl : Array (Option Value)} {kV doc pm cdv ct : Value} (cl : Cls K C)
    (fi : PySem.W.findIn K (.ref C) m = some (some (.ref f))) (fn : PySem.W.isFn K (.ref f) = true) (k : PySem.W.keepIn K (.ref f) = true)
    (l : K.lookup f = some ⟨oc, od, .func (PySem.W.fnOf m qual (C8.fnArgs st) (C8.fnBody st) (C8.fnScope st) .none kV doc pm an cdv ct), osl⟩) (c : PySem.W.codeIn K cdv qual = true)
    (b : BindsAll m qual st ps) : Dm K C m qual st ps := ⟨f, _, cl, ⟨fi, fn, k⟩, fun_c l c, (fun_c l c).binds rfl b⟩
end
theorem walk_law {l : PySem.W.OpenLaw} {q : Program} {loose : List Str} {XP : (Str → Option Value) → Heap → Prop} {YP : World → Heap → Prop} {d : DefRec} {K : Params → PySem.W.Frag} (hn : l.most = some 63) (hdf : d.params.defaults = []) (hn1 : d.name = "law")
    (hY : ∀ (w : World) (h : Heap), YP w h → (K w.params).In h)
    (F : ∀ (w : World) (mg : Str → Option Value) (fa : Addr) (h : Heap), YP w h → (K w.params).In h → h.Ns mainGlobals mg → mg d.name = some (.ref fa) →
      ∃ (B W c fl : Addr) (fd : FuncData), h.get? tP = some { cls := .none, data := .fields #[] } ∧ (K w.params).lookup tP = none ∧ PySem.W.CodeHd h c tP ∧ Tx (K w.params) mg B W c ∧ PySem.W.nsIn (K w.params) mainGlobals "law" = some (some (.ref fl)) ∧ C8.Fun (K w.params) "law" "law" s_law fl fd ∧ fd.defaults = .none) :
    PySem.W.WalkO q loose XP YP l.row.toRowW d [] (fun f vs => PySem.call f vs) := by
  refine walkG (n := 63) (k := 10) (x := "_law_script") hn (by decide) hdf ⟨rfl, by decide, by decide⟩ hY fun w mg fa h Y X G hmg => ?_
  obtain ⟨B, W, c, fl, fd, hT, nT, C, T, a, Fn, df⟩ := F w mg fa h Y X G hmg
  rw [hn1] at hmg
  have e0 := hmg.symm.trans (PySem.W.mg_of X G a)
  cases e0
  refine ⟨fd, c, tP, sp_law (K w.params), hT, nT, C, ?_, fun H a ns _ _ h1 hS => ⟨a, ns, rfl, hS, LamX.TabS.nil h1, fun _ => rfl⟩, fun base _ _ TB => ok_law T TB Fn⟩
  obtain ⟨oc, od, dV, kV, doc, pm, an, cdv, ct, osl, rfl, _, _⟩ := Fn.ex
  have e : dV = .none := df
  subst e
  exact fun s u => .of_eq rfl
end Rw
open PySem PySem.W PyProof.Rows
set_option maxRecDepth 100000 in
set_option maxHeartbeats 0 in
theorem PySem.Challenge.cw_ripewaves_k62_whole_fewest_freest_fulles_holds : PySem.Challenge.rw_ripewaves_k62_whole_fewest_freest_fulles.Holds := by
  refine Rw.hd ?_
  k_fill
  refine Rw.walk_law (l := PySem.Challenge.rw_ripewaves_k62_whole_fewest_freest_fulles) rfl rfl (by rfl) (fun w h Y => PySem.W.km_in_of Y) ?F
  case F =>
    intro w mg fa h Y KX G hmg; clear hmg
    refine' ⟨_, _, _, _, _, ?hT, ?nT, ?C, ?T, ?fl, ?Fn, ?df⟩
    case T =>
      refine' ⟨?z_all, ?z_bool, ?z_enumerate, ?z_int, ?z_isinstance, ?z_len, ?z_list, ?z_max, ?z_range, ?z_repr, ?z_set, ?z_sorted, ?z_sum, ?z_tuple, ?z_zip, ?c_MOST_BLOCK, ?c_MOST_CHANGES, ?c_MOST_NEEDS, ?c_MOST_STANDINGS, ?g_Book, ?i_Book, ?cB, ?cW, ?nB_blocks, ?nB_needs, ?nW_many, ?nW_beneath, ?nW_blocks, ?nW_within, ?nW_all, ?d_is_integer, ?d_is_within, ?d_is_lot, ?d_is_pair, ?d_lot_of, ?d_check_parts, ?d_needed, ?d_order_of, ?k_Book, ?d_raw_book, ?d_masks_beneath, ?d_lot_of_mask, ?d_blocks_of, ?k_World, ?m_World_brought, ?m_World_ripe, ?m_World_coming, ?d_masks_led, ?d_by_count, ?d_many_rows, ?d_check_blocks, ?d_is_entry, ?d_is_log_of, ?d_makes, ?d_check_log, ?d_between_of, ?d_times_of, ?d_pairs_of, ?d_fewest_needs, ?d_freest_of, ?d_freest_book, ?d_fullest_book, ?d_other_rows, ?d__law_tape, ?d__law_pick, ?d__law_any, ?d__law_some_blocks, ?d__law_order, ?d__law_direct, ?d__law_lot, ?d__law_brought, ?d__law_drawn_blocks, ?d__law_drawn, ?d__law_willing, ?d__law_log, ?d__law_late, ?d__law_times, ?d__law_dealt, ?d__law_same, ?d__law_many_rows, ?d__law_is_book⟩
      (case g_Book => (refine' ⟨_, PySem.W.mg_of KX G ?e, ?r⟩; (case e => k_is); (case r => exact rfl)))
      (case k_Book => (refine' Rw.dk_mk KX G ?a ?mk ?fi ?fn ?kc ?l ?c ?b; (case a => k_is); (case mk => k_is); (case fi => k_is); (case fn => k_is); (case kc => k_is); (case l => k_is); (case c => k_is); (case b => exact fun _ _ _ _ _ _ us hl => match us, hl with | [_, _, _], _ => rfl)))
      (case k_World => (refine' Rw.dk_mk KX G ?a ?mk ?fi ?fn ?kc ?l ?c ?b; (case a => k_is); (case mk => k_is); (case fi => k_is); (case fn => k_is); (case kc => k_is); (case l => k_is); (case c => k_is); (case b => exact fun _ _ _ _ _ _ us hl => match us, hl with | [_, _], _ => rfl)))
      (case cB => (refine' ⟨?pg, ?hd, ?po, ?sa⟩; (case pg => k_is); (case hd => k_is); (case po => k_is); (case sa => k_is)))
      (case cW => (refine' ⟨?pg, ?hd, ?po, ?sa⟩; (case pg => k_is); (case hd => k_is); (case po => k_is); (case sa => k_is)))
      (case z_all => (refine' PySem.W.mg_none_of KX G ?e; (case e => k_is)))
      (case z_bool => (refine' PySem.W.mg_none_of KX G ?e; (case e => k_is)))
      (case z_enumerate => (refine' PySem.W.mg_none_of KX G ?e; (case e => k_is)))
      (case z_int => (refine' PySem.W.mg_none_of KX G ?e; (case e => k_is)))
      (case z_isinstance => (refine' PySem.W.mg_none_of KX G ?e; (case e => k_is)))
      (case z_len => (refine' PySem.W.mg_none_of KX G ?e; (case e => k_is)))
      (case z_list => (refine' PySem.W.mg_none_of KX G ?e; (case e => k_is)))
      (case z_max => (refine' PySem.W.mg_none_of KX G ?e; (case e => k_is)))
      (case z_range => (refine' PySem.W.mg_none_of KX G ?e; (case e => k_is)))
      (case z_repr => (refine' PySem.W.mg_none_of KX G ?e; (case e => k_is)))
      (case z_set => (refine' PySem.W.mg_none_of KX G ?e; (case e => k_is)))
      (case z_sorted => (refine' PySem.W.mg_none_of KX G ?e; (case e => k_is)))
      (case z_sum => (refine' PySem.W.mg_none_of KX G ?e; (case e => k_is)))
      (case z_tuple => (refine' PySem.W.mg_none_of KX G ?e; (case e => k_is)))
      (case z_zip => (refine' PySem.W.mg_none_of KX G ?e; (case e => k_is)))
      (case c_MOST_BLOCK => (refine' ⟨_, PySem.W.mg_of KX G ?e, ?r⟩; (case e => k_is); (case r => exact ⟨_, rfl⟩)))
      (case c_MOST_CHANGES => (refine' ⟨_, PySem.W.mg_of KX G ?e, ?r⟩; (case e => k_is); (case r => exact ⟨_, rfl⟩)))
      (case c_MOST_NEEDS => (refine' ⟨_, PySem.W.mg_of KX G ?e, ?r⟩; (case e => k_is); (case r => exact ⟨_, rfl⟩)))
      (case c_MOST_STANDINGS => (refine' ⟨_, PySem.W.mg_of KX G ?e, ?r⟩; (case e => k_is); (case r => exact ⟨_, rfl⟩)))
      (case i_Book => (refine' ⟨⟨?pg, ?hd, ?po, ?sa⟩, ?ha, ?hn, ?htk, ?hm, ?me⟩; (case pg => k_is); (case hd => k_is); (case po => k_is); (case sa => k_is); (case ha => k_is); (case hn => k_is); (case htk => k_is); (case hm => k_is); (case me => kernel_rfl)))
      (case nB_blocks => (unfold L2.NoAttr; k_is))
      (case nB_needs => (unfold L2.NoAttr; k_is))
      (case nW_many => (unfold L2.NoAttr; k_is))
      (case nW_beneath => (unfold L2.NoAttr; k_is))
      (case nW_blocks => (unfold L2.NoAttr; k_is))
      (case nW_within => (unfold L2.NoAttr; k_is))
      (case nW_all => (unfold L2.NoAttr; k_is))
      (case d_is_integer => (refine' Rw.dn_mk KX G ?a ?l ?c ?k ?b; (case a => k_is); (case l => k_is); (case c => k_is); (case k => k_is); (case b => exact fun _ _ _ _ _ _ us hl => match us, hl with | [_], _ => rfl)))
      (case d_is_within => (refine' Rw.dn_mk KX G ?a ?l ?c ?k ?b; (case a => k_is); (case l => k_is); (case c => k_is); (case k => k_is); (case b => exact fun _ _ _ _ _ _ us hl => match us, hl with | [_, _, _], _ => rfl)))
      (case d_is_lot => (refine' Rw.dn_mk KX G ?a ?l ?c ?k ?b; (case a => k_is); (case l => k_is); (case c => k_is); (case k => k_is); (case b => exact fun _ _ _ _ _ _ us hl => match us, hl with | [_, _], _ => rfl)))
      (case d_is_pair => (refine' Rw.dn_mk KX G ?a ?l ?c ?k ?b; (case a => k_is); (case l => k_is); (case c => k_is); (case k => k_is); (case b => exact fun _ _ _ _ _ _ us hl => match us, hl with | [_], _ => rfl)))
      (case d_lot_of => (refine' Rw.dn_mk KX G ?a ?l ?c ?k ?b; (case a => k_is); (case l => k_is); (case c => k_is); (case k => k_is); (case b => exact fun _ _ _ _ _ _ us hl => match us, hl with | [_], _ => rfl)))
      (case d_check_parts => (refine' Rw.dn_mk KX G ?a ?l ?c ?k ?b; (case a => k_is); (case l => k_is); (case c => k_is); (case k => k_is); (case b => exact fun _ _ _ _ _ _ us hl => match us, hl with | [_, _], _ => rfl)))
      (case d_needed => (refine' Rw.dn_mk KX G ?a ?l ?c ?k ?b; (case a => k_is); (case l => k_is); (case c => k_is); (case k => k_is); (case b => exact fun _ _ _ _ _ _ us hl => match us, hl with | [_, _], _ => rfl)))
      (case d_order_of => (refine' Rw.dn_mk KX G ?a ?l ?c ?k ?b; (case a => k_is); (case l => k_is); (case c => k_is); (case k => k_is); (case b => exact fun _ _ _ _ _ _ us hl => match us, hl with | [_, _], _ => rfl)))
      (case d_raw_book => (refine' Rw.dn_mk KX G ?a ?l ?c ?k ?b; (case a => k_is); (case l => k_is); (case c => k_is); (case k => k_is); (case b => exact fun _ _ _ _ _ _ us hl => match us, hl with | [_, _], _ => rfl)))
      (case d_masks_beneath => (refine' Rw.dn_mk KX G ?a ?l ?c ?k ?b; (case a => k_is); (case l => k_is); (case c => k_is); (case k => k_is); (case b => exact fun _ _ _ _ _ _ us hl => match us, hl with | [_], _ => rfl)))
      (case d_lot_of_mask => (refine' Rw.dn_mk KX G ?a ?l ?c ?k ?b; (case a => k_is); (case l => k_is); (case c => k_is); (case k => k_is); (case b => exact fun _ _ _ _ _ _ us hl => match us, hl with | [_], _ => rfl)))
      (case d_blocks_of => (refine' Rw.dn_mk KX G ?a ?l ?c ?k ?b; (case a => k_is); (case l => k_is); (case c => k_is); (case k => k_is); (case b => exact fun _ _ _ _ _ _ us hl => match us, hl with | [_], _ => rfl)))
      (case m_World_brought => (refine' Rw.dm_mk ⟨?pg, ?hd, ?po, ?sa⟩ ?fi ?fn ?k ?l ?c ?b; (case pg => k_is); (case hd => k_is); (case po => k_is); (case sa => k_is); (case fi => k_is); (case fn => k_is); (case k => k_is); (case l => k_is); (case c => k_is); (case b => exact fun _ _ _ _ _ _ us hl => match us, hl with | [_, _, _], _ => rfl)))
      (case m_World_ripe => (refine' Rw.dm_mk ⟨?pg, ?hd, ?po, ?sa⟩ ?fi ?fn ?k ?l ?c ?b; (case pg => k_is); (case hd => k_is); (case po => k_is); (case sa => k_is); (case fi => k_is); (case fn => k_is); (case k => k_is); (case l => k_is); (case c => k_is); (case b => exact fun _ _ _ _ _ _ us hl => match us, hl with | [_, _], _ => rfl)))
      (case m_World_coming => (refine' Rw.dm_mk ⟨?pg, ?hd, ?po, ?sa⟩ ?fi ?fn ?k ?l ?c ?b; (case pg => k_is); (case hd => k_is); (case po => k_is); (case sa => k_is); (case fi => k_is); (case fn => k_is); (case k => k_is); (case l => k_is); (case c => k_is); (case b => exact fun _ _ _ _ _ _ us hl => match us, hl with | [_, _], _ => rfl)))
      (case d_masks_led => (refine' Rw.dn_mk KX G ?a ?l ?c ?k ?b; (case a => k_is); (case l => k_is); (case c => k_is); (case k => k_is); (case b => exact fun _ _ _ _ _ _ us hl => match us, hl with | [_, _, _], _ => rfl)))
      (case d_by_count => (refine' Rw.dl_mk KX G ?a ?l ?c ?k ?b; (case a => k_is); (case l => k_is); (case c => k_is); (case k => k_is); (case b => exact fun _ _ _ _ _ _ us hl => match us, hl with | [_], _ => rfl)))
      (case d_many_rows => (refine' Rw.dn_mk KX G ?a ?l ?c ?k ?b; (case a => k_is); (case l => k_is); (case c => k_is); (case k => k_is); (case b => exact fun _ _ _ _ _ _ us hl => match us, hl with | [_], _ => rfl)))
      (case d_check_blocks => (refine' Rw.dn_mk KX G ?a ?l ?c ?k ?b; (case a => k_is); (case l => k_is); (case c => k_is); (case k => k_is); (case b => exact fun _ _ _ _ _ _ us hl => match us, hl with | [_], _ => rfl)))
      (case d_is_entry => (refine' Rw.dn_mk KX G ?a ?l ?c ?k ?b; (case a => k_is); (case l => k_is); (case c => k_is); (case k => k_is); (case b => exact fun _ _ _ _ _ _ us hl => match us, hl with | [_, _], _ => rfl)))
      (case d_is_log_of => (refine' Rw.dn_mk KX G ?a ?l ?c ?k ?b; (case a => k_is); (case l => k_is); (case c => k_is); (case k => k_is); (case b => exact fun _ _ _ _ _ _ us hl => match us, hl with | [_, _], _ => rfl)))
      (case d_makes => (refine' Rw.dn_mk KX G ?a ?l ?c ?k ?b; (case a => k_is); (case l => k_is); (case c => k_is); (case k => k_is); (case b => exact fun _ _ _ _ _ _ us hl => match us, hl with | [_, _], _ => rfl)))
      (case d_check_log => (refine' Rw.dn_mk KX G ?a ?l ?c ?k ?b; (case a => k_is); (case l => k_is); (case c => k_is); (case k => k_is); (case b => exact fun _ _ _ _ _ _ us hl => match us, hl with | [_, _], _ => rfl)))
      (case d_between_of => (refine' Rw.dn_mk KX G ?a ?l ?c ?k ?b; (case a => k_is); (case l => k_is); (case c => k_is); (case k => k_is); (case b => exact fun _ _ _ _ _ _ us hl => match us, hl with | [_], _ => rfl)))
      (case d_times_of => (refine' Rw.dn_mk KX G ?a ?l ?c ?k ?b; (case a => k_is); (case l => k_is); (case c => k_is); (case k => k_is); (case b => exact fun _ _ _ _ _ _ us hl => match us, hl with | [_], _ => rfl)))
      (case d_pairs_of => (refine' Rw.dn_mk KX G ?a ?l ?c ?k ?b; (case a => k_is); (case l => k_is); (case c => k_is); (case k => k_is); (case b => exact fun _ _ _ _ _ _ us hl => match us, hl with | [_], _ => rfl)))
      (case d_fewest_needs => (refine' Rw.dn_mk KX G ?a ?l ?c ?k ?b; (case a => k_is); (case l => k_is); (case c => k_is); (case k => k_is); (case b => exact fun _ _ _ _ _ _ us hl => match us, hl with | [_, _], _ => rfl)))
      (case d_freest_of => (refine' Rw.dn_mk KX G ?a ?l ?c ?k ?b; (case a => k_is); (case l => k_is); (case c => k_is); (case k => k_is); (case b => exact fun _ _ _ _ _ _ us hl => match us, hl with | [_, _], _ => rfl)))
      (case d_freest_book => (refine' Rw.dn_mk KX G ?a ?l ?c ?k ?b; (case a => k_is); (case l => k_is); (case c => k_is); (case k => k_is); (case b => exact fun _ _ _ _ _ _ us hl => match us, hl with | [_, _], _ => rfl)))
      (case d_fullest_book => (refine' Rw.dn_mk KX G ?a ?l ?c ?k ?b; (case a => k_is); (case l => k_is); (case c => k_is); (case k => k_is); (case b => exact fun _ _ _ _ _ _ us hl => match us, hl with | [_, _], _ => rfl)))
      (case d_other_rows => (refine' Rw.dn_mk KX G ?a ?l ?c ?k ?b; (case a => k_is); (case l => k_is); (case c => k_is); (case k => k_is); (case b => exact fun _ _ _ _ _ _ us hl => match us, hl with | [_, _], _ => rfl)))
      (case d__law_tape => (refine' Rw.dn_mk KX G ?a ?l ?c ?k ?b; (case a => k_is); (case l => k_is); (case c => k_is); (case k => k_is); (case b => exact fun _ _ _ _ _ _ us hl => match us, hl with | [_], _ => rfl)))
      (case d__law_pick => (refine' Rw.dn_mk KX G ?a ?l ?c ?k ?b; (case a => k_is); (case l => k_is); (case c => k_is); (case k => k_is); (case b => exact fun _ _ _ _ _ _ us hl => match us, hl with | [_, _], _ => rfl)))
      (case d__law_any => (refine' Rw.dn_mk KX G ?a ?l ?c ?k ?b; (case a => k_is); (case l => k_is); (case c => k_is); (case k => k_is); (case b => exact fun _ _ _ _ _ _ us hl => match us, hl with | [_, _], _ => rfl)))
      (case d__law_some_blocks => (refine' Rw.dn_mk KX G ?a ?l ?c ?k ?b; (case a => k_is); (case l => k_is); (case c => k_is); (case k => k_is); (case b => exact fun _ _ _ _ _ _ us hl => match us, hl with | [_, _], _ => rfl)))
      (case d__law_order => (refine' Rw.dn_mk KX G ?a ?l ?c ?k ?b; (case a => k_is); (case l => k_is); (case c => k_is); (case k => k_is); (case b => exact fun _ _ _ _ _ _ us hl => match us, hl with | [_, _], _ => rfl)))
      (case d__law_direct => (refine' Rw.dn_mk KX G ?a ?l ?c ?k ?b; (case a => k_is); (case l => k_is); (case c => k_is); (case k => k_is); (case b => exact fun _ _ _ _ _ _ us hl => match us, hl with | [_], _ => rfl)))
      (case d__law_lot => (refine' Rw.dn_mk KX G ?a ?l ?c ?k ?b; (case a => k_is); (case l => k_is); (case c => k_is); (case k => k_is); (case b => exact fun _ _ _ _ _ _ us hl => match us, hl with | [_], _ => rfl)))
      (case d__law_brought => (refine' Rw.dn_mk KX G ?a ?l ?c ?k ?b; (case a => k_is); (case l => k_is); (case c => k_is); (case k => k_is); (case b => exact fun _ _ _ _ _ _ us hl => match us, hl with | [_, _, _, _], _ => rfl)))
      (case d__law_drawn_blocks => (refine' Rw.dn_mk KX G ?a ?l ?c ?k ?b; (case a => k_is); (case l => k_is); (case c => k_is); (case k => k_is); (case b => exact fun _ _ _ _ _ _ us hl => match us, hl with | [_, _, _], _ => rfl)))
      (case d__law_drawn => (refine' Rw.dn_mk KX G ?a ?l ?c ?k ?b; (case a => k_is); (case l => k_is); (case c => k_is); (case k => k_is); (case b => exact fun _ _ _ _ _ _ us hl => match us, hl with | [_, _], _ => rfl)))
      (case d__law_willing => (refine' Rw.dn_mk KX G ?a ?l ?c ?k ?b; (case a => k_is); (case l => k_is); (case c => k_is); (case k => k_is); (case b => exact fun _ _ _ _ _ _ us hl => match us, hl with | [_, _], _ => rfl)))
      (case d__law_log => (refine' Rw.dn_mk KX G ?a ?l ?c ?k ?b; (case a => k_is); (case l => k_is); (case c => k_is); (case k => k_is); (case b => exact fun _ _ _ _ _ _ us hl => match us, hl with | [_, _], _ => rfl)))
      (case d__law_late => (refine' Rw.dn_mk KX G ?a ?l ?c ?k ?b; (case a => k_is); (case l => k_is); (case c => k_is); (case k => k_is); (case b => exact fun _ _ _ _ _ _ us hl => match us, hl with | [_], _ => rfl)))
      (case d__law_times => (refine' Rw.dn_mk KX G ?a ?l ?c ?k ?b; (case a => k_is); (case l => k_is); (case c => k_is); (case k => k_is); (case b => exact fun _ _ _ _ _ _ us hl => match us, hl with | [_], _ => rfl)))
      (case d__law_dealt => (refine' Rw.dn_mk KX G ?a ?l ?c ?k ?b; (case a => k_is); (case l => k_is); (case c => k_is); (case k => k_is); (case b => exact fun _ _ _ _ _ _ us hl => match us, hl with | [_, _, _, _], _ => rfl)))
      (case d__law_same => (refine' Rw.dn_mk KX G ?a ?l ?c ?k ?b; (case a => k_is); (case l => k_is); (case c => k_is); (case k => k_is); (case b => exact fun _ _ _ _ _ _ us hl => match us, hl with | [_, _], _ => rfl)))
      (case d__law_many_rows => (refine' Rw.dn_mk KX G ?a ?l ?c ?k ?b; (case a => k_is); (case l => k_is); (case c => k_is); (case k => k_is); (case b => exact fun _ _ _ _ _ _ us hl => match us, hl with | [_], _ => rfl)))
      (case d__law_is_book => (refine' Rw.dn_mk KX G ?a ?l ?c ?k ?b; (case a => k_is); (case l => k_is); (case c => k_is); (case k => k_is); (case b => exact fun _ _ _ _ _ _ us hl => match us, hl with | [_, _], _ => rfl)))
    (case fl => (show PySem.W.nsIn _ mainGlobals "law" = some (some (.ref 445)); k_is))
    (case Fn => (refine' Rw.fun_c ?l ?c; (case l => k_is); (case c => k_is)))
    (case df => exact rfl)
    (case hT => exact PySem.W.km_tabs_of Y _ (List.mem_singleton.mpr rfl))
    (case nT => kernel_rfl)
    (case C => exact PySem.W.codeHd_of_K KX (by kernel_rfl))
