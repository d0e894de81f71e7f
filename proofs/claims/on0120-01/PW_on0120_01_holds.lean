import PyProof.Rows.All
import Wide.All
import OpenK.AllK
import Wide.FinOn
import Lean
import PySem.Challenge.RW_on0120_01
set_option Elab.async false
set_option linter.all false
set_option compiler.extract_closed false
set_option genInjectivity false
set_option genSizeOf false
set_option genSizeOfSpec false
open PySem PySem.W PySem.Calls PyProof.Rows
set_option maxRecDepth 100000
namespace Mine
inductive Sm where
  | set (n : Nat)
  | dis (k : Nat)
  | ite1 (t : Nat) (a : Sm)
  | ite2 (t : Nat) (a b : Sm)
  | rep (c : Nat) (b : Sm)
  | blk (l : List Sm) (k : Nat)
  | seq (l : List Sm)

noncomputable def tak (row : List Int) (i most : Nat) : Nat := if row = [] then 0 else ((row.getD (i % row.length) 0).natAbs / 7 ^ (i / row.length)) % most

structure GS where
  i : Nat
  m0 : Nat
  m1 : Nat
noncomputable def GS.tick (g : GS) : GS := { g with i := g.i + 1 }

noncomputable def genL (f : GS → Sm × GS) : Nat → GS → List Sm × GS
  | 0, g => ([], g)
  | n + 1, g => ((genL f n g).1 ++ [(f (genL f n g).2).1], (f (genL f n g).2).2)

noncomputable def genIf (row : List Int) (f : List Nat → GS → Sm × GS) (oo : List Nat) (g : GS) : Sm × GS :=
  let r := f oo g.tick
  if tak row r.2.i 2 = 1 then (.ite2 (tak row g.i 2) r.1 (f oo r.2.tick).1, (f oo r.2.tick).2) else (.ite1 (tak row g.i 2) r.1, r.2.tick)
noncomputable def genRep (row : List Int) (f : List Nat → GS → Sm × GS) (oo : List Nat) (g : GS) : Sm × GS :=
  (.rep (tak row g.i 4) (f oo g.tick).1, (f oo g.tick).2)
noncomputable def genBlk (row : List Int) (f : List Nat → GS → Sm × GS) (oo : List Nat) (g : GS) : Sm × GS :=
  let r := genL (f (oo ++ [g.m1 + 1])) (1 + tak row g.i 3) { g.tick with m1 := g.m1 + 1 }
  (.blk r.1 (g.m1 + 1), r.2)

noncomputable def gen (row : List Int) : Nat → List Nat → GS → Sm × GS
  | 0, oo, g =>
    if tak row g.i 6 = 5 then (.dis (oo.getD (tak row (g.i + 1) oo.length) 0), g.tick.tick)
    else (.set (g.m0 + 1), { g.tick with m0 := g.m0 + 1 })
  | d + 1, oo, g =>
    if tak row g.i 6 = 5 then (.dis (oo.getD (tak row (g.i + 1) oo.length) 0), g.tick.tick)
    else if tak row g.i 6 < 2 then (.set (g.m0 + 1), { g.tick with m0 := g.m0 + 1 })
    else if tak row g.i 6 = 2 then genIf row (gen row d) oo g.tick
    else if tak row g.i 6 = 3 then genRep row (gen row d) oo g.tick
    else genBlk row (gen row d) oo g.tick
end Mine
namespace Mine
noncomputable def bnd : Nat → Nat
  | 0 => 2
  | d + 1 => 3 + 3 * bnd d
noncomputable def GS.ok (g : GS) : Prop := g.m0 ≤ g.i ∧ g.m1 ≤ g.i + 5
noncomputable def Near (b : Nat) (g g' : GS) : Prop := g.i ≤ g'.i ∧ g'.i ≤ g.i + b ∧ (g.ok → g'.ok) ∧ g.m0 ≤ g'.m0 ∧ g.m1 ≤ g'.m1
theorem tak_lt (row : List Int) (i : Nat) {m : Nat} (h : 0 < m) : tak row i m < m := by
  unfold tak
  split
  · exact h
  · exact Nat.mod_lt _ h
theorem Near.refl (g : GS) : Near 0 g g := ⟨Nat.le_refl _, Nat.le_refl _, id, Nat.le_refl _, Nat.le_refl _⟩
theorem Near.trans {a b : Nat} {g g' g'' : GS} (h : Near a g g') (k : Near b g' g'') : Near (a + b) g g'' :=
  ⟨Nat.le_trans h.1 k.1, Nat.le_trans k.2.1 (by rw [← Nat.add_assoc]; exact Nat.add_le_add_right h.2.1 b), fun o => k.2.2.1 (h.2.2.1 o), Nat.le_trans h.2.2.2.1 k.2.2.2.1, Nat.le_trans h.2.2.2.2 k.2.2.2.2⟩
theorem Near.mono {a b : Nat} {g g' : GS} (h : Near a g g') (l : a ≤ b) : Near b g g' := ⟨h.1, Nat.le_trans h.2.1 (Nat.add_le_add_left l _), h.2.2⟩
theorem Near.tick (g : GS) : Near 1 g g.tick := ⟨Nat.le_succ _, Nat.le_refl _, fun o => ⟨Nat.le_succ_of_le o.1, Nat.le_succ_of_le o.2⟩, Nat.le_refl _, Nat.le_refl _⟩
theorem Near.set (g : GS) : Near 1 g { g.tick with m0 := g.m0 + 1 } := ⟨Nat.le_succ _, Nat.le_refl _, fun o => ⟨Nat.succ_le_succ o.1, Nat.le_succ_of_le o.2⟩, Nat.le_succ _, Nat.le_refl _⟩
theorem Near.blk (g : GS) : Near 1 g { g.tick with m1 := g.m1 + 1 } := ⟨Nat.le_succ _, Nat.le_refl _, fun o => ⟨Nat.le_succ_of_le o.1, by have := o.2; simp only [GS.tick]; omega⟩, Nat.le_refl _, Nat.le_succ _⟩
theorem genL_near {f : GS → Sm × GS} {b : Nat} (hf : ∀ g, Near b g (f g).2) : ∀ (n : Nat) (g : GS), Near (n * b) g (genL f n g).2
  | 0, g => (Near.refl g).mono (Nat.zero_le _)
  | n + 1, g => ((genL_near hf n g).trans (hf _)).mono (Nat.le_of_eq (Nat.succ_mul n b).symm)
theorem gen_near (row : List Int) : ∀ (d : Nat) (oo : List Nat) (g : GS), Near (bnd d) g (gen row d oo g).2
  | 0, oo, g => by
    rw [gen]
    split
    · exact (Near.tick _).trans (Near.tick _)
    · exact (Near.set _).mono (by decide)
  | d + 1, oo, g => by
    have ih := gen_near row d
    have hb : 1 + 1 ≤ bnd (d + 1) := by rw [bnd]; omega
    have hb2 : 1 + (1 + bnd d) ≤ bnd (d + 1) := by rw [bnd]; omega
    rw [gen]
    split
    · exact ((Near.tick _).trans (Near.tick _)).mono hb
    split
    · exact (Near.set _).mono (Nat.le_trans (by decide) hb)
    split
    · rw [genIf]
      split
      · exact ((Near.tick _).trans ((Near.tick _).trans ((ih oo _).trans ((Near.tick _).trans (ih oo _))))).mono (by rw [bnd]; omega)
      · exact ((Near.tick _).trans ((Near.tick _).trans ((ih oo _).trans (Near.tick _)))).mono (by rw [bnd]; omega)
    split
    · exact ((Near.tick _).trans ((Near.tick _).trans (ih oo _))).mono hb2
    · have h2 := tak_lt row g.tick.i (m := 3) (by decide)
      have h3 : (1 + tak row g.tick.i 3) * bnd d ≤ 3 * bnd d := Nat.mul_le_mul_right _ (by omega)
      exact ((Near.tick _).trans ((Near.blk _).trans (genL_near (ih (oo ++ [g.tick.m1 + 1])) (1 + tak row g.tick.i 3) _))).mono (by rw [bnd]; omega)
end Mine
namespace Mine
theorem genL_length (f : GS → Sm × GS) : ∀ (n : Nat) (g : GS), (genL f n g).1.length = n
  | 0, _ => rfl
  | n + 1, g => by simp [genL, genL_length f n g]
end Mine
namespace Mine
inductive Row where
  | set (n : Nat) | dis (k : Nat) | unl (t a : Nat) | jmp (a : Nat) | tim (q c : Nat) | agn (q a : Nat) | ent (k a : Nat) | lea (k : Nat) | ret

mutual
noncomputable def nsl : Sm → Nat
  | .set _ => 0
  | .dis _ => 0
  | .ite1 _ a => nsl a
  | .ite2 _ a b => nsl a + nsl b
  | .rep _ b => 1 + nsl b
  | .blk l _ => nslL l
  | .seq l => nslL l
noncomputable def nslL : List Sm → Nat
  | [] => 0
  | d :: l => nsl d + nslL l
end
mutual
noncomputable def sz : Sm → Nat
  | .set _ => 1
  | .dis _ => 1
  | .ite1 _ a => 1 + sz a
  | .ite2 _ a b => 2 + sz a + sz b
  | .rep _ b => 3 + sz b
  | .blk l _ => 2 + szL l
  | .seq l => szL l
noncomputable def szL : List Sm → Nat
  | [] => 0
  | d :: l => sz d + szL l
end
mutual
noncomputable def hgt : Sm → Nat
  | .set _ => 1
  | .dis _ => 1
  | .ite1 _ a => 1 + hgt a
  | .ite2 _ a b => 1 + hgt a + hgt b
  | .rep _ b => 1 + hgt b
  | .blk l _ => 1 + hgtL l
  | .seq l => 1 + hgtL l
noncomputable def hgtL : List Sm → Nat
  | [] => 0
  | d :: l => max (hgt d) (hgtL l)
end
mutual
noncomputable def comp : Sm → Nat → Nat → List Row
  | .set n, _, _ => [.set n]
  | .dis k, _, _ => [.dis k]
  | .ite1 t a, p, q => .unl t (p + 1 + sz a) :: comp a (p + 1) q
  | .ite2 t a b, p, q => .unl t (p + 1 + sz a + 1) :: (comp a (p + 1) q ++ .jmp (p + 1 + sz a + 1 + sz b) :: comp b (p + 1 + sz a + 1) (q + nsl a))
  | .rep c b, p, q => .tim q c :: .agn q (p + 2 + sz b + 1) :: (comp b (p + 2) (q + 1) ++ [.jmp (p + 1)])
  | .blk l k, p, q => .ent k (p + 1 + szL l + 1) :: (compL l (p + 1) q ++ [.lea k])
  | .seq l, p, q => compL l p q
noncomputable def compL : List Sm → Nat → Nat → List Row
  | [], _, _ => []
  | d :: l, p, q => comp d p q ++ compL l (p + sz d) (q + nsl d)
end
mutual
theorem comp_length : ∀ (d : Sm) (p q : Nat), (comp d p q).length = sz d
  | .set n, p, q => by simp [comp, sz]
  | .dis k, p, q => by simp [comp, sz]
  | .ite1 t a, p, q => by simp [comp, sz, comp_length a]; omega
  | .ite2 t a b, p, q => by simp [comp, sz, comp_length a, comp_length b]; omega
  | .rep c b, p, q => by simp [comp, sz, comp_length b]; omega
  | .blk l k, p, q => by simp [comp, sz, compL_length l]; omega
  | .seq l, p, q => by simp [comp, sz, compL_length l]
theorem compL_length : ∀ (l : List Sm) (p q : Nat), (compL l p q).length = szL l
  | [], p, q => by simp [compL, szL]
  | d :: l, p, q => by simp [compL, szL, comp_length d, compL_length l]
end
theorem szL_snoc (d : Sm) : ∀ l : List Sm, szL (l ++ [d]) = szL l + sz d
  | [] => by simp [szL]
  | e :: l => by simp only [List.cons_append, szL, szL_snoc d l]; omega
theorem nslL_snoc (d : Sm) : ∀ l : List Sm, nslL (l ++ [d]) = nslL l + nsl d
  | [] => by simp [nslL]
  | e :: l => by simp only [List.cons_append, nslL, nslL_snoc d l]; omega
theorem compL_snoc (d : Sm) : ∀ (l : List Sm) (p q : Nat), compL (l ++ [d]) p q = compL l p q ++ comp d (p + szL l) (q + nslL l)
  | [], p, q => by simp [compL, szL, nslL]
  | e :: l, p, q => by simp only [List.cons_append, compL, compL_snoc d l, szL, nslL, List.append_assoc, Nat.add_assoc]
theorem hgtL_mem {d : Sm} : ∀ {l : List Sm}, d ∈ l → hgt d ≤ hgtL l
  | e :: l, h => by
    simp only [hgtL]
    rcases List.mem_cons.mp h with rfl | h
    · exact Nat.le_max_left _ _
    · exact Nat.le_trans (hgtL_mem h) (Nat.le_max_right _ _)
theorem szL_take (l : List Sm) (i : Nat) (h : i < l.length) : szL (l.take i) + sz l[i] ≤ szL l := by
  induction l generalizing i with
  | nil => exact absurd h (Nat.not_lt_zero _)
  | cons d l ih =>
    cases i with
    | zero => simp only [List.take_zero, List.getElem_cons_zero, szL]; omega
    | succ i =>
      have := ih i (by simpa using h)
      simp only [List.take_succ_cons, List.getElem_cons_succ, szL]; omega
end Mine
namespace Mine
noncomputable def tg : Row → List Nat
  | .unl _ a => [a]
  | .jmp a => [a]
  | .agn _ a => [a]
  | .ent _ a => [a]
  | _ => []
noncomputable def ft : Row → Bool
  | .jmp _ => false
  | .ret => false
  | _ => true
noncomputable def bh : Row → List Nat → Option (List Nat)
  | .ent k _, o => some (o ++ [k])
  | .lea k, o => if o.getLast? = some k then some o.dropLast else none
  | _, o => some o
end Mine
namespace Mine
structure Ty (rows : List Row) (sc : Nat → List Nat) : Prop where
  zero : sc 0 = []
  step : ∀ i r, rows[i]? = some r → ∃ os', bh r (sc i) = some os' ∧ (∀ t ∈ tg r, t < rows.length ∧ sc t = sc i) ∧ (ft r = true → i + 1 < rows.length ∧ sc (i + 1) = os') ∧ (r = .ret → sc i = [])
  len : ∀ i, (sc i).length ≤ 90
theorem tg_le (r : Row) : (tg r).length ≤ 1 := by cases r <;> simp [tg]
end Mine
namespace Mine
noncomputable def rdR (r : List Nat × Option Nat) : Nat → List Nat × Option Nat
  | 0 => ([], none)
  | c + 1 => if r.2.isSome then r else ((rdR r c).1 ++ r.1, none)
mutual
noncomputable def rd : Sm → List Nat × Option Nat
  | .set n => ([n], none)
  | .dis k => ([], some k)
  | .ite1 t a => if t = 1 then rd a else ([], none)
  | .ite2 t a b => if t = 1 then rd a else rd b
  | .rep c b => rdR (rd b) c
  | .blk l k => ((rdL l).1, if (rdL l).2 = some k then none else (rdL l).2)
  | .seq l => rdL l
noncomputable def rdL : List Sm → List Nat × Option Nat
  | [] => ([], none)
  | d :: l => if (rd d).2.isSome then rd d else ((rd d).1 ++ (rdL l).1, (rdL l).2)
end
theorem rdL_app (l₂ : List Sm) : ∀ l₁ : List Sm, rdL (l₁ ++ l₂) = if (rdL l₁).2.isSome then rdL l₁ else ((rdL l₁).1 ++ (rdL l₂).1, (rdL l₂).2)
  | [] => by simp [rdL]
  | d :: l => by
    simp only [List.cons_append, rdL, rdL_app l₂ l]
    by_cases h : (rd d).2.isSome = true
    · simp [h]
    · simp only [h, if_false, Bool.false_eq_true]
      by_cases h2 : (rdL l).2.isSome = true
      · simp [h2]
      · simp [h2, List.append_assoc]
theorem rdL_one (d : Sm) : rdL [d] = rd d := by
  simp only [rdL]
  by_cases h : (rd d).2.isSome = true
  · simp [h]
  · have h2 : (rd d).2 = none := by simpa using h
    simp only [h, if_false, Bool.false_eq_true, List.append_nil]
    exact Prod.ext rfl h2.symm
theorem rdL_next {l : List Sm} {i : Nat} {d : Sm} (hd : l[i]? = some d) (h : (rdL (l.take i)).2 = none) : rdL (l.take (i + 1)) = ((rdL (l.take i)).1 ++ (rd d).1, (rd d).2) := by
  rw [List.take_add_one, hd, Option.toList, rdL_app, rdL_one, h]; rfl
theorem rdL_stop {l : List Sm} {i : Nat} {d : Sm} {k : Nat} (hd : l[i]? = some d) (h : (rdL (l.take i)).2 = none) (hk : (rd d).2 = some k) : rdL l = ((rdL (l.take i)).1 ++ (rd d).1, some k) := by
  have h1 := rdL_next hd h
  rw [hk] at h1
  have h2 : l = l.take (i + 1) ++ l.drop (i + 1) := (List.take_append_drop _ _).symm
  rw [h2, rdL_app, ← h2, h1]; rfl
mutual
noncomputable def ob : Sm → Nat
  | .set _ => 1
  | .dis _ => 0
  | .ite1 _ a => ob a
  | .ite2 _ a b => max (ob a) (ob b)
  | .rep c b => c * (ob b + 1)
  | .blk l _ => obL l
  | .seq l => obL l
noncomputable def obL : List Sm → Nat
  | [] => 0
  | d :: l => ob d + obL l
end
theorem rdR_len (r : List Nat × Option Nat) : ∀ c, (rdR r c).1.length ≤ c * r.1.length
  | 0 => by simp [rdR]
  | c + 1 => by
    have := rdR_len r c
    simp only [rdR]
    rw [Nat.succ_mul]
    split
    · omega
    · simp only [List.length_append]; omega
mutual
theorem rd_ob : ∀ d : Sm, (rd d).1.length ≤ ob d
  | .set n => by simp [rd, ob]
  | .dis k => by simp [rd, ob]
  | .ite1 t a => by
    have := rd_ob a
    simp only [rd, ob]
    split
    · exact this
    · simp
  | .ite2 t a b => by
    have h1 := rd_ob a
    have h2 := rd_ob b
    simp only [rd, ob]
    split
    · exact Nat.le_trans h1 (Nat.le_max_left _ _)
    · exact Nat.le_trans h2 (Nat.le_max_right _ _)
  | .rep c b => by
    have h1 := rd_ob b
    simp only [rd, ob]
    exact Nat.le_trans (rdR_len _ _) (Nat.mul_le_mul_left _ (Nat.le_succ_of_le h1))
  | .blk l k => by simp only [rd, ob]; exact rdL_ob l
  | .seq l => by simp only [rd, ob]; exact rdL_ob l
theorem rdL_ob : ∀ l : List Sm, (rdL l).1.length ≤ obL l
  | [] => by simp [rdL, obL]
  | d :: l => by
    have h1 := rd_ob d
    have h2 := rdL_ob l
    simp only [rdL, obL]
    split
    · omega
    · simp only [List.length_append]; omega
end
theorem obL_take {l : List Sm} {i : Nat} {d : Sm} (h : l[i]? = some d) : obL (l.take i) + ob d ≤ obL l := by
  induction l generalizing i with
  | nil => cases h
  | cons e l ih =>
    cases i with
    | zero => cases h; simp only [List.take_zero, obL]; omega
    | succ i =>
      have := ih (i := i) (by simpa using h)
      simp only [List.take_succ_cons, obL]; omega
noncomputable def lv : Option Nat → Int
  | none => -1
  | some k => k
theorem lv_neg {o : Option Nat} : lv o < 0 ↔ o = none := by cases o <;> simp [lv] <;> omega
end Mine
namespace Mine
theorem rdR_none {r : List Nat × Option Nat} (h : r.2 = none) (i : Nat) : rdR r (i + 1) = ((rdR r i).1 ++ r.1, none) := by simp [rdR, h]
theorem rdR_some {r : List Nat × Option Nat} {k : Nat} (h : r.2 = some k) {c : Nat} (hc : 0 < c) : rdR r c = r := by
  cases c with
  | zero => exact absurd hc (Nat.lt_irrefl _)
  | succ c => simp [rdR, h]
theorem rdR_none2 {r : List Nat × Option Nat} (h : r.2 = none) : ∀ c, (rdR r c).2 = none
  | 0 => rfl
  | c + 1 => by rw [rdR_none h]
end Mine
namespace Mine
structure MS where
  pc : Nat
  out : List Nat
  op : List (Nat × Nat)
  ct : Nat → Option Int
noncomputable def upd (f : Nat → Option Int) (q : Nat) (x : Int) : Nat → Option Int := fun k => if k = q then some x else f k
inductive Stp : Row → MS → MS → Prop
  | set (n m) : Stp (.set n) m ⟨m.pc + 1, m.out ++ [n], m.op, m.ct⟩
  | jmp (a m) : Stp (.jmp a) m ⟨a, m.out, m.op, m.ct⟩
  | unl (t a m) : Stp (.unl t a) m ⟨if t = 1 then m.pc + 1 else a, m.out, m.op, m.ct⟩
  | tim (q c m) : Stp (.tim q c) m ⟨m.pc + 1, m.out, m.op, upd m.ct q c⟩
  | agn (q a x) (m : MS) : m.ct q = some x → Stp (.agn q a) m ⟨if x - 1 < 0 then a else m.pc + 1, m.out, m.op, upd m.ct q (x - 1)⟩
  | ent (k a m) : Stp (.ent k a) m ⟨m.pc + 1, m.out, m.op ++ [(k, a)], m.ct⟩
  | lea (k a l) (m : MS) : m.op = l ++ [(k, a)] → Stp (.lea k) m ⟨m.pc + 1, m.out, l, m.ct⟩
  | dis (k a l l') (m : MS) : m.op = l ++ (k, a) :: l' → k ∉ l.map (·.1) → Stp (.dis k) m ⟨a, m.out, l, m.ct⟩
inductive Run (rows : List Row) : Nat → MS → MS → Prop
  | zero (m) : Run rows 0 m m
  | succ {n m m' m''} {r : Row} : Run rows n m m' → rows[m'.pc]? = some r → Stp r m' m'' → Run rows (n + 1) m m''
theorem Run.trans {rows : List Row} {i : Nat} {a b : MS} (h : Run rows i a b) : ∀ {j : Nat} {c : MS}, Run rows j b c → Run rows (i + j) a c
  | _, _, .zero _ => h
  | _, _, .succ h1 h2 h3 => .succ (h.trans h1) h2 h3
theorem Run.one {rows : List Row} {r : Row} {m m' : MS} (h : rows[m.pc]? = some r) (s : Stp r m m') : Run rows 1 m m' := .succ (.zero m) h s
end Mine
namespace Mine
theorem Run.tr {rows : List Row} {n : Nat} {a b : MS} (h : Run rows n a b) : ∃ tr : Nat → MS, tr 0 = a ∧ tr n = b ∧ ∀ i, i < n → ∃ r, rows[(tr i).pc]? = some r ∧ Stp r (tr i) (tr (i + 1)) := by
  induction h with
  | zero m => exact ⟨fun _ => m, rfl, rfl, fun i h => absurd h (Nat.not_lt_zero _)⟩
  | @succ n m m' m'' r h1 h2 h3 ih =>
    obtain ⟨tr, e0, en, hs⟩ := ih
    refine ⟨fun i => if i ≤ n then tr i else m'', by simp [e0], if_neg (by omega), fun i hi => ?_⟩
    by_cases hin : i < n
    · obtain ⟨r', q1, q2⟩ := hs i hin
      refine ⟨r', ?_, ?_⟩
      · simp only [Nat.le_of_lt hin, if_true]; exact q1
      · simp only [Nat.le_of_lt hin, if_true, show i + 1 ≤ n from hin]; exact q2
    · have e : i = n := by omega
      subst e
      refine ⟨r, ?_, ?_⟩
      · simp only [Nat.le_refl, if_true]; rw [en]; exact h2
      · simp only [Nat.le_refl, if_true, show ¬ i + 1 ≤ i by omega, if_false]; rw [en]; exact h3
end Mine
namespace Mine
noncomputable def WF : Nat → List Nat → Sm → Prop
  | _, _, .set _ => True
  | _, oo, .dis k => k ∈ oo
  | d + 1, oo, .ite1 _ a => WF d oo a
  | d + 1, oo, .ite2 _ a b => WF d oo a ∧ WF d oo b
  | d + 1, oo, .rep c b => c ≤ 3 ∧ WF d oo b
  | d + 1, oo, .blk l k => k ∉ oo ∧ l.length ≤ 4 ∧ ∀ x ∈ l, WF d (oo ++ [k]) x
  | _, _, _ => False
theorem getD_mem {l : List Nat} {i : Nat} (h : i < l.length) : l.getD i 0 ∈ l := by
  rw [List.getD_eq_getElem?_getD, List.getElem?_eq_getElem h]; exact List.getElem_mem h
theorem genL_wf {f : GS → Sm × GS} {P : Sm → Prop} {b lo : Nat} (hf : ∀ g, Near b g (f g).2) (hP : ∀ g, lo ≤ g.m1 → P (f g).1) : ∀ (n : Nat) (g : GS), lo ≤ g.m1 → ∀ x ∈ (genL f n g).1, P x
  | 0, _, _ => fun x hx => nomatch hx
  | n + 1, g, h => fun x hx => by
    simp only [genL] at hx
    rcases List.mem_append.mp hx with hx | hx
    · exact genL_wf hf hP n g h x hx
    · cases List.mem_singleton.mp hx
      exact hP _ (Nat.le_trans h (genL_near hf n g).2.2.2.2)
theorem gen_wf (row : List Int) : ∀ (d : Nat) (oo : List Nat) (g : GS), 0 < oo.length → (∀ k ∈ oo, k ≤ g.m1) → WF d oo (gen row d oo g).1
  | 0, oo, g, h0, hk => by
    simp only [gen]
    split
    · simp only [WF]; exact getD_mem (tak_lt _ _ h0)
    · simp only [WF]
  | d + 1, oo, g, h0, hk => by
    simp only [gen]
    split
    · simp only [WF]; exact getD_mem (tak_lt _ _ h0)
    split
    · simp only [WF]
    split
    · simp only [genIf]
      have h1 := gen_near row d oo g.tick.tick
      split
      · simp only [WF]
        exact ⟨gen_wf row d oo _ h0 hk, gen_wf row d oo _ h0 fun k h => Nat.le_trans (hk k h) h1.2.2.2.2⟩
      · simp only [WF]
        exact gen_wf row d oo _ h0 hk
    split
    · simp only [genRep, WF]
      exact ⟨Nat.le_of_lt_succ (tak_lt _ _ (by decide)), gen_wf row d oo _ h0 hk⟩
    · simp only [genBlk, WF]
      refine ⟨fun h => absurd (hk _ h) (by simp only [GS.tick]; omega), ?_, ?_⟩
      · rw [genL_length]
        have := tak_lt row g.tick.i (m := 3) (by decide)
        omega
      · refine genL_wf (lo := g.m1 + 1) (gen_near row d _) (fun g' h' => gen_wf row d _ g' (by simp) fun k h => ?_) _ _ (Nat.le_refl _)
        rcases List.mem_append.mp h with h | h
        · have := hk k h; omega
        · cases List.mem_singleton.mp h; exact h'
end Mine
namespace Mine
mutual
noncomputable def cst : Sm → Nat
  | .set _ => 1
  | .dis _ => 1
  | .ite1 _ a => 1 + cst a
  | .ite2 _ a b => 2 + cst a + cst b
  | .rep c b => 2 + c * (cst b + 2)
  | .blk l _ => 2 + cstL l
  | .seq l => cstL l
noncomputable def cstL : List Sm → Nat
  | [] => 0
  | d :: l => cst d + cstL l
end
theorem szL_le {l : List Sm} {b : Nat} (h : ∀ x ∈ l, sz x ≤ b) : szL l ≤ l.length * b := by
  induction l with
  | nil => simp [szL]
  | cons d l ih =>
    have h1 := h d (.head _)
    have h2 := ih fun x hx => h x (.tail _ hx)
    simp only [szL, List.length_cons, Nat.succ_mul]; omega
theorem obL_le {l : List Sm} {b : Nat} (h : ∀ x ∈ l, ob x ≤ b) : obL l ≤ l.length * b := by
  induction l with
  | nil => simp [obL]
  | cons d l ih =>
    have h1 := h d (.head _)
    have h2 := ih fun x hx => h x (.tail _ hx)
    simp only [obL, List.length_cons, Nat.succ_mul]; omega
theorem cstL_le {l : List Sm} {b : Nat} (h : ∀ x ∈ l, cst x ≤ b) : cstL l ≤ l.length * b := by
  induction l with
  | nil => simp [cstL]
  | cons d l ih =>
    have h1 := h d (.head _)
    have h2 := ih fun x hx => h x (.tail _ hx)
    simp only [cstL, List.length_cons, Nat.succ_mul]; omega
theorem hgtL_le {l : List Sm} {b : Nat} (h : ∀ x ∈ l, hgt x ≤ b) : hgtL l ≤ b := by
  induction l with
  | nil => simp [hgtL]
  | cons d l ih => simp only [hgtL]; exact Nat.max_le.mpr ⟨h d (.head _), ih fun x hx => h x (.tail _ hx)⟩
noncomputable def bd : Nat → Nat
  | 0 => 1
  | d + 1 => 8 + 4 * bd d
noncomputable def hb : Nat → Nat
  | 0 => 1
  | d + 1 => 1 + 2 * hb d
theorem len_mul {n b : Nat} (h : n ≤ 3) : n * b ≤ 3 * b := Nat.mul_le_mul_right _ h
theorem wf_bd : ∀ (d : Nat) (oo : List Nat) (x : Sm), WF d oo x → sz x ≤ bd d ∧ ob x ≤ bd d ∧ cst x ≤ bd d ∧ hgt x ≤ hb d
  | 0, oo, x, h => by cases x <;> simp only [WF] at h <;> simp only [sz, ob, cst, hgt, bd, hb] <;> exact ⟨by omega, by omega, by omega, by omega⟩
  | d + 1, oo, x, h => by
    have ih := wf_bd d
    cases x with
    | set n => simp only [sz, ob, cst, hgt, bd, hb]; exact ⟨by omega, by omega, by omega, by omega⟩
    | dis n => simp only [sz, ob, cst, hgt, bd, hb]; exact ⟨by omega, by omega, by omega, by omega⟩
    | ite1 t a => simp only [WF] at h; obtain ⟨h1, h2, h3, h4⟩ := ih _ _ h; simp only [sz, ob, cst, hgt, bd, hb]; exact ⟨by omega, by omega, by omega, by omega⟩
    | ite2 t a b => simp only [WF] at h; obtain ⟨h1, h2, h3, h4⟩ := ih _ _ h.1; obtain ⟨k1, k2, k3, k4⟩ := ih _ _ h.2; simp only [sz, ob, cst, hgt, bd, hb]; exact ⟨by omega, by omega, by omega, by omega⟩
    | rep c b =>
      simp only [WF] at h
      obtain ⟨h1, h4, h5, h6⟩ := ih _ _ h.2
      have h2 : c * (ob b + 1) ≤ 3 * (ob b + 1) := len_mul h.1
      have h3 : c * (cst b + 2) ≤ 3 * (cst b + 2) := len_mul h.1
      simp only [sz, ob, cst, hgt, bd, hb]; exact ⟨by omega, by omega, by omega, by omega⟩
    | blk l k =>
      simp only [WF] at h
      obtain ⟨_, hl, hx⟩ := h
      have h1 := szL_le (l := l) (b := bd d) fun x hx' => (ih _ _ (hx x hx')).1
      have h2 := obL_le (l := l) (b := bd d) fun x hx' => (ih _ _ (hx x hx')).2.1
      have h3 := cstL_le (l := l) (b := bd d) fun x hx' => (ih _ _ (hx x hx')).2.2.1
      have h4 := hgtL_le (l := l) (b := hb d) fun x hx' => (ih _ _ (hx x hx')).2.2.2
      have h5 : l.length * bd d ≤ 4 * bd d := Nat.mul_le_mul_right _ hl
      simp only [sz, ob, cst, hgt, bd, hb]; exact ⟨by omega, by omega, by omega, by omega⟩
    | seq l => simp only [WF] at h
end Mine
namespace Mine
mutual
noncomputable def scl : Sm → List Nat → List (List Nat)
  | .set _, oo => [oo]
  | .dis _, oo => [oo]
  | .ite1 _ a, oo => oo :: scl a oo
  | .ite2 _ a b, oo => oo :: (scl a oo ++ oo :: scl b oo)
  | .rep _ b, oo => oo :: oo :: (scl b oo ++ [oo])
  | .blk l k, oo => oo :: (sclL l (oo ++ [k]) ++ [oo ++ [k]])
  | .seq l, oo => sclL l oo
noncomputable def sclL : List Sm → List Nat → List (List Nat)
  | [], _ => []
  | d :: l, oo => scl d oo ++ sclL l oo
end
mutual
theorem scl_length : ∀ (d : Sm) (oo : List Nat), (scl d oo).length = sz d
  | .set n, _ => rfl
  | .dis k, _ => rfl
  | .ite1 t a, oo => by simp [scl, sz, scl_length a]; omega
  | .ite2 t a b, oo => by simp [scl, sz, scl_length a, scl_length b]; omega
  | .rep c b, oo => by simp [scl, sz, scl_length b]; omega
  | .blk l k, oo => by simp [scl, sz, sclL_length l]; omega
  | .seq l, oo => by simp [scl, sz, sclL_length l]
theorem sclL_length : ∀ (l : List Sm) (oo : List Nat), (sclL l oo).length = szL l
  | [], _ => rfl
  | d :: l, oo => by simp [sclL, szL, scl_length d, sclL_length l]
end
noncomputable def At {α : Type} (rows : List α) (p : Nat) (l : List α) : Prop := ∀ i r, l[i]? = some r → rows[p + i]? = some r
theorem At.left {α : Type} {rows a b : List α} {p : Nat} (h : At rows p (a ++ b)) : At rows p a := fun i r e => h i r (by rw [List.getElem?_append_left (List.getElem?_eq_some_iff.mp e).1]; exact e)
theorem At.right {α : Type} {rows a b : List α} {p q : Nat} (h : At rows p (a ++ b)) (hq : q = p + a.length) : At rows q b := fun i r e => by
  have := h (a.length + i) r (by rw [List.getElem?_append_right (Nat.le_add_right _ _), Nat.add_sub_cancel_left]; exact e)
  rw [hq, Nat.add_assoc]; exact this
theorem At.head {α : Type} {rows b : List α} {p : Nat} {x : α} (h : At rows p (x :: b)) : rows[p]? = some x := h 0 x rfl
theorem At.tail {α : Type} {rows b : List α} {p : Nat} {x : α} (h : At rows p (x :: b)) : At rows (p + 1) b := fun i r e => by
  have := h (i + 1) r (by simpa using e)
  rw [show p + 1 + i = p + (i + 1) by omega]; exact this
mutual
theorem scl_head : ∀ (d : Sm) (oo : List Nat) (ss : List (List Nat)) (p : Nat), At ss p (scl d oo) → ss[p + sz d]? = some oo → ss[p]? = some oo
  | .set n, oo, ss, p, h, _ => h.head
  | .dis n, oo, ss, p, h, _ => h.head
  | .ite1 _ _, oo, ss, p, h, _ => by simp only [scl] at h; exact h.head
  | .ite2 _ _ _, oo, ss, p, h, _ => by simp only [scl] at h; exact h.head
  | .rep _ _, oo, ss, p, h, _ => by simp only [scl] at h; exact h.head
  | .blk _ _, oo, ss, p, h, _ => by simp only [scl] at h; exact h.head
  | .seq l, oo, ss, p, h, e => by simp only [scl, sz] at h e; exact sclL_head l oo ss p h e
theorem sclL_head : ∀ (l : List Sm) (oo : List Nat) (ss : List (List Nat)) (p : Nat), At ss p (sclL l oo) → ss[p + szL l]? = some oo → ss[p]? = some oo
  | [], oo, ss, p, h, e => by simpa [szL] using e
  | d :: l, oo, ss, p, h, e => by
    simp only [sclL] at h
    simp only [szL] at e
    exact scl_head d oo ss p h.left (sclL_head l oo ss (p + sz d) (h.right (by rw [scl_length])) (by rw [Nat.add_assoc]; exact e))
end
noncomputable def Ok (rows : List Row) (ss : List (List Nat)) (i : Nat) : Prop := ∀ r, rows[i]? = some r → ∃ o os', ss[i]? = some o ∧ bh r o = some os' ∧ (∀ t ∈ tg r, t < rows.length ∧ ss[t]? = some o) ∧ (ft r = true → i + 1 < rows.length ∧ ss[i + 1]? = some os') ∧ (r = .ret → o = [])
theorem ok_of {rows : List Row} {ss : List (List Nat)} {i : Nat} {r : Row} {o os' : List Nat} (hr : rows[i]? = some r) (hs : ss[i]? = some o) (hb : bh r o = some os') (ht : ∀ t ∈ tg r, t < rows.length ∧ ss[t]? = some o) (hf : ft r = true → i + 1 < rows.length ∧ ss[i + 1]? = some os') (hn : r = .ret → o = []) : Ok rows ss i := fun r' e => by
  rw [hr] at e; cases e
  exact ⟨o, os', hs, hb, ht, hf, hn⟩
mutual
theorem ok_stmt : ∀ (d : Sm) (oo : List Nat) (rows : List Row) (ss : List (List Nat)) (p q : Nat), ss.length = rows.length → At rows p (comp d p q) → At ss p (scl d oo) → ss[p + sz d]? = some oo → ∀ i, p ≤ i → i < p + sz d → Ok rows ss i
  | .set n, oo, rows, ss, p, q, hl, hr, hs, he, i, h1, h2 => by
    simp only [sz] at h2 he
    have : i = p := by omega
    subst this
    simp only [comp] at hr
    exact ok_of hr.head hs.head rfl (fun t ht => nomatch ht) (fun _ => ⟨hl ▸ (List.getElem?_eq_some_iff.mp he).1, he⟩) (fun h => nomatch h)
  | .dis n, oo, rows, ss, p, q, hl, hr, hs, he, i, h1, h2 => by
    simp only [sz] at h2 he
    have : i = p := by omega
    subst this
    simp only [comp] at hr
    exact ok_of hr.head hs.head rfl (fun t ht => nomatch ht) (fun _ => ⟨hl ▸ (List.getElem?_eq_some_iff.mp he).1, he⟩) (fun h => nomatch h)
  | .ite1 t a, oo, rows, ss, p, q, hl, hr, hs, he, i, h1, h2 => by
    simp only [sz] at h2 he
    simp only [comp] at hr
    simp only [scl] at hs
    have e1 : ss[p + 1 + sz a]? = some oo := by rw [Nat.add_assoc]; exact he
    have e2 := scl_head a oo ss (p + 1) hs.tail e1
    by_cases h : i = p
    · subst h
      exact ok_of hr.head hs.head rfl (fun t ht => by cases List.mem_singleton.mp ht; exact ⟨hl ▸ (List.getElem?_eq_some_iff.mp e1).1, e1⟩) (fun _ => ⟨hl ▸ (List.getElem?_eq_some_iff.mp e2).1, e2⟩) (fun h => nomatch h)
    · exact ok_stmt a oo rows ss (p + 1) q hl hr.tail hs.tail e1 i (by omega) (by omega)
  | .ite2 t a b, oo, rows, ss, p, q, hl, hr, hs, he, i, h1, h2 => by
    simp only [sz] at h2 he
    simp only [comp] at hr
    simp only [scl] at hs
    have r1 := hr.tail.left
    have r2 := hr.tail.right (q := p + 1 + sz a) (by rw [comp_length])
    have s1 := hs.tail.left
    have s2 := hs.tail.right (q := p + 1 + sz a) (by rw [scl_length])
    have e3 : ss[p + 1 + sz a + 1 + sz b]? = some oo := by rw [show p + 1 + sz a + 1 + sz b = p + (2 + sz a + sz b) by omega]; exact he
    have e2 := scl_head b oo ss _ s2.tail e3
    have e1 := scl_head a oo ss _ s1 s2.head
    by_cases h : i = p
    · subst h
      exact ok_of hr.head hs.head rfl (fun t ht => by cases List.mem_singleton.mp ht; exact ⟨hl ▸ (List.getElem?_eq_some_iff.mp e2).1, e2⟩) (fun _ => ⟨hl ▸ (List.getElem?_eq_some_iff.mp e1).1, e1⟩) (fun h => nomatch h)
    by_cases h' : i < p + 1 + sz a
    · exact ok_stmt a oo rows ss (p + 1) q hl r1 s1 s2.head i (by omega) h'
    by_cases h'' : i = p + 1 + sz a
    · subst h''
      exact ok_of r2.head s2.head rfl (fun t ht => by cases List.mem_singleton.mp ht; exact ⟨hl ▸ (List.getElem?_eq_some_iff.mp e3).1, e3⟩) (fun h => nomatch h) (fun h => nomatch h)
    · exact ok_stmt b oo rows ss _ _ hl r2.tail s2.tail e3 i (by omega) (by omega)
  | .rep c b, oo, rows, ss, p, q, hl, hr, hs, he, i, h1, h2 => by
    simp only [sz] at h2 he
    simp only [comp] at hr
    simp only [scl] at hs
    have r1 := hr.tail.tail.left
    have r2 := hr.tail.tail.right (q := p + 2 + sz b) (by rw [comp_length])
    have s1 := hs.tail.tail.left
    have s2 := hs.tail.tail.right (q := p + 2 + sz b) (by rw [scl_length])
    have e3 : ss[p + 2 + sz b + 1]? = some oo := by rw [show p + 2 + sz b + 1 = p + (3 + sz b) by omega]; exact he
    have e1 : ss[p + 1 + 1]? = some oo := scl_head b oo ss _ s1 s2.head
    have e0 := hs.tail.head
    by_cases h : i = p
    · subst h
      exact ok_of hr.head hs.head rfl (fun t ht => nomatch ht) (fun _ => ⟨hl ▸ (List.getElem?_eq_some_iff.mp e0).1, e0⟩) (fun h => nomatch h)
    by_cases h0 : i = p + 1
    · subst h0
      exact ok_of hr.tail.head e0 rfl (fun t ht => by cases List.mem_singleton.mp ht; exact ⟨hl ▸ (List.getElem?_eq_some_iff.mp e3).1, e3⟩) (fun _ => ⟨hl ▸ (List.getElem?_eq_some_iff.mp e1).1, e1⟩) (fun h => nomatch h)
    by_cases h' : i < p + 2 + sz b
    · exact ok_stmt b oo rows ss (p + 2) (q + 1) hl r1 s1 s2.head i (by omega) h'
    have h'' : i = p + 2 + sz b := by omega
    subst h''
    exact ok_of r2.head s2.head rfl (fun t ht => by cases List.mem_singleton.mp ht; exact ⟨hl ▸ (List.getElem?_eq_some_iff.mp e0).1, e0⟩) (fun h => nomatch h) (fun h => nomatch h)
  | .blk l k, oo, rows, ss, p, q, hl, hr, hs, he, i, h1, h2 => by
    simp only [sz] at h2 he
    simp only [comp] at hr
    simp only [scl] at hs
    have r1 := hr.tail.left
    have r2 := hr.tail.right (q := p + 1 + szL l) (by rw [compL_length])
    have s1 := hs.tail.left
    have s2 := hs.tail.right (q := p + 1 + szL l) (by rw [sclL_length])
    have e3 : ss[p + 1 + szL l + 1]? = some oo := by rw [show p + 1 + szL l + 1 = p + (2 + szL l) by omega]; exact he
    have e1 : ss[p + 1]? = some (oo ++ [k]) := sclL_head l _ ss _ s1 s2.head
    by_cases h : i = p
    · subst h
      exact ok_of hr.head hs.head rfl (fun t ht => by cases List.mem_singleton.mp ht; exact ⟨hl ▸ (List.getElem?_eq_some_iff.mp e3).1, e3⟩) (fun _ => ⟨hl ▸ (List.getElem?_eq_some_iff.mp e1).1, e1⟩) (fun h => nomatch h)
    by_cases h' : i < p + 1 + szL l
    · exact ok_list l _ rows ss (p + 1) q hl r1 s1 s2.head i (by omega) h'
    have h'' : i = p + 1 + szL l := by omega
    subst h''
    exact ok_of (os' := oo) r2.head s2.head (by simp [bh]) (fun t ht => nomatch ht) (fun _ => ⟨hl ▸ (List.getElem?_eq_some_iff.mp e3).1, e3⟩) (fun h => nomatch h)
  | .seq l, oo, rows, ss, p, q, hl, hr, hs, he, i, h1, h2 => by
    simp only [comp] at hr
    simp only [scl] at hs
    simp only [sz] at h2 he
    exact ok_list l oo rows ss p q hl hr hs he i h1 h2
theorem ok_list : ∀ (l : List Sm) (oo : List Nat) (rows : List Row) (ss : List (List Nat)) (p q : Nat), ss.length = rows.length → At rows p (compL l p q) → At ss p (sclL l oo) → ss[p + szL l]? = some oo → ∀ i, p ≤ i → i < p + szL l → Ok rows ss i
  | [], oo, rows, ss, p, q, hl, hr, hs, he, i, h1, h2 => by simp only [szL] at h2; omega
  | d :: l, oo, rows, ss, p, q, hl, hr, hs, he, i, h1, h2 => by
    simp only [compL] at hr
    simp only [sclL] at hs
    simp only [szL] at h2 he
    have r2 := hr.right (q := p + sz d) (by rw [comp_length])
    have s2 := hs.right (q := p + sz d) (by rw [scl_length])
    have e2 : ss[p + sz d + szL l]? = some oo := by rw [Nat.add_assoc]; exact he
    have e1 := sclL_head l oo ss _ s2 e2
    by_cases h : i < p + sz d
    · exact ok_stmt d oo rows ss p q hl hr.left hs.left e1 i h1 h
    · exact ok_list l oo rows ss _ _ hl r2 s2 e2 i (by omega) (by omega)
end
mutual
theorem scl_le : ∀ (d : Sm) (oo : List Nat), ∀ o ∈ scl d oo, o.length ≤ oo.length + hgt d
  | .set n, oo, o, h => by cases List.mem_singleton.mp h; exact Nat.le_add_right _ _
  | .dis n, oo, o, h => by cases List.mem_singleton.mp h; exact Nat.le_add_right _ _
  | .ite1 t a, oo, o, h => by
    simp only [scl] at h
    simp only [hgt]
    rcases List.mem_cons.mp h with rfl | h
    · omega
    · have := scl_le a oo o h; omega
  | .ite2 t a b, oo, o, h => by
    simp only [scl] at h
    simp only [hgt]
    rcases List.mem_cons.mp h with rfl | h
    · omega
    rcases List.mem_append.mp h with h | h
    · have := scl_le a oo o h; omega
    rcases List.mem_cons.mp h with rfl | h
    · omega
    · have := scl_le b oo o h; omega
  | .rep c b, oo, o, h => by
    simp only [scl] at h
    simp only [hgt]
    rcases List.mem_cons.mp h with rfl | h
    · omega
    rcases List.mem_cons.mp h with rfl | h
    · omega
    rcases List.mem_append.mp h with h | h
    · have := scl_le b oo o h; omega
    · cases List.mem_singleton.mp h; omega
  | .blk l k, oo, o, h => by
    simp only [scl] at h
    simp only [hgt]
    rcases List.mem_cons.mp h with rfl | h
    · omega
    rcases List.mem_append.mp h with h | h
    · have := sclL_le l _ o h; simp only [List.length_append, List.length_cons, List.length_nil] at this; omega
    · cases List.mem_singleton.mp h; simp only [List.length_append, List.length_cons, List.length_nil]; omega
  | .seq l, oo, o, h => by
    simp only [scl] at h
    simp only [hgt]
    have := sclL_le l _ o h; omega
theorem sclL_le : ∀ (l : List Sm) (oo : List Nat), ∀ o ∈ sclL l oo, o.length ≤ oo.length + hgtL l
  | [], oo, o, h => nomatch h
  | d :: l, oo, o, h => by
    simp only [sclL] at h
    simp only [hgtL]
    rcases List.mem_append.mp h with h | h
    · have := scl_le d oo o h; omega
    · have := sclL_le l oo o h; omega
end
theorem at_self {α : Type} (l r : List α) : At (l ++ r) 0 l := fun i x e => by rw [Nat.zero_add, List.getElem?_append_left (List.getElem?_eq_some_iff.mp e).1]; exact e
theorem ty_of (d : Sm) (h9 : hgt d ≤ 90) : Ty (comp d 0 0 ++ [.ret]) fun i => (scl d [] ++ [[]]).getD i [] := by
  have hl : (scl d [] ++ [[]]).length = (comp d 0 0 ++ [Row.ret]).length := by simp [scl_length, comp_length]
  have e1 : (scl d [] ++ [[]])[0 + sz d]? = some [] := by rw [Nat.zero_add, List.getElem?_append_right (by rw [scl_length]; exact Nat.le_refl _), scl_length, Nat.sub_self]; rfl
  have e2 : (comp d 0 0 ++ [Row.ret])[sz d]? = some .ret := by rw [List.getElem?_append_right (by rw [comp_length]; exact Nat.le_refl _), comp_length, Nat.sub_self]; rfl
  have ok := ok_stmt d [] _ (scl d [] ++ [[]]) 0 0 hl (at_self _ _) (at_self _ _) e1
  refine ⟨?_, fun i r hr => ?_, fun i => ?_⟩
  · rw [List.getD_eq_getElem?_getD, scl_head d [] _ 0 (at_self _ _) e1]; rfl
  · by_cases hi : i < sz d
    · obtain ⟨o, os', h1, h2, h3, h4, h5⟩ := ok i (Nat.zero_le _) (by omega) r hr
      simp only [List.getD_eq_getElem?_getD]
      rw [h1]
      refine ⟨os', h2, fun t ht => ⟨(h3 t ht).1, ?_⟩, fun h => ⟨(h4 h).1, ?_⟩, h5⟩
      · rw [(h3 t ht).2]
      · rw [(h4 h).2]; rfl
    · have hlt := (List.getElem?_eq_some_iff.mp hr).1
      simp only [List.length_append, comp_length, List.length_cons, List.length_nil] at hlt
      have : i = sz d := by omega
      subst this
      rw [e2] at hr; cases hr
      rw [Nat.zero_add] at e1
      simp only [List.getD_eq_getElem?_getD]
      rw [e1]
      exact ⟨[], rfl, fun t ht => (nomatch ht), fun h => (nomatch h), fun _ => rfl⟩
  · rw [List.getD_eq_getElem?_getD]
    cases e : (scl d [] ++ [[]])[i]? with
    | none => exact Nat.zero_le _
    | some o =>
      rcases List.mem_append.mp (List.mem_of_getElem? e) with h | h
      · have := scl_le d [] o h
        simp only [List.length_nil] at this
        show o.length ≤ 90
        omega
      · cases List.mem_singleton.mp h; exact Nat.zero_le _
end Mine
namespace Mine
noncomputable def Lands (p z : Nat) (m m' : MS) : Option Nat → Prop
  | none => m'.pc = p + z ∧ m'.op = m.op
  | some k => ∃ l a l', m.op = l ++ (k, a) :: l' ∧ k ∉ l.map (·.1) ∧ m'.pc = a ∧ m'.op = l
structure Sim (rows : List Row) (p z q c : Nat) (m : MS) (r : List Nat × Option Nat) : Prop where
  run : ∃ n m', Run rows n m m' ∧ n ≤ c ∧ m'.out = m.out ++ r.1 ∧ (∀ k, k < q → m'.ct k = m.ct k) ∧ Lands p z m m' r.2
theorem split_first {k : Nat} : ∀ {op : List (Nat × Nat)}, k ∈ op.map (·.1) → ∃ l a l', op = l ++ (k, a) :: l' ∧ k ∉ l.map (·.1)
  | (j, a) :: op, h => by
    by_cases e : j = k
    · subst e; exact ⟨[], a, op, rfl, fun h => nomatch h⟩
    · have h2 : k ∈ op.map (·.1) := by
        rcases List.mem_cons.mp h with h | h
        · exact absurd h.symm e
        · exact h
      obtain ⟨l, b, l', e1, h3⟩ := split_first h2
      refine ⟨(j, a) :: l, b, l', by rw [e1]; rfl, fun h4 => ?_⟩
      rcases List.mem_cons.mp h4 with h4 | h4
      · exact e h4.symm
      · exact h3 h4
theorem rdR_front {r : List Nat × Option Nat} (h : r.2 = none) : ∀ c, (rdR r (c + 1)).1 = r.1 ++ (rdR r c).1
  | 0 => by simp [rdR, h]
  | c + 1 => by
    have e : (rdR r c).1 ++ r.1 = (rdR r (c + 1)).1 := by rw [rdR_none h c]
    rw [rdR_none h (c + 1)]
    show (rdR r (c + 1)).1 ++ r.1 = r.1 ++ (rdR r (c + 1)).1
    conv => lhs; rw [rdR_front h c, List.append_assoc, e]
theorem sim_rep {rows : List Row} {p q z : Nat} {oo : List Nat} {r : List Nat × Option Nat} {cb : Nat} (h1 : rows[p + 1]? = some (.agn q (p + 2 + z + 1))) (h2 : rows[p + 2 + z]? = some (.jmp (p + 1)))
    (body : ∀ m : MS, m.pc = p + 2 → m.op.map (·.1) = oo → Sim rows (p + 2) z (q + 1) cb m r) :
    ∀ (c : Nat) (m : MS), m.pc = p + 1 → m.op.map (·.1) = oo → m.ct q = some (c : Int) → ∃ n m', Run rows n m m' ∧ n ≤ 1 + c * (cb + 2) ∧ m'.out = m.out ++ (rdR r c).1 ∧ (∀ k, k < q → m'.ct k = m.ct k) ∧ Lands p (3 + z) m m' (rdR r c).2
  | 0, m, hp, ho, hc => by
    refine ⟨1, ⟨p + 2 + z + 1, m.out, m.op, upd m.ct q (0 - 1)⟩, Run.one (by rw [hp]; exact h1) (by have := Stp.agn q (p + 2 + z + 1) 0 m hc; simpa using this), by omega, by simp [rdR], fun k hk => ?_, ⟨by show p + 2 + z + 1 = p + (3 + z); omega, rfl⟩⟩
    simp only [upd]; rw [if_neg (by omega)]
  | c + 1, m, hp, ho, hc => by
    have s1 : Run rows 1 m ⟨p + 2, m.out, m.op, upd m.ct q c⟩ := Run.one (by rw [hp]; exact h1) (by
      have := Stp.agn q (p + 2 + z + 1) _ m hc
      have e1 : ((c + 1 : Nat) : Int) - 1 = c := by omega
      have e2 : ¬ ((c : Int) < 0) := by omega
      rw [e1] at this
      simp only [e2, if_false, hp] at this
      exact this)
    obtain ⟨n, m', hr, hn, hout, hct, hl⟩ := (body ⟨p + 2, m.out, m.op, upd m.ct q c⟩ rfl ho).run
    have hct' : ∀ k, k < q → m'.ct k = m.ct k := fun k hk => by
      rw [hct k (by omega)]; simp only [upd]; rw [if_neg (by omega)]
    cases hr2 : r.2 with
    | some k =>
      rw [hr2] at hl
      refine ⟨1 + n, m', s1.trans hr, ?_, by rw [rdR_some hr2 (Nat.succ_pos _)]; exact hout, hct', by rw [rdR_some hr2 (Nat.succ_pos _), hr2]; exact hl⟩
      have : cb + 2 ≤ (c + 1) * (cb + 2) := Nat.le_mul_of_pos_left _ (Nat.succ_pos _)
      omega
    | none =>
      rw [hr2] at hl
      obtain ⟨hl1, hl2⟩ := hl
      have s2 : Run rows 1 m' ⟨p + 1, m'.out, m'.op, m'.ct⟩ := Run.one (by rw [hl1]; exact h2) (Stp.jmp _ _)
      obtain ⟨n3, m3, hr3, hn3, hout3, hct3, hl3⟩ := sim_rep (oo := oo) h1 h2 body c ⟨p + 1, m'.out, m'.op, m'.ct⟩ rfl (by rw [hl2]; exact ho) (by show m'.ct q = _; rw [hct q (by omega)]; simp [upd])
      refine ⟨1 + n + 1 + n3, m3, ((s1.trans hr).trans s2).trans hr3, ?_, ?_, fun k hk => (hct3 k hk).trans (hct' k hk), ?_⟩
      · rw [Nat.succ_mul]; omega
      · rw [hout3, rdR_front hr2, ← List.append_assoc]
        show m'.out ++ _ = _
        rw [hout]
      · rw [rdR_none2 hr2] at hl3 ⊢
        exact ⟨hl3.1, hl3.2.trans hl2⟩
theorem split_last {k e j a : Nat} {op l1 l2 : List (Nat × Nat)} (h : op ++ [(k, e)] = l1 ++ (j, a) :: l2) : (op = l1 ∧ j = k ∧ a = e) ∨ ∃ l2', op = l1 ++ (j, a) :: l2' := by
  rcases List.eq_nil_or_concat l2 with rfl | ⟨l2', x, rfl⟩
  · have := List.append_inj' h rfl
    obtain ⟨h1, h2⟩ := this
    injection h2 with h2 _
    injection h2 with h3 h4
    exact .inl ⟨h1, h3.symm, h4.symm⟩
  · have e : l1 ++ (j, a) :: (l2' ++ [x]) = (l1 ++ (j, a) :: l2') ++ [x] := by simp
    rw [List.concat_eq_append, e] at h
    exact .inr ⟨l2', (List.append_inj' h rfl).1⟩
theorem sim_list {d : Nat} {rows : List Row} (ih : ∀ (oo : List Nat) (x : Sm) (p q : Nat) (m : MS), WF d oo x → At rows p (comp x p q) → m.pc = p → m.op.map (·.1) = oo → Sim rows p (sz x) q (cst x) m (rd x)) (oo : List Nat) :
    ∀ (l : List Sm) (p q : Nat) (m : MS), (∀ x ∈ l, WF d oo x) → At rows p (compL l p q) → m.pc = p → m.op.map (·.1) = oo → Sim rows p (szL l) q (cstL l) m (rdL l)
  | [], p, q, m, _, _, hp, _ => ⟨0, m, .zero m, Nat.zero_le _, by simp [rdL], fun _ _ => rfl, ⟨hp, rfl⟩⟩
  | x :: l, p, q, m, hw, hr, hp, ho => by
    simp only [compL] at hr
    obtain ⟨n, m', h1, h2, h3, h4, h5⟩ := (ih oo x p q m (hw x (.head _)) hr.left hp ho).run
    simp only [szL, cstL, rdL]
    by_cases h : (rd x).2.isSome = true
    · rw [if_pos h]
      obtain ⟨k, hk⟩ := Option.isSome_iff_exists.mp h
      rw [hk] at h5
      exact ⟨n, m', h1, by omega, h3, h4, by rw [hk]; exact h5⟩
    · rw [if_neg h]
      have hk : (rd x).2 = none := by simpa using h
      rw [hk] at h5
      obtain ⟨h5, h6⟩ := h5
      obtain ⟨n2, m2, g1, g2, g3, g4, g5⟩ := (sim_list ih oo l (p + sz x) (q + nsl x) m' (fun y hy => hw y (.tail _ hy)) (hr.right (by rw [comp_length])) h5 (by rw [h6]; exact ho)).run
      refine ⟨n + n2, m2, h1.trans g1, by omega, by rw [g3, h3, List.append_assoc], fun k hk => (g4 k (by omega)).trans (h4 k hk), ?_⟩
      dsimp only
      cases e : (rdL l).2 with
      | none => rw [e] at g5; exact ⟨by rw [g5.1]; omega, g5.2.trans h6⟩
      | some k => rw [e] at g5; obtain ⟨a, b, c, e1, e2, e3, e4⟩ := g5; exact ⟨a, b, c, by rw [← h6]; exact e1, e2, e3, e4⟩
theorem Sim.after {rows : List Row} {p z q c p' z' c' : Nat} {m m1 : MS} {r : List Nat × Option Nat} (h : Sim rows p z q c m1 r) (s : Run rows 1 m m1) (ho : m1.out = m.out) (hop : m1.op = m.op) (hct : m1.ct = m.ct) (he : p + z = p' + z') (hc : 1 + c ≤ c') : Sim rows p' z' q c' m r := by
  obtain ⟨n, m', h1, h2, h3, h4, h5⟩ := h.run
  refine ⟨1 + n, m', s.trans h1, by omega, by rw [h3, ho], fun k hk => by rw [h4 k hk, hct], ?_⟩
  cases e : r.2 with
  | none => rw [e] at h5; exact ⟨by rw [h5.1]; exact he, h5.2.trans hop⟩
  | some k => rw [e] at h5; obtain ⟨a, b, c, e1, e2, e3, e4⟩ := h5; exact ⟨a, b, c, by rw [← hop]; exact e1, e2, e3, e4⟩
theorem sim {rows : List Row} : ∀ (d : Nat) (oo : List Nat) (x : Sm) (p q : Nat) (m : MS), WF d oo x → At rows p (comp x p q) → m.pc = p → m.op.map (·.1) = oo → Sim rows p (sz x) q (cst x) m (rd x) := by
  have hset : ∀ (oo : List Nat) (n : Nat) (p q : Nat) (m : MS), At rows p (comp (.set n) p q) → m.pc = p → m.op.map (·.1) = oo → Sim rows p (sz (.set n)) q (cst (.set n)) m (rd (.set n)) := fun oo n p q m hr hp ho => by
    simp only [comp] at hr
    subst hp
    exact ⟨1, _, Run.one hr.head (Stp.set n m), Nat.le_refl _, by simp [rd], fun _ _ => rfl, ⟨rfl, rfl⟩⟩
  have hdis : ∀ (oo : List Nat) (n : Nat) (p q : Nat) (m : MS), n ∈ oo → At rows p (comp (.dis n) p q) → m.pc = p → m.op.map (·.1) = oo → Sim rows p (sz (.dis n)) q (cst (.dis n)) m (rd (.dis n)) := fun oo n p q m hn hr hp ho => by
    simp only [comp] at hr
    subst hp
    obtain ⟨l, a, l', e, h⟩ := split_first (ho ▸ hn)
    exact ⟨1, _, Run.one hr.head (Stp.dis n a l l' m e h), Nat.le_refl _, by simp [rd], fun _ _ => rfl, ⟨l, a, l', e, h, rfl, rfl⟩⟩
  intro d
  induction d with
  | zero =>
    intro oo x p q m hw hr hp ho
    cases x with
    | set n => exact hset oo n p q m hr hp ho
    | dis n => exact hdis oo n p q m (by simpa [WF] using hw) hr hp ho
    | _ => simp only [WF] at hw
  | succ d ih =>
    intro oo x p q m hw hr hp ho
    cases x with
    | set n => exact hset oo n p q m hr hp ho
    | dis n => exact hdis oo n p q m (by simpa [WF] using hw) hr hp ho
    | ite1 t a =>
      simp only [WF] at hw
      simp only [comp] at hr
      subst hp
      have s1 := Run.one hr.head (Stp.unl t (m.pc + 1 + sz a) m)
      simp only [rd, sz, cst]
      by_cases ht : t = 1
      · rw [if_pos ht] at s1 ⊢
        exact (ih oo a (m.pc + 1) q ⟨m.pc + 1, m.out, m.op, m.ct⟩ hw hr.tail rfl ho).after s1 rfl rfl rfl (by omega) (by omega)
      · rw [if_neg ht] at s1 ⊢
        exact ⟨1, _, s1, by omega, by simp, fun _ _ => rfl, ⟨by show m.pc + 1 + sz a = _; omega, rfl⟩⟩
    | ite2 t a b =>
      simp only [WF] at hw
      simp only [comp] at hr
      subst hp
      have r2 := hr.tail.right (q := m.pc + 1 + sz a) (by rw [comp_length])
      have s1 := Run.one hr.head (Stp.unl t (m.pc + 1 + sz a + 1) m)
      simp only [rd, sz, cst]
      by_cases ht : t = 1
      · rw [if_pos ht] at s1 ⊢
        obtain ⟨n, m', h1, h2, h3, h4, h5⟩ := (ih oo a (m.pc + 1) q ⟨m.pc + 1, m.out, m.op, m.ct⟩ hw.1 hr.tail.left rfl ho).run
        cases e : (rd a).2 with
        | none =>
          rw [e] at h5
          have s2 : Run rows 1 m' ⟨m.pc + 1 + sz a + 1 + sz b, m'.out, m'.op, m'.ct⟩ := Run.one (by rw [h5.1]; exact r2.head) (Stp.jmp _ _)
          refine ⟨1 + n + 1, _, (s1.trans h1).trans s2, by omega, h3, h4, ?_⟩
          rw [e]
          exact ⟨by show m.pc + 1 + sz a + 1 + sz b = _; omega, h5.2⟩
        | some k =>
          rw [e] at h5
          refine ⟨1 + n, _, s1.trans h1, by omega, h3, h4, ?_⟩
          rw [e]; exact h5
      · rw [if_neg ht] at s1 ⊢
        obtain ⟨n, m', h1, h2, h3, h4, h5⟩ := (ih oo b (m.pc + 1 + sz a + 1) (q + nsl a) ⟨m.pc + 1 + sz a + 1, m.out, m.op, m.ct⟩ hw.2 r2.tail rfl ho).run
        refine ⟨1 + n, m', s1.trans h1, by omega, h3, fun k hk => h4 k (by omega), ?_⟩
        cases e : (rd b).2 with
        | none => rw [e] at h5; exact ⟨by rw [h5.1]; omega, h5.2⟩
        | some k => rw [e] at h5; exact h5
    | rep c b =>
      simp only [WF] at hw
      simp only [comp] at hr
      subst hp
      have r2 := hr.tail.tail.right (q := m.pc + 2 + sz b) (by rw [comp_length])
      have s1 := Run.one hr.head (Stp.tim q c m)
      obtain ⟨n, m', h1, h2, h3, h4, h5⟩ := sim_rep (p := m.pc) (q := q) (z := sz b) (oo := oo) (r := rd b) (cb := cst b) hr.tail.head r2.head (fun m1 e1 e2 => ih oo b (m.pc + 2) (q + 1) m1 hw.2 hr.tail.tail.left e1 e2) c ⟨m.pc + 1, m.out, m.op, upd m.ct q c⟩ rfl ho (by simp [upd])
      simp only [rd, sz, cst]
      refine ⟨1 + n, m', s1.trans h1, by omega, h3, fun k hk => ?_, ?_⟩
      · rw [h4 k hk]; simp only [upd]; rw [if_neg (by omega)]
      · cases e : (rdR (rd b) c).2 with
        | none => rw [e] at h5; exact h5
        | some k => rw [e] at h5; exact h5
    | blk l k =>
      simp only [WF] at hw
      obtain ⟨hk, _, hw⟩ := hw
      simp only [comp] at hr
      subst hp
      have r2 := hr.tail.right (q := m.pc + 1 + szL l) (by rw [compL_length])
      have s1 := Run.one hr.head (Stp.ent k (m.pc + 1 + szL l + 1) m)
      obtain ⟨n, m', h1, h2, h3, h4, h5⟩ := (sim_list ih (oo ++ [k]) l (m.pc + 1) q ⟨m.pc + 1, m.out, m.op ++ [(k, m.pc + 1 + szL l + 1)], m.ct⟩ hw hr.tail.left rfl (by simp [ho])).run
      simp only [rd, sz, cst]
      cases e : (rdL l).2 with
      | none =>
        rw [e] at h5
        have s2 : Run rows 1 m' ⟨m'.pc + 1, m'.out, m.op, m'.ct⟩ := Run.one (by rw [h5.1]; exact r2.head) (Stp.lea k _ m.op m' h5.2)
        exact ⟨1 + n + 1, _, (s1.trans h1).trans s2, by omega, h3, h4, ⟨by show m'.pc + 1 = _; rw [h5.1]; omega, rfl⟩⟩
      | some j =>
        rw [e] at h5
        obtain ⟨l1, a, l2, e1, e2, e3, e4⟩ := h5
        refine ⟨1 + n, m', s1.trans h1, by omega, h3, h4, ?_⟩
        rcases split_last e1 with ⟨q1, q2, q3⟩ | ⟨l2', q1⟩
        · subst q2
          rw [if_pos rfl]
          exact ⟨by rw [e3, q3]; omega, by rw [e4, q1]⟩
        · have hj : j ≠ k := fun h => hk (by rw [← ho, q1, ← h]; simp)
          rw [if_neg (by simpa using hj)]
          exact ⟨l1, a, l2', q1, e2, e3, e4⟩
    | seq l => simp only [WF] at hw
end Mine
namespace Mine
noncomputable def ents : List Row → List Nat
  | [] => []
  | .ent k _ :: r => k :: ents r
  | _ :: r => ents r
theorem ents_app (b : List Row) : ∀ a : List Row, ents (a ++ b) = ents a ++ ents b
  | [] => rfl
  | r :: a => by cases r <;> simp [ents, ents_app b a]
noncomputable def run (lo : Nat) : Nat → List Nat
  | 0 => []
  | n + 1 => lo :: run (lo + 1) n
theorem run_app (lo a : Nat) : ∀ b, run lo (a + b) = run lo a ++ run (lo + a) b := by
  induction a generalizing lo with
  | zero => intro b; simp [run]
  | succ a ih => intro b; rw [Nat.succ_add]; simp only [run, List.cons_append]; rw [ih, Nat.add_right_comm]; rfl
noncomputable def Ents (g : GS) (r : Sm × GS) : Prop := ∀ p q, ents (comp r.1 p q) = run (g.m1 + 1) (r.2.m1 - g.m1)
noncomputable def EntsL (g : GS) (r : List Sm × GS) : Prop := ∀ p q, ents (compL r.1 p q) = run (g.m1 + 1) (r.2.m1 - g.m1)
theorem run_join {a b c : Nat} (h1 : a ≤ b) (h2 : b ≤ c) : run (a + 1) (b - a) ++ run (b + 1) (c - b) = run (a + 1) (c - a) := by
  rw [show c - a = (b - a) + (c - b) by omega, run_app, show a + 1 + (b - a) = b + 1 by omega]
theorem genL_ents {f : GS → Sm × GS} {b : Nat} (hf : ∀ g, Near b g (f g).2) (hE : ∀ g, Ents g (f g)) : ∀ (n : Nat) (g : GS), EntsL g (genL f n g)
  | 0, g => fun p q => by simp [genL, compL, ents, run]
  | n + 1, g => fun p q => by
    have h1 := genL_near hf n g
    have h2 := hf (genL f n g).2
    simp only [genL]
    rw [compL_snoc, ents_app, genL_ents hf hE n g, hE _]
    exact run_join h1.2.2.2.2 h2.2.2.2.2
theorem gen_ents (row : List Int) : ∀ (d : Nat) (oo : List Nat) (g : GS), Ents g (gen row d oo g)
  | 0, oo, g => fun p q => by
    simp only [gen]
    split <;> simp [comp, ents, GS.tick, run]
  | d + 1, oo, g => fun p q => by
    have ih := gen_ents row d
    simp only [gen]
    split
    · simp [comp, ents, GS.tick, run]
    split
    · simp [comp, ents, GS.tick, run]
    split
    · simp only [genIf]
      have n1 := gen_near row d oo g.tick.tick
      have n2 := gen_near row d oo (gen row d oo g.tick.tick).2.tick
      split
      · simp only [comp, ents, ents_app]
        rw [ih oo g.tick.tick, ih oo _]
        exact run_join n1.2.2.2.2 n2.2.2.2.2
      · simp only [comp, ents]
        rw [ih oo g.tick.tick]; rfl
    split
    · simp only [genRep, comp, ents, ents_app, List.append_nil]
      rw [ih oo g.tick.tick]; rfl
    · simp only [genBlk, comp, ents, ents_app, List.append_nil]
      have n1 := genL_near (gen_near row d (oo ++ [g.tick.m1 + 1])) (1 + tak row g.tick.i 3) { g.tick.tick with m1 := g.tick.m1 + 1 }
      rw [genL_ents (gen_near row d _) (ih _) _ _]
      have h := n1.2.2.2.2
      simp only [GS.tick] at h ⊢
      rw [show (genL (gen row d (oo ++ [g.m1 + 1])) (1 + tak row (g.i + 1) 3) ⟨g.i + 1 + 1, g.m0, g.m1 + 1⟩).2.m1 - g.m1 = ((genL (gen row d (oo ++ [g.m1 + 1])) (1 + tak row (g.i + 1) 3) ⟨g.i + 1 + 1, g.m0, g.m1 + 1⟩).2.m1 - (g.m1 + 1)) + 1 by omega]
      rfl
noncomputable def lawL (row : List Int) : List Sm × GS := genL (gen row 2 [5]) (1 + tak row 0 4) ⟨1, 0, 5⟩
noncomputable def lawG : GS := ⟨1, 0, 5⟩
noncomputable def lawRows (row : List Int) : List Row := comp (.blk (lawL row).1 5) 0 0 ++ [.ret]
theorem lawL_wf (row : List Int) : WF 3 [] (.blk (lawL row).1 5) := by
  simp only [WF]
  refine ⟨fun h => (nomatch h), ?_, ?_⟩
  · unfold lawL; rw [genL_length]; have := tak_lt row 0 (m := 4) (by decide); omega
  · exact genL_wf (lo := 5) (gen_near row 2 _) (fun g h => gen_wf row 2 [5] g (by decide) fun k hk => by cases List.mem_singleton.mp hk; exact h) _ _ (Nat.le_refl _)
theorem law_bd (row : List Int) : sz (.blk (lawL row).1 5) ≤ 232 ∧ ob (.blk (lawL row).1 5) ≤ 232 ∧ cst (.blk (lawL row).1 5) ≤ 232 ∧ hgt (.blk (lawL row).1 5) ≤ 15 := wf_bd 3 [] _ (lawL_wf row)
theorem law_near (row : List Int) : Near (4 * bnd 2) lawG (lawL row).2 := by
  have h := genL_near (gen_near row 2 [5]) (1 + tak row 0 4) lawG
  have h2 := tak_lt row 0 (m := 4) (by decide)
  have h3 : (1 + tak row 0 4) * bnd 2 ≤ 4 * bnd 2 := Nat.mul_le_mul_right _ (by omega)
  exact ⟨h.1, Nat.le_trans h.2.1 (Nat.add_le_add_left h3 _), h.2.2⟩
theorem law_ty (row : List Int) : ∃ sc, Ty (lawRows row) sc := ⟨_, ty_of _ (Nat.le_trans (law_bd row).2.2.2 (by decide))⟩
theorem law_len (row : List Int) : (lawRows row).length ≤ 233 := by
  have := (law_bd row).1
  simp only [lawRows, List.length_append, comp_length, List.length_cons, List.length_nil]; omega
theorem law_last (row : List Int) : (lawRows row).getLast? = some .ret := by simp [lawRows]
theorem law_first (row : List Int) : ∃ a rs, lawRows row = .ent 5 a :: rs := by
  simp only [lawRows, comp, List.cons_append]; exact ⟨_, _, rfl⟩
theorem law_ents (row : List Int) : ents (lawRows row) = run 5 ((lawL row).2.m1 - 4) := by
  have h := (law_near row).2.2.2.2
  have e := genL_ents (gen_near row 2 [5]) (gen_ents row 2 [5]) (1 + tak row 0 4) lawG
  simp only [lawRows, comp, ents, ents_app, List.cons_append, List.append_nil]
  show 5 :: ents (compL (lawL row).1 _ _) = _
  rw [show ents (compL (lawL row).1 (0 + 1) 0) = _ from e (0 + 1) 0]
  have h5 : (lawG).m1 = 5 := rfl
  rw [h5] at h ⊢
  rw [show (lawL row).2.m1 - 4 = ((lawL row).2.m1 - 5) + 1 by omega]
  rfl
theorem run_get (lo : Nat) : ∀ n i, i < n → (run lo n)[i]? = some (lo + i) := by
  intro n
  induction n generalizing lo with
  | zero => intro i h; exact absurd h (Nat.not_lt_zero _)
  | succ n ih =>
    intro i h
    cases i with
    | zero => rfl
    | succ i => simp only [run, List.getElem?_cons_succ]; rw [ih (lo + 1) i (by omega)]; congr 1; omega
theorem run_len (lo : Nat) : ∀ n, (run lo n).length = n := by
  intro n
  induction n generalizing lo with
  | zero => rfl
  | succ n ih => simp [run, ih]
theorem law_run (row : List Int) : ∃ n mf, Run (lawRows row) n ⟨0, [], [], fun _ => none⟩ mf ∧ n < 1900 ∧ (lawRows row)[mf.pc]? = some .ret ∧ mf.op = [] ∧ mf.out = (rdL (lawL row).1).1 := by
  have at0 : At (lawRows row) 0 (comp (.blk (lawL row).1 5) 0 0) := at_self _ _
  obtain ⟨n, mf, h1, h2, h3, h4, h5⟩ := (sim 3 [] (.blk (lawL row).1 5) 0 0 ⟨0, [], [], fun _ => none⟩ (lawL_wf row) at0 rfl rfl).run
  have hb := (law_bd row).2.2.1
  cases e : (rd (.blk (lawL row).1 5)).2 with
  | some k =>
    rw [e] at h5
    obtain ⟨l, a, l', e1, _⟩ := h5
    cases l <;> cases e1
  | none =>
    rw [e] at h5
    refine ⟨n, mf, h1, by omega, ?_, h5.2, by rw [h3]; simp [rd]⟩
    rw [h5.1, Nat.zero_add]
    show (comp _ 0 0 ++ [Row.ret])[_]? = _
    rw [List.getElem?_append_right (by rw [comp_length]; exact Nat.le_refl _), comp_length, Nat.sub_self]
    rfl
noncomputable def nb : Nat → Nat
  | 0 => 0
  | d + 1 => 1 + 3 * nb d
theorem genL_m1 {f : GS → Sm × GS} {b : Nat} (hf : ∀ g, (f g).2.m1 ≤ g.m1 + b) : ∀ (n : Nat) (g : GS), (genL f n g).2.m1 ≤ g.m1 + n * b
  | 0, g => by simp [genL]
  | n + 1, g => by
    have h1 := genL_m1 hf n g
    have h2 := hf (genL f n g).2
    simp only [genL]
    rw [Nat.succ_mul]; omega
theorem gen_m1 (row : List Int) : ∀ (d : Nat) (oo : List Nat) (g : GS), (gen row d oo g).2.m1 ≤ g.m1 + nb d
  | 0, oo, g => by
    simp only [gen, nb]
    split <;> simp [GS.tick]
  | d + 1, oo, g => by
    have ih := gen_m1 row d
    simp only [gen, nb]
    split
    · simp only [GS.tick]; omega
    split
    · simp only [GS.tick]; omega
    split
    · have h1 := ih oo g.tick.tick
      have h2 := ih oo (gen row d oo g.tick.tick).2.tick
      simp only [genIf]
      split
      · simp only [GS.tick] at h1 h2 ⊢; omega
      · simp only [GS.tick] at h1 ⊢; omega
    split
    · have h1 := ih oo g.tick.tick
      simp only [genRep, GS.tick] at h1 ⊢; omega
    · have h1 := genL_m1 (ih (oo ++ [g.tick.m1 + 1])) (1 + tak row g.tick.i 3) { g.tick.tick with m1 := g.tick.m1 + 1 }
      have h2 := tak_lt row g.tick.i (m := 3) (by decide)
      have h3 : (1 + tak row g.tick.i 3) * nb d ≤ 3 * nb d := Nat.mul_le_mul_right _ (by omega)
      simp only [genBlk, GS.tick] at h1 h2 h3 ⊢; omega
theorem law_m1 (row : List Int) : (lawL row).2.m1 ≤ 21 := by
  have h1 := genL_m1 (gen_m1 row 2 [5]) (1 + tak row 0 4) ⟨1, 0, 5⟩
  have h2 := tak_lt row 0 (m := 4) (by decide)
  have h3 : (1 + tak row 0 4) * nb 2 ≤ 4 * nb 2 := Nat.mul_le_mul_right _ (by omega)
  have h4 : nb 2 = 4 := rfl
  simp only [h4] at h1 h3
  show (genL _ _ _).2.m1 ≤ 21
  omega
theorem law_m1' (row : List Int) : 5 ≤ (lawL row).2.m1 := (law_near row).2.2.2.2
theorem run_ge (lo : Nat) : ∀ n, ∀ x ∈ run lo n, lo ≤ x := by
  intro n
  induction n generalizing lo with
  | zero => intro x h; exact nomatch h
  | succ n ih =>
    intro x h
    rcases List.mem_cons.mp h with rfl | h
    · exact Nat.le_refl _
    · exact Nat.le_trans (Nat.le_succ _) (ih (lo + 1) x h)
theorem run_sorted (lo : Nat) : ∀ n, ((run lo n).map fun k : Nat => (k : Int)).Pairwise (· ≤ ·) := by
  intro n
  induction n generalizing lo with
  | zero => exact List.Pairwise.nil
  | succ n ih =>
    refine List.pairwise_cons.mpr ⟨fun x h => ?_, ih (lo + 1)⟩
    obtain ⟨y, hy, rfl⟩ := List.mem_map.mp h
    have := run_ge (lo + 1) n y hy
    show (lo : Int) ≤ (y : Int)
    omega
theorem sorted_eq : ∀ {a b : List Int}, a.Perm b → a.Pairwise (· ≤ ·) → b.Pairwise (· ≤ ·) → a = b
  | [], b, p, _, _ => by rw [List.nil_perm.mp p]
  | x :: a, [], p, _, _ => by have := p.length_eq; simp at this
  | x :: a, y :: b, p, ha, hb => by
    have h1 := List.pairwise_cons.mp ha
    have h2 := List.pairwise_cons.mp hb
    have e : x = y := by
      have hx : x ∈ y :: b := p.mem_iff.mp (.head _)
      have hy : y ∈ x :: a := p.mem_iff.mpr (.head _)
      have q1 : y ≤ x := by
        rcases List.mem_cons.mp hx with e | h
        · exact Int.le_of_eq e.symm
        · exact h2.1 x h
      have q2 : x ≤ y := by
        rcases List.mem_cons.mp hy with e | h
        · exact Int.le_of_eq e.symm
        · exact h1.1 y h
      omega
    subst e
    rw [sorted_eq (p.cons_inv) h1.2 h2.2]
end Mine
namespace Mine
noncomputable def vw : Program := { PySem.Challenge.pw_on0120_01 with main := { PySem.Challenge.pw_on0120_01.main with body := PySem.Challenge.pw_on0120_01.main.body.drop 21 } }
noncomputable def lo : List Str := [Str.ofString "children", Str.ofString "subexpressions", Str.ofString "expr_reads", Str.ofString "CodeMaker", Str.ofString "compile_routine", Str.ofString "row_targets", Str.ofString "falls_through", Str.ofString "scopes_behind", Str.ofString "target_faults", Str.ofString "scope_faults", Str.ofString "check_code", Str.ofString "Routine", Str.ofString "_law_take", Str.ofString "_law_statement", Str.ofString "_law_read", Str.ofString "_law_walked", Str.ofString "_wall", Str.ofString "__name__"]
set_option maxRecDepth 100000 in
theorem said : OpenLaw.wellSaid PySem.Challenge.rw_on0120_01 = true := by
  rw [Fast.te9446332074065402090]
  delta Fast.tw9446332074065402090
  repeat' (with_reducible refine look_both ?_ ?_)
  all_goals (try (delta Fast.tw17960256430627541270; repeat' (with_reducible refine look_both ?_ ?_)))
  all_goals (try (delta Fast.tw2436336058641802641; repeat' (with_reducible refine look_both ?_ ?_)))
  all_goals (try (delta Fast.tw9825065953147845992; repeat' (with_reducible refine look_both ?_ ?_)))
  all_goals (try (delta Fast.tw12908688711261696721; repeat' (with_reducible refine look_both ?_ ?_)))
  all_goals (decide +kernel)
theorem left_fast {p q : Program} {loose : List Str} {Xt : Shared → Bool} {α : Type} {Yf : Shared → α} {Ya : World → α} {N : Nat}
    (e : opening p = plainProg p.main.scope.names) (hN : Nat.ble 600 N = true) (f : ∀ s, fenceModules? p s = some s)
    (size : ∀ w : World, ((boot_heap w.params).isNs mainGlobals && (Array.mk [] : Array GenState).size == 0, (boot_heap w.params).objs.size, (boot_heap w.params).nsMap mainGlobals "__annotations__") = (true, 11, some (.ref 6)))
    (rest : ∀ (w : World) (os : OsState), (Fast.tw14082659384304107361 Fast.tw14364793385576792824 p w 11 (some (.ref 6)) N ⟨boot_heap w.params, Array.mk [], boot_drawn, boot_toks, os⟩ (topStub p)).map (fun s => (staticsOk (Fast.tw5923862056798008813 p.main.body) (boot_heap w.params) s.heap && namesBound p s.heap && gensDone s && laidKept (boot_heap w.params) s.heap,
      Fast.tw4187177175401517315 q loose (Fast.tw5923862056798008813 p.main.body) Xt true s, Yf s)) = some (true, openGood q loose, Ya w)) :
    LeftO p q loose Xt Yf Ya N := fun w => by
  obtain ⟨⟨h, gs, d, k, os⟩, a, a'⟩ := Option.map_eq_some_iff.mp (boot_open e hN f w)
  obtain ⟨rfl, rfl, rfl, rfl⟩ : h = boot_heap w.params ∧ gs = Array.mk [] ∧ d = boot_drawn ∧ k = boot_toks := by simpa only [Prod.mk.injEq, Option.some.injEq] using a'
  obtain ⟨z1, z2, z3⟩ : _ ∧ _ ∧ _ := by simpa only [Prod.mk.injEq] using size w
  obtain ⟨s₁, r, r'⟩ := Option.map_eq_some_iff.mp (rest w os)
  obtain ⟨l1, l2, l3⟩ : _ ∧ _ ∧ _ := by simpa only [Prod.mk.injEq] using r'
  rw [← Fast.te14082659384304107361, ← Fast.te14364793385576792824] at r
  rw [← Fast.te4187177175401517315, ← Fast.te5923862056798008813] at l2
  rw [← Fast.te5923862056798008813] at l1
  have t : topFrom treeTable p w N ⟨boot_heap w.params, Array.mk [], boot_drawn, boot_toks, os⟩ = some s₁ := by
    unfold topFrom
    dsimp only
    rw [z1, z2, z3, r]
    show (match staticsOk _ (boot_heap w.params) s₁.heap && namesBound p s₁.heap && gensDone s₁ && laidKept (boot_heap w.params) s₁.heap with | true => _ | false => _) = _
    rw [l1]
  unfold openEnds
  rw [a]
  show (topFrom _ _ _ _ _).map _ = _
  rw [t]
  show some (_, _) = _
  rw [l2, l3]
local macro_rules | `(tactic| o_law) => `(tactic| refine holds_law Mine.said fun said => ?_)
local macro_rules | `(tactic| o_head $H) => `(tactic| (
  refine holds_open (q := Mine.vw) (loose := Mine.lo) (Xt := fun s => xlAt Mine.vw [] s && recOk (RowW.records (OpenRow.toRowW (OpenLaw.row PySem.Challenge.rw_on0120_01))) s) (XP := XL Mine.vw []) (Yf := Hook.obs $H) (Ya := Hook.val $H) (YP := Hook.says $H) (N := 3412) ?hl (Hook.of $H) (Hook.keeps $H) (fun s e => xl_of s (Bool.and_eq_true_iff.mp e).1) XL.keeps (by rfl) (by rfl) (by rfl) (fun s e => recFacts_of (Bool.and_eq_true_iff.mp e).2) (by rfl) (by first | assumption | decide +kernel) (by decide +kernel) ⟨rfl, rfl, rfl, rfl, rfl, by decide +kernel⟩ ?hw ?hc
  case hl => (refine Mine.left_fast (by kernel_rfl) (by decide +kernel) (by intro s; kernel_rfl) (by intro w; kernel_rfl) ?_; intro w os; kernel_rfl)))
set_option maxRecDepth 100000 in
set_option maxHeartbeats 8000000 in
open_top hd for PySem.Challenge.rw_on0120_01
end Mine
namespace Mine

noncomputable def Kept (S : List Addr) (h h' : Heap) : Prop := ∀ b o, h.get? b = some o → b ∉ S → h'.get? b = some o

theorem enterH {prog : Program} {w : World} {A : Around} {s : Shared} {K : Frag} {p : Program} {loose : List Str} {mean : ExcName → Option Value} {mg mb : Str → Option Value} {b0 : Heap}
    {name qual : Str} {params : Arguments} {body : List Stmt} {scope : Scope} {dV kV doc pm cdv ct oc : Value} {an od : Option Addr} {osl : Array (Option Value)} {f : Addr} {args : Args} {binds : List (Str × Value)}
    {R : Result → Shared → Prop}
    (S : List (Addr × Obj)) (X0 : K.In b0) (T0 : Top p loose mean mg mb b0) (hb : b0.StaysIn s.heap) (hS : ∀ c ∈ S, s.heap.get? c.1 = some c.2 ∧ b0.get? c.1 = none)
    (ho : K.lookup f = some ⟨oc, od, .func (fnOf name qual params body scope dV kV doc pm an cdv ct), osl⟩) (hcd : codeIn K cdv qual = true) (hroom : A.depth < recursionLimit)
    (hbind : BindsTo s (fnOf name qual params body scope dV kV doc pm an cdv ct) args binds) (hloc : ∀ y ∈ binds, scope.names.lookup y.1 = some .local)
    (h : ∀ g L' h₁, g = hideAll s.heap (S.map (·.1)) → Fr g L' h₁ (fun y => binds.reverse.lookup y) → News g L' h₁ S → K.In g → Top p loose mean mg mb g →
      wpAny (model prog w) (A.deeper (envOf qual scope L' f cdv)) (execs body (envOf qual scope L' f cdv))
        (fun fl s' => R (.ok (.ret (match fl with | .ret v => v | _ => .none))) s') (fun _ _ => False) { s with heap := h₁, toks := s.toks + binds.length })
    (hco : scope.isCoroutine = false) (hgen : scope.isGenerator = false) (hk : scope.kind = .function)
    (hcell : ∀ x ∈ scope.names, x.2 ≠ .cell) : codeAny (model prog w) A (.call (.ref f) args) R s := by
  have X := X0.keeps hb
  refine codeAny_call_def (fd := fnOf name qual params body scope dV kV doc pm an cdv ct) (body := body) (binds := binds) hroom (X _ _ ho) rfl (T0.nolimit.keeps hb) (codeRec_of X hcd) rfl hbind hcell hloc (fun h₁ hns hk₁ => ?_) hco hgen hk
  have st : b0.StaysIn (hideAll s.heap (S.map (·.1))) := fun b o e => hideAll_get _ (hb b o e) fun q => by
    obtain ⟨c, hc, rfl⟩ := List.mem_map.mp q
    rw [(hS c hc).2] at e; cases e
  refine wpAny_mono (h _ s.heap.objs.size h₁ rfl ⟨hns, fun b o e => hk₁ b o (of_hideAll _ e), Nat.le_of_eq (hideAll_size _ _)⟩
    (fun c hc => ⟨hk₁ _ _ (hS c hc).1, Nat.ne_of_lt (Heap.lt_size (hS c hc).1), hideAll_none _ (List.mem_map_of_mem hc)⟩) (X0.keeps st) (T0.keeps st)) (fun _ _ y => y) fun _ _ y => y.elim

end Mine
namespace Mine
section nxt
variable {M : Model} {A : Around} {E : Value → Shared → Prop} {s : Shared} {env : Env} {st : PySem.Stmt} {rest : List PySem.Stmt} {Q : Flow → Shared → Prop}
noncomputable def Nxt (M : Model) (A : Around) (rest : List PySem.Stmt) (env : Env) (Q : Flow → Shared → Prop) (E : Value → Shared → Prop) (f : Flow) (s : Shared) : Prop :=
  match f with
  | .next => wpAny M A (execs rest env) Q E s
  | f => Q f s
theorem execs_nxt (h : wpAny M A (exec st env) (Nxt M A rest env Q E) E s) : wpAny M A (execs (st :: rest) env) Q E s :=
  wpAny_execs_cons (wpAny_mono h (fun f _ x => by cases f <;> exact x) fun _ _ e => e)
theorem execs_one (h : wpAny M A (exec st env) Q E s) : wpAny M A (execs [st] env) Q E s :=
  wpAny_execs_cons (wpAny_mono h (fun f _ x => by cases f <;> first | exact wpAny_execs_nil x | exact x) fun _ _ e => e)
theorem nxt_next (h : wpAny M A (execs rest env) Q E s) : Nxt M A rest env Q E .next s := h
theorem nxt_ret {v : Value} (h : Q (.ret v) s) : Nxt M A rest env Q E (.ret v) s := h
theorem nxt_brk (h : Q .brk s) : Nxt M A rest env Q E .brk s := h
theorem nxt_cont (h : Q .cont s) : Nxt M A rest env Q E .cont s := h
end nxt
end Mine
namespace Mine

end Mine
local macro_rules | `(tactic| walk_at "execs cons") => `(tactic| first | ((try dsimp only); k_gentoks) | (with_reducible refine Mine.execs_one ?_) | ((with_reducible refine Mine.execs_nxt ?_); k_fold))
set_option hygiene false in
local macro_rules | `(tactic| k_unfold) => `(tactic| ((first | (with_reducible refine Mine.nxt_next ?_) | (with_reducible refine Mine.nxt_ret ?_) | (with_reducible refine Mine.nxt_brk ?_) | (with_reducible refine Mine.nxt_cont ?_)); (try clear qk ek)))
local macro_rules | `(tactic| walk_at "MINE lt") => `(tactic| with_reducible first | assumption | exact And.left (by assumption) | exact And.right (by assumption) | exact And.left (And.right (by assumption)) | exact And.right (And.right (by assumption)) | exact And.left (And.right (And.right (by assumption))) | exact And.right (And.right (And.right (by assumption))) | exact And.left (And.right (And.right (And.right (by assumption)))) | exact And.right (And.right (And.right (And.right (by assumption)))) | exact And.left (And.right (And.right (And.right (And.right (by assumption))))) | exact And.right (And.right (And.right (And.right (And.right (by assumption))))) | exact And.left (And.right (And.right (And.right (And.right (And.right (by assumption)))))) | exact And.right (And.right (And.right (And.right (And.right (And.right (by assumption)))))) | exact And.left (And.right (And.right (And.right (And.right (And.right (And.right (by assumption))))))) | exact And.right (And.right (And.right (And.right (And.right (And.right (And.right (by assumption))))))))
local macro_rules | `(tactic| walk_at "MINE ne") => `(tactic| with_reducible first | assumption | (refine neN ?_; first | (refine Ne.symm ?_; assumption) | (refine Nat.ne_of_lt ?_; walk_at "MINE lt") | (refine Nat.ne_of_gt ?_; walk_at "MINE lt")))
local macro_rules | `(tactic| omega) => `(tactic| first | (walk_at "MINE ne") | (walk_at "MINE le") | omega (config := {}))
namespace Mine
abbrev aT (dp un : Nat) (fr : Option (List Env)) (gd : Option (List Code)) : Around := { handled := none, depth := dp, frames := fr, guards := gd, units := un }
abbrev lsO (vs : List Value) (n : Nat) : Obj := { cls := .type "list", data := .seq vs.toArray n }
abbrev tpO (vs : List Value) (n : Nat) : Obj := { cls := .type "tuple", data := .seq vs.toArray n }
abbrev nm (x : String) : Str := Str.ofString x

theorem join2 {g h : Heap} {L : Addr} {m : Str → Option Value} {news : List (Addr × Obj)} {P : Heap → Nat → Prop} {G : Prop} (_ : Fr g L h m) (_ : News g L h news) (key : ∀ h tk, Fr g L h m → News g L h news → P h tk)
    (rest : (∀ h tk, Fr g L h m → News g L h news → P h tk) → G) : G := rest key
theorem u_rec {u c k a b : Nat} (h : u + b ≤ k) (g : c + a ≤ b) : u + c + a ≤ k := Nat.le_trans (by rw [Nat.add_assoc]; exact Nat.add_le_add_left g u) h
theorem u_one {u c k b : Nat} (h : u + b ≤ k) (g : c ≤ b) : u + c ≤ k := Nat.le_trans (Nat.add_le_add_left g u) h
theorem u_lt {u b k c : Nat} (h : u + b ≤ k) (g : k < c) : u < c := Nat.lt_of_le_of_lt (Nat.le_trans (Nat.le_add_right u b) h) g
theorem u_le {u b k c : Nat} (h : u + b ≤ k) (g : k ≤ c) : u ≤ c := Nat.le_trans (Nat.le_trans (Nat.le_add_right u b) h) g
theorem u_5 {a b : Nat} (h : a + 1 ≤ b) : 3 + 5 * a ≤ 5 * b := by omega
theorem u_1 {a b : Nat} (h : a + 1 ≤ b) : 1 + a ≤ b := by omega
theorem s_a {h e : Nat} : 8 * h + 1 ≤ 8 * (1 + h + e) - 3 := by omega
theorem s_b {h e : Nat} : 8 * e + 1 ≤ 8 * (1 + h + e) - 3 := by omega
theorem s_c {h : Nat} : 8 * h + 1 ≤ 8 * (1 + h) - 3 := by omega
theorem s_d {h : Nat} : 8 * h + 1 ≤ 8 * (1 + h) - 5 := by omega
theorem s_e {h : Nat} : 8 * (1 + h) - 3 + 1 ≤ 8 * (1 + h) := by omega
theorem s_f {h : Nat} : 8 * (1 + h) - 5 + 1 ≤ 8 * (1 + h) - 3 := by omega
theorem s_g {h e : Nat} : 8 * (1 + h + e) - 3 + 1 ≤ 8 * (1 + h + e) := by omega
theorem s_h {a b n : Nat} (h : a ≤ b) : a + b * n ≤ b * (n + 1) := by rw [Nat.mul_succ, Nat.add_comm]; exact Nat.add_le_add_left h _
noncomputable def Stop (p : Prop) : Prop := p
theorem stop_here {p : Prop} (h : Stop p) : p := h
theorem stop_ref (n : Addr) {M : Model} {A : Around} {Q : Value → Shared → Prop} {E : Value → Shared → Prop} {s : Shared} {p : List Value} (h : Stop (wpAny M A (call (.ref n) p) Q E s)) : wpAny M A (call (.ref n) p) Q E s := h
theorem stop_out {p : Prop} (h : p) : Stop p := h

theorem Kept.tup {S : List Addr} {h h' : Heap} (k : Kept S h h') {b : Addr} {o : Obj} (e : h.get? b = some o) (n : b ∉ S) : h'.get? b = some o := k b o e n
theorem Kept.refl (S : List Addr) (h : Heap) : Kept S h h := fun _ _ e _ => e
theorem Kept.trans {S : List Addr} {h h' h'' : Heap} (k : Kept S h h') (k' : Kept S h' h'') : Kept S h h'' := fun b o e n => k' b o (k b o e n) n
theorem Kept.mono {S T : List Addr} {h h' : Heap} (k : Kept S h h') (hs : ∀ a ∈ S, a ∈ T) : Kept T h h' := fun b o e n => k b o e fun q => n (hs _ q)
theorem Kept.fr {S : List Addr} {g h h' : Heap} {L : Addr} {m : Str → Option Value} {news : List (Addr × Obj)} (k : Kept S h h') (F : Fr g L h m) (N : News g L h news) (hS : ∀ a ∈ S, ∃ o, (a, o) ∈ news) : Fr g L h' m := by
  have off : ∀ b o, g.get? b = some o → b ∉ S := fun b o e q => by
    obtain ⟨o', ho⟩ := hS b q
    rw [(N _ ho).2.2] at e; cases e
  obtain ⟨oL, es, ep, hL, r⟩ := F.ns
  exact ⟨⟨oL, es, ep, k _ _ hL fun q => by obtain ⟨o', ho⟩ := hS L q; exact (N _ ho).2.1 rfl, r⟩, fun b o e => k b o (F.keep b o e) (off b o e), F.above⟩
theorem Kept.news {S : List Addr} {g h h' : Heap} {L : Addr} {m : Str → Option Value} {news news' nw : List (Addr × Obj)} (k : Kept S h h') (F : Fr g L h m) (N : News g L h news)
    (hc : ∀ p ∈ news', (p ∈ news ∧ p.1 ∉ S) ∨ (h'.get? p.1 = some p.2 ∧ ∃ o, (p.1, o) ∈ news) ∨ p ∈ nw) (hw : ∀ p ∈ nw, h'.get? p.1 = some p.2 ∧ h.get? p.1 = none) : News g L h' news' := by
  obtain ⟨oL, es, ep, hL, r⟩ := F.ns
  intro p hp
  rcases hc p hp with ⟨h1, h2⟩ | ⟨h1, o, h2⟩ | h1
  · exact ⟨k _ _ (N p h1).1 h2, (N p h1).2⟩
  · exact ⟨h1, (N _ h2).2⟩
  · have h2 := hw p h1
    refine ⟨h2.1, fun q => ?_, ?_⟩
    · rw [q, hL] at h2; cases h2.2
    · cases q : g.get? p.1 with
      | none => rfl
      | some o => rw [F.keep _ _ q] at h2; cases h2.2

theorem kept_of {g h h₁ : Heap} {S : List (Addr × Obj)} {L : Addr} {m : Str → Option Value} (e : g = hideAll h (S.map (·.1))) (F : Fr g L h₁ m) : Kept (S.map (·.1)) h h₁ := fun b o q n =>
  F.keep b o (e ▸ hideAll_get _ q n)

noncomputable def Fresh (h h' : Heap) (nw : List (Addr × Obj)) : Prop := ∀ p ∈ nw, h'.get? p.1 = some p.2 ∧ h.get? p.1 = none ∧ p.2.cls = .type "tuple"
noncomputable def Ap (nw news : List (Addr × Obj)) : Prop := ∀ p ∈ nw, ∀ q ∈ news, p.1 ≠ q.1
theorem Fresh.ap {g h h' : Heap} {L : Addr} {nw news : List (Addr × Obj)} (W : Fresh h h' nw) (N : News g L h news) : Ap nw news := fun p hp q hq e => by
  have h1 := (W p hp).2.1
  rw [e, (N q hq).1] at h1; cases h1
theorem fresh_of {g h h₁ : Heap} {S : List (Addr × Obj)} {L : Addr} {news nw : List (Addr × Obj)} (e : g = hideAll h (S.map (·.1))) (N : News g L h₁ news) (hn : ∀ p ∈ nw, p ∈ news) (ht : ∀ p ∈ nw, p.2.cls = .type "tuple") (hS : ∀ a ∈ S.map (·.1), ∃ o, (a, o) ∈ news ∧ o.cls ≠ .type "tuple") : Fresh h h₁ nw := fun p hp => by
  have h1 := N p (hn p hp)
  refine ⟨h1.1, ?_, ht p hp⟩
  cases q : h.get? p.1 with
  | none => rfl
  | some o =>
    have h2 : p.1 ∉ S.map (·.1) := fun hm => by
      obtain ⟨o', ho, hc⟩ := hS _ hm
      have h3 := (N _ ho).1
      rw [h1.1] at h3
      exact hc (by have e' : p.2 = o' := Option.some.inj h3; rw [← e']; exact ht p hp)
    have h3 := h1.2.2
    rw [e, hideAll_get _ q h2] at h3
    cases h3

section loops
open PySem.Spec PyProof.V
variable {prog : Program} {w : World} {A : Around} {E : Value → Shared → Prop} {s : Shared} {env : Env} {h₀ : Heap} {x : Str} {body : List PySem.Stmt} {Q : Flow → Shared → Prop}

noncomputable def LpEnd (h₀ : Heap) (L I : Addr) (io : Obj) (J : (Str → Option Value) → List (Addr × Obj) → Prop) (s₁ s₂ : Shared) : Prop :=
  ∃ h' tk m' nx, s₂ = { s₁ with heap := h', toks := tk } ∧ Fr h₀ L h' m' ∧ News h₀ L h' ((I, io) :: nx) ∧ (∀ p ∈ nx, p.1 ≠ I) ∧ J m' nx
noncomputable def LpPost (h₀ : Heap) (L I : Addr) (io : Obj) (J : (Str → Option Value) → List (Addr × Obj) → Prop) (s₁ : Shared) (Q : Flow → Shared → Prop) (f : Flow) (s₂ : Shared) : Prop :=
  match f with
  | .ret v => Q (.ret v) s₂
  | .brk => Q .next s₂
  | _ => LpEnd h₀ L I io J s₁ s₂
theorem lp_next {L I : Addr} {io : Obj} {J : (Str → Option Value) → List (Addr × Obj) → Prop} {s₁ s₂ : Shared} (h : LpEnd h₀ L I io J s₁ s₂) : LpPost h₀ L I io J s₁ Q .next s₂ := h
theorem lp_ret {L I : Addr} {io : Obj} {J : (Str → Option Value) → List (Addr × Obj) → Prop} {s₁ s₂ : Shared} {v : Value} (h : Q (.ret v) s₂) : LpPost h₀ L I io J s₁ Q (.ret v) s₂ := h
theorem lp_brk {L I : Addr} {io : Obj} {J : (Str → Option Value) → List (Addr × Obj) → Prop} {s₁ s₂ : Shared} (h : Q .next s₂) : LpPost h₀ L I io J s₁ Q .brk s₂ := h
theorem loopW {I : Addr} {fp : List Addr} {n : Nat} {P : Nat → Value → Prop} {St : Nat → Heap → Prop} {m₀ : Str → Option Value} {news : List (Addr × Obj)} {c : String}
    (J : Nat → (Str → Option Value) → List (Addr × Obj) → Prop)
    (W : Walks prog w A I fp [I] n P St) (hc : ∀ i h, St i h → ∃ o, h.get? I = some o ∧ o.cls = .type c) (hfp : ∀ b ∈ fp, b = I ∨ ∃ o, h₀.get? b = some o) (hIn : I ∈ fp) (hI : h₀.get? I = none)
    (hLf : env.locals ∉ fp) (hnw : ∀ p ∈ news, p.1 ≠ I) (hst : St 0 s.heap) (F : Fr h₀ env.locals s.heap m₀) (N : News h₀ env.locals s.heap news) (hj : J 0 m₀ news)
    (turn : ∀ i v m₁ nx h tk io, i < n → P i v → J i m₁ nx → (∀ p ∈ nx, p.1 ≠ I) → io.cls = .type c → Fr h₀ env.locals h (fun y => if y = x then some v else m₁ y) → News h₀ env.locals h ((I, io) :: nx) →
      wpAny (model prog w) A (execs body env) (LpPost h₀ env.locals I io (J (i + 1)) { s with heap := h, toks := tk } Q) E { s with heap := h, toks := tk })
    (done : ∀ m₁ nx h tk, J n m₁ nx → Fr h₀ env.locals h m₁ → News h₀ env.locals h nx → Q .next { s with heap := h, toks := tk }) :
    LoopAtV prog w A h₀ env x body Q E (.ref I) s := by
  refine ⟨I, fp, [I], n, P, St, m₀, news, J, rfl, W, hLf, fun b hb => (List.mem_singleton.mp hb) ▸ hI, fun p hp hm => hnw p hp (List.mem_singleton.mp hm), hst, F, N, hj, ?_, ?_⟩
  · rintro i v m₁ nx s₁ own ⟨h, tk, rfl⟩ hin hP hJ hoff hown _ hmem hst' F₁ N₁
    obtain ⟨io, hio, hcl⟩ := hc _ _ hst'
    have hI' : (I, io) ∈ own := hmem _ hIn hI io hio
    have hone : ∀ p ∈ own, p = (I, io) := fun p hp => by
      have h1 := N₁ p (List.mem_append_left _ hp)
      rcases hfp _ (hown p hp) with e | ⟨o, e⟩
      · have h2 := h1.1
        rw [e] at h2
        have h3 : some p.2 = some io := h2.symm.trans hio
        exact Prod.ext e (Option.some.inj h3)
      · rw [h1.2.2] at e; cases e
    have hoff' : ∀ p ∈ nx, p.1 ≠ I := fun p hp e => hoff p hp (List.mem_singleton.mpr e)
    have N₂ : News h₀ env.locals h ((I, io) :: nx) := fun p hp => (List.mem_cons.mp hp).elim (fun e => e ▸ N₁ _ (List.mem_append_left _ hI')) fun e => N₁ p (List.mem_append_right _ e)
    refine wpAny_mono (turn i v m₁ nx h tk io hin hP hJ hoff' hcl F₁ N₂) (fun f s₂ p => ?_) fun _ _ e => e
    have fin : LpEnd h₀ env.locals I io (J (i + 1)) { s with heap := h, toks := tk } s₂ → LoopStepU h₀ env.locals [I] own (J (i + 1)) { s with heap := h, toks := tk } .next s₂ := by
      rintro ⟨h', tk', m', nx', e, F', N', hn, hm⟩
      exact ⟨rfl, h', tk', m', nx', e, F', fun p hp => (List.mem_append.mp hp).elim (fun q => hone p q ▸ N' _ (.head _)) fun q => N' p (.tail _ q), fun p hp hq => hn p hp (List.mem_singleton.mp hq), hm⟩
    cases f with
    | ret v => exact .ret p
    | brk => exact .brk p
    | next => exact .next (fin p)
    | cont => exact .cont (fin p)
  · rintro h' tk m' news' F' N' _ hJ
    exact done m' news' h' tk hJ F' N'

theorem loop_range {r : Addr} {a b : Int} {t₀ u₀ v₀ : Tok} {n : Nat} {m₀ : Str → Option Value} {news : List (Addr × Obj)} (J : Nat → (Str → Option Value) → List (Addr × Obj) → Prop)
    (hh : A.handled = none) (hr : IsRange s.heap r a b 1 t₀ u₀ v₀) (hab : b = a + n) (hsm : -(2 ^ 62) ≤ a ∧ a < 2 ^ 62 ∧ b < 2 ^ 62) (F : Fr h₀ env.locals s.heap m₀) (N : News h₀ env.locals s.heap news) (hj : J 0 m₀ news)
    (turn : ∀ (i : Nat) t m₁ nx h tk I io, i < n → J i m₁ nx → (∀ p ∈ nx, p.1 ≠ I) → io.cls = .type "range_iterator" → Fr h₀ env.locals h (fun y => if y = x then some (.int (a + i) t) else m₁ y) → News h₀ env.locals h ((I, io) :: nx) →
      wpAny (model prog w) A (execs body env) (LpPost h₀ env.locals I io (J (i + 1)) { s with heap := h, toks := tk } Q) E { s with heap := h, toks := tk })
    (done : ∀ m₁ nx h tk, J n m₁ nx → Fr h₀ env.locals h m₁ → News h₀ env.locals h nx → Q .next { s with heap := h, toks := tk }) :
    wpAny (model prog w) A (pyIter (.ref r)) (fun it s₂ => LoopAtV prog w A h₀ env x body Q E it s₂) E s := by
  refine wpAny_pyIter_range hr (small_one hsm.1 hsm.2.1 (by omega) hsm.2.2) ?_
  have hn : Builtin.Range.rangeSize a b 1 = (n : Int) := by rw [rangeSize_one]; split <;> omega
  have hne := next_is_new F
  refine loopW (c := "range_iterator") J (Walks.range hh s.heap.objs.size a 1 n) (fun i h q => ⟨_, q, rfl⟩) (fun b hb => .inl (List.mem_singleton.mp hb)) (List.mem_singleton.mpr rfl) hne ?_ ?_ (by rw [hn]; show IsRangeIter _ _ _ _ _; simpa using Heap.get?_push_size _ rfl) (F.push _)
    (fun p hp => ⟨Heap.get?_push_of_some _ (N p hp).1, (N p hp).2⟩) hj ?_ ?_
  · intro hm
    exact absurd F.ns.lt ((List.mem_singleton.mp hm) ▸ Nat.lt_irrefl _)
  · intro p hp hI
    exact absurd (Heap.lt_size (N p hp).1) (hI ▸ Nat.lt_irrefl _)
  · rintro i v m₁ nx h tk io hi ⟨t, rfl⟩ hJ ha hc F₁ N₁
    rw [show a + (i : Int) * 1 = a + i by omega] at F₁
    exact turn i t m₁ nx h tk _ io hi hJ ha hc F₁ N₁
  · exact fun m₁ nx h tk hJ F₁ N₁ => done m₁ nx h tk hJ F₁ N₁

theorem loop_tuple {l : Addr} {vs : List Value} {m₀ : Str → Option Value} {news : List (Addr × Obj)} (J : Nat → (Str → Option Value) → List (Addr × Obj) → Prop)
    (hh : A.handled = none) (hl : ∃ n, h₀.get? l = some (tpO vs n)) (F : Fr h₀ env.locals s.heap m₀) (N : News h₀ env.locals s.heap news) (hj : J 0 m₀ news)
    (turn : ∀ (i : Nat) v m₁ nx h tk I io, vs[i]? = some v → J i m₁ nx → (∀ p ∈ nx, p.1 ≠ I) → io.cls = .type "tuple_iterator" → Fr h₀ env.locals h (fun y => if y = x then some v else m₁ y) → News h₀ env.locals h ((I, io) :: nx) →
      wpAny (model prog w) A (execs body env) (LpPost h₀ env.locals I io (J (i + 1)) { s with heap := h, toks := tk } Q) E { s with heap := h, toks := tk })
    (done : ∀ m₁ nx h tk, J vs.length m₁ nx → Fr h₀ env.locals h m₁ → News h₀ env.locals h nx → Q .next { s with heap := h, toks := tk }) :
    wpAny (model prog w) A (pyIter (.ref l)) (fun it s₂ => LoopAtV prog w A h₀ env x body Q E it s₂) E s := by
  obtain ⟨n, hl⟩ := hl
  have hls : s.heap.IsTuple l vs.toArray := ⟨_, F.keep _ _ hl, rfl, n, rfl⟩
  have hlt : l < h₀.objs.size := Heap.lt_size hl
  have hne : l ≠ s.heap.objs.size := Nat.ne_of_lt (Nat.lt_trans (Nat.lt_of_lt_of_le hlt F.above) F.ns.lt)
  refine wpAny_pyIter_tuple hls ?_
  have W := Walks.tuple (prog := prog) (w := w) hh s.heap.objs.size l hne vs.toArray
  rw [List.size_toArray] at W
  have hI := next_is_new F
  refine loopW (c := "tuple_iterator") J W (fun i h q => let ⟨o, ho, hc, _⟩ := q.1; ⟨o, ho, hc⟩) (fun b hb => ?_) (.head _) hI ?_ ?_ ⟨⟨_, Heap.get?_push_size _ rfl, rfl, rfl⟩, hls.push _⟩ (F.push _)
    (fun p hp => ⟨Heap.get?_push_of_some _ (N p hp).1, (N p hp).2⟩) hj ?_ ?_
  · rcases List.mem_cons.mp hb with e | hb
    · exact .inl e
    · exact .inr ⟨_, (List.mem_singleton.mp hb) ▸ hl⟩
  · intro hm
    rcases List.mem_cons.mp hm with e | hm
    · exact absurd F.ns.lt (e ▸ Nat.lt_irrefl _)
    · exact absurd (Nat.lt_of_lt_of_le hlt F.above) ((List.mem_singleton.mp hm) ▸ Nat.lt_irrefl _)
  · intro p hp hI
    exact absurd (Heap.lt_size (N p hp).1) (hI ▸ Nat.lt_irrefl _)
  · intro i v m₁ nx h tk io hi hP hJ ha hc F₁ N₁
    exact turn i v m₁ nx h tk _ io (by simpa using hP) hJ ha hc F₁ N₁
  · exact fun m₁ nx h tk hJ F₁ N₁ => done m₁ nx h tk hJ F₁ N₁
end loops
end Mine
local macro_rules | `(tactic| k_unfold) => `(tactic| (with_reducible first | refine Mine.lp_next ?_ | refine Mine.lp_ret ?_ | refine Mine.lp_brk ?_))
namespace Mine
end Mine
namespace Mine
section loops1
open PySem.Spec PyProof.V
variable {prog : Program} {w : World} {A : Around} {E : Value → Shared → Prop} {s : Shared} {env : Env} {h₀ : Heap} {x : Str} {body : List PySem.Stmt} {Q : Flow → Shared → Prop}
theorem off_eq {x : Str} {m₁ m₀ : Str → Option Value} (h : ∀ z, z ≠ x → m₁ z = m₀ z) : m₁ = fun z => if z = x then m₁ z else m₀ z := by
  funext z
  by_cases e : z = x
  · simp [e]
  · simp only [if_neg e]; exact h z e
theorem on_eq {x : Str} {v : Option Value} {m₁ m₀ : Str → Option Value} (h : ∀ z, z ≠ x → m₁ z = m₀ z) : (fun z => if z = x then v else m₁ z) = fun z => if z = x then v else m₀ z := by
  funext z
  by_cases e : z = x
  · simp [e]
  · simp only [if_neg e]; exact h z e
noncomputable def Lp1 (x : Str) (m₀ : Str → Option Value) (J : List (Addr × Obj) → Prop) (m : Str → Option Value) (nx : List (Addr × Obj)) : Prop := (∀ z, z ≠ x → m z = m₀ z) ∧ J nx
theorem loop_range1 {r : Addr} {a b : Int} {t₀ u₀ v₀ : Tok} {n : Nat} {m₀ : Str → Option Value} {news : List (Addr × Obj)} (J : Nat → List (Addr × Obj) → Prop)
    (hh : A.handled = none) (hr : IsRange s.heap r a b 1 t₀ u₀ v₀) (hab : b = a + n) (hsm : -(2 ^ 62) ≤ a ∧ a < 2 ^ 62 ∧ b < 2 ^ 62) (F : Fr h₀ env.locals s.heap m₀) (N : News h₀ env.locals s.heap news) (hj : J 0 news)
    (turn : ∀ (i : Nat) t nx h tk I io, i < n → J i nx → (∀ p ∈ nx, p.1 ≠ I) → io.cls = .type "range_iterator" → Fr h₀ env.locals h (fun y => if y = x then some (.int (a + i) t) else m₀ y) → News h₀ env.locals h ((I, io) :: nx) →
      wpAny (model prog w) A (execs body env) (LpPost h₀ env.locals I io (Lp1 x m₀ (J (i + 1))) { s with heap := h, toks := tk } Q) E { s with heap := h, toks := tk })
    (done : ∀ (u : Str → Option Value) nx h tk, J n nx → Fr h₀ env.locals h (fun z => if z = x then u z else m₀ z) → News h₀ env.locals h nx → Q .next { s with heap := h, toks := tk }) :
    wpAny (model prog w) A (pyIter (.ref r)) (fun it s₂ => LoopAtV prog w A h₀ env x body Q E it s₂) E s := by
  refine loop_range (fun i m nx => Lp1 x m₀ (J i) m nx) hh hr hab hsm F N ⟨fun _ _ => rfl, hj⟩ ?_ ?_
  · rintro i t m₁ nx h tk I io hi ⟨hm, hJ⟩ ha hc F₁ N₁
    rw [on_eq hm] at F₁
    exact turn i t nx h tk I io hi hJ ha hc F₁ N₁
  · rintro m₁ nx h tk ⟨hm, hJ⟩ F₁ N₁
    rw [off_eq hm] at F₁
    exact done m₁ nx h tk hJ F₁ N₁
theorem loop_tuple1 {l : Addr} {vs : List Value} {m₀ : Str → Option Value} {news : List (Addr × Obj)} (J : Nat → List (Addr × Obj) → Prop)
    (hh : A.handled = none) (hl : ∃ n, h₀.get? l = some (tpO vs n)) (F : Fr h₀ env.locals s.heap m₀) (N : News h₀ env.locals s.heap news) (hj : J 0 news)
    (turn : ∀ (i : Nat) v nx h tk I io, vs[i]? = some v → J i nx → (∀ p ∈ nx, p.1 ≠ I) → io.cls = .type "tuple_iterator" → Fr h₀ env.locals h (fun y => if y = x then some v else m₀ y) → News h₀ env.locals h ((I, io) :: nx) →
      wpAny (model prog w) A (execs body env) (LpPost h₀ env.locals I io (Lp1 x m₀ (J (i + 1))) { s with heap := h, toks := tk } Q) E { s with heap := h, toks := tk })
    (done : ∀ (u : Str → Option Value) nx h tk, J vs.length nx → Fr h₀ env.locals h (fun z => if z = x then u z else m₀ z) → News h₀ env.locals h nx → Q .next { s with heap := h, toks := tk }) :
    wpAny (model prog w) A (pyIter (.ref l)) (fun it s₂ => LoopAtV prog w A h₀ env x body Q E it s₂) E s := by
  refine loop_tuple (fun i m nx => Lp1 x m₀ (J i) m nx) hh hl F N ⟨fun _ _ => rfl, hj⟩ ?_ ?_
  · rintro i v m₁ nx h tk I io hi ⟨hm, hJ⟩ ha hc F₁ N₁
    rw [on_eq hm] at F₁
    exact turn i v nx h tk I io hi hJ ha hc F₁ N₁
  · rintro m₁ nx h tk ⟨hm, hJ⟩ F₁ N₁
    rw [off_eq hm] at F₁
    exact done m₁ nx h tk hJ F₁ N₁
end loops1
end Mine
namespace Mine
inductive Out (d : Addr) (o : Obj) : List (Addr × Obj) → List (Addr × Obj) → Prop
  | head {r} : (∀ p ∈ r, p.1 ≠ d) → Out d o ((d, o) :: r) r
  | tail {p r r'} : p.1 ≠ d → Out d o r r' → Out d o (p :: r) (p :: r')
theorem Out.mem {d : Addr} {o : Obj} : ∀ {l l' : List (Addr × Obj)}, Out d o l l' → (d, o) ∈ l
  | _, _, .head _ => .head _
  | _, _, .tail _ h => .tail _ h.mem
theorem Out.rest {d : Addr} {o : Obj} : ∀ {l l' : List (Addr × Obj)}, Out d o l l' → ∀ p ∈ l', p ∈ l ∧ p.1 ≠ d
  | _, _, .head h, p, hp => ⟨.tail _ hp, h p hp⟩
  | _, _, .tail h r, p, hp => by
    rcases List.mem_cons.mp hp with rfl | hp
    · exact ⟨.head _, h⟩
    · exact ⟨.tail _ (r.rest p hp).1, (r.rest p hp).2⟩
end Mine
local macro_rules | `(tactic| walk_at "MINE out") => `(tactic| first | (refine' Mine.Out.head ?a; (case a => k_all)) | (refine' Mine.Out.tail ?a ?b; (case a => k_ne); (case b => walk_at "MINE out")))
namespace Mine
section ranges
variable {prog : Program} {w : World} {A : Around} {E : Value → Shared → Prop} {s : Shared} {h₀ : Heap} {L : Addr} {m : Str → Option Value} {news : List (Addr × Obj)}
theorem range_N {n : Int} {t : Tok} {Q : Value → Shared → Prop} (F : Fr h₀ L s.heap m) (N : News h₀ L s.heap news)
    (h : ∀ h' r a b c tk, IsRange h' r 0 n 1 a b c → Fr h₀ L h' m → News h₀ L h' news → Q (.ref r) { s with heap := h', toks := tk }) : wpAny (model prog w) A (call (.type "range") [.int n t]) Q E s :=
  call_range_1 (h _ _ _ _ _ _ (Heap.get?_push_size _ rfl) (F.push _) fun p hp => ⟨Heap.get?_push_of_some _ (N p hp).1, (N p hp).2⟩)
end ranges
end Mine
namespace Mine
theorem sub_refl {l : List (Addr × Obj)} : ∀ p ∈ l, p ∈ l := fun _ h => h
theorem sub_cons {l l' : List (Addr × Obj)} {q : Addr × Obj} (h : ∀ p ∈ l, p ∈ l') : ∀ p ∈ l, p ∈ q :: l' := fun p hp => .tail _ (h p hp)
theorem sub_left {l a b : List (Addr × Obj)} (h : ∀ p ∈ l, p ∈ a) : ∀ p ∈ l, p ∈ a ++ b := fun p hp => List.mem_append_left _ (h p hp)
theorem sub_right {l a b : List (Addr × Obj)} (h : ∀ p ∈ l, p ∈ b) : ∀ p ∈ l, p ∈ a ++ b := fun p hp => List.mem_append_right _ (h p hp)
theorem all_app {P : Addr × Obj → Prop} {a b : List (Addr × Obj)} (h1 : ∀ p ∈ a, P p) (h2 : ∀ p ∈ b, P p) : ∀ p ∈ a ++ b, P p := fun p hp => (List.mem_append.mp hp).elim (h1 p) (h2 p)
theorem Ap.ne {nw news : List (Addr × Obj)} {d : Addr} {o : Obj} (h : Ap nw news) (hm : (d, o) ∈ news) : ∀ p ∈ nw, p.1 ≠ d := fun p hp => h p hp _ hm
theorem News.sub {g h : Heap} {L : Addr} {l l' : List (Addr × Obj)} (N : News g L h l) (hs : ∀ p ∈ l', p ∈ l) : News g L h l' := fun p hp => N p (hs p hp)
end Mine
local macro_rules | `(tactic| walk_at "MINE sub") => `(tactic| first | exact List.forall_mem_nil _ | (refine' List.forall_mem_cons.mpr ⟨?a, ?b⟩; (case a => k_mem); (case b => walk_at "MINE sub")) | (with_reducible exact Mine.sub_refl) | (refine' Mine.all_app ?a ?b; (case a => walk_at "MINE sub"); (case b => walk_at "MINE sub")) | (refine' Mine.sub_cons ?a; (case a => walk_at "MINE sub")) | (refine' Mine.sub_left ?a; (case a => walk_at "MINE sub")) | (refine' Mine.sub_right ?a; (case a => walk_at "MINE sub")))
local macro_rules | `(tactic| walk_at "MINE g") => `(tactic| first | exact Mine.s_h (by decide) | ((first | refine Mine.u_5 ?_ | refine Mine.u_1 ?_); with_reducible first | exact Mine.s_a | exact Mine.s_b | exact Mine.s_c | exact Mine.s_d | exact Mine.s_e | exact Mine.s_f | exact Mine.s_g) | omega (config := {}))
local macro_rules | `(tactic| walk_at "MINE le") => `(tactic| first | exact Nat.zero_le _ | exact Nat.le_succ_of_le (by with_reducible assumption) | (refine' Nat.le_trans ?h ?g; (case h => with_reducible assumption); (case g => decide)) | (refine' Nat.lt_of_le_of_lt ?h ?g; (case h => with_reducible assumption); (case g => decide)) | (refine' Mine.u_lt ?h ?g; (case h => with_reducible assumption); (case g => decide)) | (refine' Mine.u_le ?h ?g; (case h => with_reducible assumption); (case g => decide)) | (refine' Mine.u_rec ?h ?g; (case h => with_reducible assumption); (case g => walk_at "MINE g")) | (refine' Mine.u_one ?h ?g; (case h => with_reducible assumption); (case g => omega (config := {}))))
local macro_rules | `(tactic| k_all) => `(tactic| first | (refine' Mine.Ap.ne ?x ?y; (case x => assumption); (case y => k_mem)) | (refine' Mine.all_app ?x ?y; (case x => k_all); (case y => k_all)))
local macro_rules | `(tactic| walk_at "MINE sh") => `(tactic| with_reducible first | (show _ ∈ _) | (show ∀ p ∈ _, p ∈ _) | (show Mine.Out _ _ _ _) | (show IsTup _ _ _) | (show _ = _) | (show ∀ _, _ = _) | (show _ ≤ _) | (show _ < _) | (show _ ≠ _) | (show ¬ _) | (show _ ∧ _) | (show Fr _ _ _ _) | (show News _ _ _ _) | (show Heap.IsList _ _ _) | (show IntsAre _ _) | (show Top _ _ _ _ _ _) | (show Frag.In _ _) | (show Obj.IsDictOf _ _ _))
local macro_rules | `(tactic| walk_at "MINE S") => `(tactic| k_dflt (first
  | (fail_if_success show (_ : Prop))
  | ((show (_ : Prop)); first
    | with_reducible assumption
    | ((with_reducible show _ ∈ _); k_mem)
    | ((with_reducible show ∀ p ∈ _, p ∈ _); walk_at "MINE sub")
    | ((with_reducible show Mine.Out _ _ _ _); walk_at "MINE out")
    | ((with_reducible show IsTup _ _ _); first | exact News.isTup (by k_asm) (by k_mem) | exact stays_tup (Fr.keep (by k_asm)) (by assumption))
    | ((with_reducible show _ = _); first | exact rfl | with_unfolding_all rfl | k_is)
    | ((with_reducible show ∀ _, _ = _); intro _; with_unfolding_all rfl)
    | ((with_reducible first | (show _ ≤ _) | (show _ < _) | (show ¬ _) | (show _ ∧ _)); first | decide | omega | ((simp only [Around.deeper_units, depth_deeper, List.length_append, List.length_cons, List.length_nil, List.length_set, List.length_map]); first | omega | decide) | exact List.cons_ne_nil _ _)
    | (walk_at "MINE sh"; assumption))
  | (fail_if_success walk_at "MINE sh")))
namespace Mine
section lists
variable {prog : Program} {w : World} {A : Around} {E : Value → Shared → Prop} {s : Shared} {h₀ : Heap} {L a : Addr} {m : Str → Option Value} {news rest : List (Addr × Obj)} {vs : List Value} {n : Nat}
theorem Out.set {o o' : Obj} {h h' : Heap} (U : Out a o news rest) (N : News h₀ L h news) (F : Fr h₀ L h m) (hs : Heap.SameBut a h h') (ho : h'.get? a = some o') : Fr h₀ L h' m ∧ News h₀ L h' ((a, o') :: rest) := by
  have z := N _ U.mem
  refine ⟨F.change hs z.2.1 z.2.2, fun p hp => ?_⟩
  rcases List.mem_cons.mp hp with rfl | hp
  · exact ⟨ho, z.2⟩
  · have h1 := U.rest p hp
    have h2 := N _ h1.1
    exact ⟨(hs.2 _ h1.2).trans h2.1, h2.2⟩
theorem append_L {x : Value} {Q : Value → Shared → Prop} (F : Fr h₀ L s.heap m) (N : News h₀ L s.heap news) (U : Out a (lsO vs n) news rest) (hsz : vs.length ≤ 10000)
    (h : ∀ h', Fr h₀ L h' m → News h₀ L h' ((a, lsO (vs ++ [x]) (n + 1)) :: rest) → Q .none { s with heap := h' }) : wpAny (model prog w) A (call (.builtin "list.append") [.ref a, x]) Q E s := by
  refine append_at (hsz := by rw [sizeLine_eq, List.size_toArray]; omega) (N _ U.mem).1 fun h' hs ho => ?_
  rw [List.push_toArray] at ho
  have := U.set N F hs ho
  exact h h' this.1 this.2
theorem tuple_L {Q : Value → Shared → Prop} (F : Fr h₀ L s.heap m) (N : News h₀ L s.heap news) (hm : (a, lsO vs n) ∈ news) (hz : vs.length ≤ 10000)
    (h : ∀ D h', Fr h₀ L h' m → News h₀ L h' ((D, tpO vs 0) :: news) → (∀ p ∈ news, p.1 < D) → Q (.ref D) { s with heap := h' }) : wpAny (model prog w) A (call (.type "tuple") [.ref a]) Q E s :=
  kde_tupleOf F N (News.isList N hm) (by rw [List.size_toArray]; omega) rfl h
end lists
end Mine
local macro_rules | `(tactic| walk_at "MINE append") => `(tactic| (((k_dflt refine' Mine.append_L _ _ _ _ _) <;> walk_at "MINE S"); intro h' F' N'))
namespace Mine
theorem Ap.of3 {l : List (Addr × Obj)} {a b c : Addr} {x y z : Obj} (h1 : ∀ p ∈ l, p.1 ≠ a) (h2 : ∀ p ∈ l, p.1 ≠ b) (h3 : ∀ p ∈ l, p.1 ≠ c) : Ap l [(a, x), (b, y), (c, z)] := fun p hp q hq => by
  rcases List.mem_cons.mp hq with rfl | hq
  · exact h1 p hp
  rcases List.mem_cons.mp hq with rfl | hq
  · exact h2 p hp
  cases List.mem_singleton.mp hq
  exact h3 p hp
theorem LpEnd.intro {h₀ : Heap} {L I : Addr} {io : Obj} {J : (Str → Option Value) → List (Addr × Obj) → Prop} {s₁ : Shared} {h' : Heap} {tk : Nat} {m' : Str → Option Value} {news nx : List (Addr × Obj)}
    (F : Fr h₀ L h' m') (N : News h₀ L h' news) (hs : ∀ p ∈ (I, io) :: nx, p ∈ news) (hn : ∀ p ∈ nx, p.1 ≠ I) (hj : J m' nx) : LpEnd h₀ L I io J s₁ { s₁ with heap := h', toks := tk } :=
  ⟨h', tk, m', nx, rfl, F, News.sub N hs, hn, hj⟩
end Mine
namespace Mine
section lists2
variable {prog : Program} {w : World} {A : Around} {E : Value → Shared → Prop} {s : Shared} {h₀ : Heap} {L a : Addr} {m : Str → Option Value} {news rest : List (Addr × Obj)} {vs : List Value} {n : Nat}
theorem len_L {Q : Value → Shared → Prop} (N : News h₀ L s.heap news) (hm : (a, lsO vs n) ∈ news) (hz : vs.length ≤ 10000) (h : Q (.int (vs.length : Nat) (s.toks + 1)) { s with toks := s.toks + 1 + 1 }) :
    wpAny (model prog w) A (call (.builtin "len") [.ref a]) Q E s :=
  Calls.call_len_list (News.isList N hm) (by rw [List.size_toArray]; omega) (by rw [List.size_toArray]; exact h)
end lists2
end Mine
local macro_rules | `(tactic| walk_at "MINE len") => `(tactic| (((k_dflt refine' Mine.len_L _ _ _ _) <;> walk_at "MINE S"); (try simp only [List.length_append, List.length_cons, List.length_nil])))
namespace Mine
section lists3
variable {prog : Program} {w : World} {A : Around} {E : Value → Shared → Prop} {s : Shared} {h₀ : Heap} {L a : Addr} {m : Str → Option Value} {news rest : List (Addr × Obj)} {vs : List Value} {n : Nat}
theorem item_L {value slice : PySem.Expr} {i : Nat} {u : Tok} {v : Value} {Q : Value → Shared → Prop} (N : News h₀ L s.heap news) (hm : (a, lsO vs n) ∈ news) (hx : vs[i]? = some v) (hi : i < 2 ^ 60) (h : Q v s)
    (hs : subscripted slice false (.ref a) (.int (i : Nat) u) = operate [.ref a, .int (i : Nat) u] (getItem (.ref a) (.int (i : Nat) u))) : wpAny (model prog w) A (subscriptTail value slice (.ref a) (.int (i : Nat) u)) Q E s :=
  have hl := News.isList N hm
  tail_any hl.typeIs slot_list_getitem.lookup (wpAny_getItem_list hl (by omega) (by omega) (by simpa using hx) h) hs
theorem item_LB {value slice : PySem.Expr} {i : Nat} {u : Tok} {v : Value} {Q : Value → Shared → Prop} (F : Fr h₀ L s.heap m) (hl : h₀.IsList a vs.toArray) (hx : vs[i]? = some v) (hi : i < 2 ^ 60) (h : Q v s)
    (hs : subscripted slice false (.ref a) (.int (i : Nat) u) = operate [.ref a, .int (i : Nat) u] (getItem (.ref a) (.int (i : Nat) u))) : wpAny (model prog w) A (subscriptTail value slice (.ref a) (.int (i : Nat) u)) Q E s :=
  have hl : s.heap.IsList a vs.toArray := stays_list F.keep hl
  tail_any hl.typeIs slot_list_getitem.lookup (wpAny_getItem_list hl (by omega) (by omega) (by simpa using hx) h) hs
theorem len_LB {Q : Value → Shared → Prop} (F : Fr h₀ L s.heap m) (hl : h₀.IsList a vs.toArray) (hz : vs.length ≤ 10000) (h : Q (.int (vs.length : Nat) (s.toks + 1)) { s with toks := s.toks + 1 + 1 }) :
    wpAny (model prog w) A (call (.builtin "len") [.ref a]) Q E s :=
  Calls.call_len_list (stays_list F.keep hl) (by rw [List.size_toArray]; omega) (by rw [List.size_toArray]; exact h)
end lists3
end Mine
namespace Mine
section lists4
variable {prog : Program} {w : World} {A : Around} {E : Value → Shared → Prop} {s : Shared} {h₀ : Heap} {L a : Addr} {m : Str → Option Value} {news rest : List (Addr × Obj)} {vs : List Value} {n : Nat}
theorem setItem_L {i : Nat} {u : Tok} {v : Value} {Q : Unit → Shared → Prop} (F : Fr h₀ L s.heap m) (N : News h₀ L s.heap news) (U : Out a (lsO vs n) news rest) (hi : i < vs.length) (hz : vs.length ≤ 10000)
    (h : ∀ h', Fr h₀ L h' m → News h₀ L h' ((a, lsO (vs.set i v) n) :: rest) → Q () { s with heap := h' }) : wpAny (model prog w) A (setItem (.ref a) (.int (i : Nat) u) v) Q E s := by
  have z := (N _ U.mem).1
  refine ki_setAt (n := n) z (by omega) (by omega) (by rw [List.size_toArray]; omega) ?_
  have q := PySem.IsL.update z (f := fun x => x.setIfInBounds ((i : Int).toNat) v)
  have e : vs.toArray.setIfInBounds ((i : Int).toNat) v = (vs.set i v).toArray := by rw [Int.toNat_natCast]; simp
  rw [e] at q
  have hn : (if (vs.set i v).toArray.size == vs.toArray.size then n else n + 1) = n := by simp
  rw [hn] at q
  have := U.set N F (Heap.SameBut.update ..) q
  exact h _ this.1 this.2
end lists4
end Mine
namespace Mine
theorem none_of {g h h₁ : Heap} {S : List (Addr × Obj)} {L : Addr} {news : List (Addr × Obj)} {a : Addr} {o : Obj} (e : g = hideAll h (S.map (·.1))) (N : News g L h₁ news) (hm : (a, o) ∈ news) (hS : a ∉ S.map (·.1)) : h.get? a = none := by
  cases q : h.get? a with
  | none => rfl
  | some o' =>
    have h3 := (N _ hm).2.2
    rw [e, hideAll_get _ q hS] at h3
    cases h3
end Mine

namespace Mine
theorem eqN {a b : Nat} (h : a = b) : a = b := h
end Mine
namespace Mine
abbrev Says := Addr → Obj → Prop
abbrev hG (h : Heap) : Says := fun a o => h.get? a = some o
abbrev lG (l : List (Addr × Obj)) : Says := fun a o => (a, o) ∈ l
noncomputable def TpG (G : Says) (v : Value) (its : List Value) : Prop := ∃ a n, v = .ref a ∧ G a (tpO its n)
noncomputable def CoG (G : Says) (v : Value) (k x : Nat) : Prop := ∃ t1 t2 t3 t4, TpG G v [.str (nm "const") t1, .int k t2, .int x t3, .int 0 t4]

mutual
noncomputable def StG (G : Says) : Value → Sm → Prop
  | v, .set n => ∃ t1 lv c, TpG G v [.str (nm "set") t1, lv, c, .none] ∧ CoG G c 8 n
  | v, .dis k => ∃ t1 t2, TpG G v [.str (nm "disable") t1, .int k t2]
  | v, .ite1 t a => ∃ t1 c va, TpG G v [.str (nm "if") t1, c, va, .none] ∧ CoG G c 1 t ∧ StG G va a
  | v, .ite2 t a b => ∃ t1 c va vb, TpG G v [.str (nm "if") t1, c, va, vb] ∧ CoG G c 1 t ∧ StG G va a ∧ StG G vb b
  | v, .rep c b => ∃ t1 vc vb, TpG G v [.str (nm "repeat") t1, vc, .bool false, vb] ∧ CoG G vc 4 c ∧ StG G vb b
  | v, .blk l k => ∃ t1 t2 vl vs, TpG G v [.str (nm "block") t1, vl, .int k t2] ∧ TpG G vl vs ∧ SlG G vs l
  | v, .seq l => ∃ t1 t2 vl vs, TpG G v [.str (nm "block") t1, vl, .int (-1) t2] ∧ TpG G vl vs ∧ SlG G vs l
noncomputable def SlG (G : Says) : List Value → List Sm → Prop
  | [], [] => True
  | v :: vs, d :: l => StG G v d ∧ SlG G vs l
  | _, _ => False
end

noncomputable def Says.sub (G G' : Says) : Prop := ∀ a its n, G a (tpO its n) → G' a (tpO its n)
theorem TpG.mono {G G' : Says} (h : G.sub G') {v : Value} {its : List Value} : TpG G v its → TpG G' v its := fun ⟨a, n, e, x⟩ => ⟨a, n, e, h _ _ _ x⟩
theorem CoG.mono {G G' : Says} (h : G.sub G') {v : Value} {k x : Nat} : CoG G v k x → CoG G' v k x := fun ⟨a, b, c, d, y⟩ => ⟨a, b, c, d, y.mono h⟩
mutual
theorem StG.mono {G G' : Says} (h : G.sub G') : ∀ (d : Sm) (v : Value), StG G v d → StG G' v d
  | .set n, v => by simp only [StG]; exact fun ⟨a, b, c, x, y⟩ => ⟨a, b, c, x.mono h, y.mono h⟩
  | .dis k, v => by simp only [StG]; exact fun ⟨a, b, x⟩ => ⟨a, b, x.mono h⟩
  | .ite1 t d, v => by simp only [StG]; exact fun ⟨a, b, c, x, y, z⟩ => ⟨a, b, c, x.mono h, y.mono h, StG.mono h d _ z⟩
  | .ite2 t d e, v => by simp only [StG]; exact fun ⟨a, b, c, f, x, y, z, u⟩ => ⟨a, b, c, f, x.mono h, y.mono h, StG.mono h d _ z, StG.mono h e _ u⟩
  | .rep c d, v => by simp only [StG]; exact fun ⟨a, b, c, x, y, z⟩ => ⟨a, b, c, x.mono h, y.mono h, StG.mono h d _ z⟩
  | .blk l k, v => by simp only [StG]; exact fun ⟨a, b, c, d, x, y, z⟩ => ⟨a, b, c, d, x.mono h, y.mono h, SlG.mono h l _ z⟩
  | .seq l, v => by simp only [StG]; exact fun ⟨a, b, c, d, x, y, z⟩ => ⟨a, b, c, d, x.mono h, y.mono h, SlG.mono h l _ z⟩
theorem SlG.mono {G G' : Says} (h : G.sub G') : ∀ (l : List Sm) (vs : List Value), SlG G vs l → SlG G' vs l
  | [], [] => fun _ => by simp only [SlG]
  | d :: l, v :: vs => by simp only [SlG]; exact fun ⟨x, y⟩ => ⟨StG.mono h d _ x, SlG.mono h l _ y⟩
  | [], _ :: _ => by simp only [SlG]; exact id
  | _ :: _, [] => by simp only [SlG]; exact id
end
theorem SlG.snoc {G : Says} {d : Sm} {v : Value} (hd : StG G v d) : ∀ {l : List Sm} {vs : List Value}, SlG G vs l → SlG G (vs ++ [v]) (l ++ [d])
  | [], [], _ => by simp only [SlG, List.nil_append]; exact ⟨hd, trivial⟩
  | d :: l, v :: vs, h => by simp only [SlG, List.cons_append] at h ⊢; exact ⟨h.1, SlG.snoc hd h.2⟩
  | [], _ :: _, h => by simp only [SlG] at h
  | _ :: _, [], h => by simp only [SlG] at h
theorem SlG.length {G : Says} : ∀ {l : List Sm} {vs : List Value}, SlG G vs l → vs.length = l.length
  | [], [], _ => rfl
  | d :: l, v :: vs, h => by simp only [SlG] at h; simp [SlG.length h.2]
  | [], _ :: _, h => by simp only [SlG] at h
  | _ :: _, [], h => by simp only [SlG] at h
theorem lG_sub {l l' : List (Addr × Obj)} (h : ∀ p ∈ l, p ∈ l') : Says.sub (lG l) (lG l') := fun _ _ _ x => h _ x
theorem Kept.sub {S : List Addr} {h h' : Heap} (k : Kept S h h') (hS : ∀ a ∈ S, ∀ o, h.get? a = some o → o.cls ≠ .type "tuple") : Says.sub (hG h) (hG h') := fun a its n x => k _ _ x fun q => hS a q _ x rfl
theorem Fresh.sub {h h' : Heap} {nw : List (Addr × Obj)} (W : Fresh h h' nw) : Says.sub (lG nw) (hG h') := fun a its n x => (W _ x).1
theorem hide_sub {h : Heap} {S : List Addr} (hS : ∀ a ∈ S, ∀ o, h.get? a = some o → o.cls ≠ .type "tuple") : Says.sub (hG h) (hG (hideAll h S)) := fun a its n x => hideAll_get _ x fun q => hS a q _ x rfl
end Mine
namespace Mine
noncomputable def tups (news : List (Addr × Obj)) : List (Addr × Obj) := news.filter fun p => decide (p.2.cls = .type "tuple")
theorem tups_mem {news : List (Addr × Obj)} {p : Addr × Obj} : p ∈ tups news ↔ p ∈ news ∧ p.2.cls = .type "tuple" := by simp [tups]
theorem tups_sub {news : List (Addr × Obj)} : Says.sub (lG news) (lG (tups news)) := fun _ _ _ x => tups_mem.mpr ⟨x, rfl⟩
theorem fresh_tups {g h h₁ : Heap} {S : List (Addr × Obj)} {L : Addr} {news : List (Addr × Obj)} (e : g = hideAll h (S.map (·.1))) (N : News g L h₁ news) (hS : ∀ a ∈ S.map (·.1), ∃ o, (a, o) ∈ news ∧ o.cls ≠ .type "tuple") : Fresh h h₁ (tups news) :=
  fresh_of e N (fun _ hp => (tups_mem.mp hp).1) (fun _ hp => (tups_mem.mp hp).2) hS
end Mine
namespace Mine
noncomputable def RwG (G : Says) (v : Value) : Row → Prop
  | .set n => ∃ t1 lv c, TpG G v [.str (nm "set") t1, lv, c] ∧ CoG G c 8 n
  | .dis k => ∃ t1 t2, TpG G v [.str (nm "disable") t1, .int k t2]
  | .unl t a => ∃ t1 c t2, TpG G v [.str (nm "unless") t1, c, .int a t2] ∧ CoG G c 1 t
  | .jmp a => ∃ t1 t2, TpG G v [.str (nm "jump") t1, .int a t2]
  | .tim q c => ∃ t1 t2 vc, TpG G v [.str (nm "times") t1, .int q t2, vc, .bool false] ∧ CoG G vc 4 c
  | .agn q a => ∃ t1 t2 t3, TpG G v [.str (nm "again") t1, .int q t2, .int a t3]
  | .ent k a => ∃ t1 t2 t3, TpG G v [.str (nm "enter") t1, .int k t2, .int a t3]
  | .lea k => ∃ t1 t2, TpG G v [.str (nm "leave") t1, .int k t2]
  | .ret => ∃ t1, TpG G v [.str (nm "return") t1]
noncomputable def RwsG (G : Says) : List Value → List Row → Prop
  | [], [] => True
  | v :: vs, r :: rs => RwG G v r ∧ RwsG G vs rs
  | _, _ => False
theorem RwG.mono {G G' : Says} (h : G.sub G') {v : Value} : ∀ {r : Row}, RwG G v r → RwG G' v r
  | .set _, ⟨a, b, c, x, y⟩ => ⟨a, b, c, x.mono h, y.mono h⟩
  | .dis _, ⟨a, b, x⟩ => ⟨a, b, x.mono h⟩
  | .unl _ _, ⟨a, b, c, x, y⟩ => ⟨a, b, c, x.mono h, y.mono h⟩
  | .jmp _, ⟨a, b, x⟩ => ⟨a, b, x.mono h⟩
  | .tim _ _, ⟨a, b, c, x, y⟩ => ⟨a, b, c, x.mono h, y.mono h⟩
  | .agn _ _, ⟨a, b, c, x⟩ => ⟨a, b, c, x.mono h⟩
  | .ent _ _, ⟨a, b, c, x⟩ => ⟨a, b, c, x.mono h⟩
  | .lea _, ⟨a, b, x⟩ => ⟨a, b, x.mono h⟩
  | .ret, ⟨a, x⟩ => ⟨a, x.mono h⟩
theorem RwsG.mono {G G' : Says} (h : G.sub G') : ∀ {vs : List Value} {rs : List Row}, RwsG G vs rs → RwsG G' vs rs
  | [], [], _ => trivial
  | _ :: _, _ :: _, ⟨x, y⟩ => ⟨x.mono h, y.mono h⟩
theorem RwsG.length {G : Says} : ∀ {vs : List Value} {rs : List Row}, RwsG G vs rs → vs.length = rs.length
  | [], [], _ => rfl
  | _ :: _, _ :: _, ⟨_, y⟩ => by simp [y.length]
theorem RwsG.append {G : Says} : ∀ {vs : List Value} {rs : List Row} {ws : List Value} {ss : List Row}, RwsG G vs rs → RwsG G ws ss → RwsG G (vs ++ ws) (rs ++ ss)
  | [], [], _, _, _, h => h
  | _ :: _, _ :: _, _, _, ⟨x, y⟩, h => ⟨x, y.append h⟩
theorem RwsG.get {G : Says} : ∀ {vs : List Value} {rs : List Row} (_ : RwsG G vs rs) (i : Nat) {r : Row}, rs[i]? = some r → ∃ v, vs[i]? = some v ∧ RwG G v r
  | [], [], _, _, _, e => by cases e
  | v :: _, _ :: _, ⟨x, _⟩, 0, r, e => by cases e; exact ⟨v, rfl, x⟩
  | _ :: _, _ :: _, ⟨_, y⟩, i + 1, r, e => by simpa using y.get i (by simpa using e)
abbrev orG (G : Says) (l : List (Addr × Obj)) : Says := fun a o => G a o ∨ (a, o) ∈ l
theorem orG_mono {G : Says} {l l' : List (Addr × Obj)} (h : ∀ p ∈ l, p ∈ l') : Says.sub (orG G l) (orG G l') := fun _ _ _ x => x.imp id (h _)
theorem orG_left {G : Says} {l : List (Addr × Obj)} : Says.sub G (orG G l) := fun _ _ _ x => .inl x
theorem orG_right {G : Says} {l : List (Addr × Obj)} : Says.sub (lG l) (orG G l) := fun _ _ _ x => .inr x
theorem orG_tups {G : Says} {l l' : List (Addr × Obj)} (h : ∀ p ∈ l, p ∈ l') : Says.sub (orG G l) (orG G (tups l')) := fun _ _ _ x => x.imp id fun y => tups_mem.mpr ⟨h _ y, rfl⟩

structure Mk where
  im : Addr
  dx : Addr
  cl : Addr
  q1 : Int
  q2 : Int
  t1 : Tok
  t2 : Tok
abbrev Mk.dict (M : Mk) (sl : Nat) (t : Tok) : Obj := dictOf [⟨M.q1, .str (nm "slots") M.t1, .int sl t⟩, ⟨M.q2, .str (nm "code") M.t2, .ref M.cl⟩] 2
abbrev Mk.cells (M : Mk) (sl : Nat) (t : Tok) (vs : List Value) (nc : Nat) : List (Addr × Obj) := [(M.im, instObj 185 M.dx), (M.dx, M.dict sl t), (M.cl, lsO vs nc)]
abbrev Mk.adr (M : Mk) : List Addr := [M.im, M.dx, M.cl]
noncomputable def Cells (b0 h : Heap) (l : List (Addr × Obj)) : Prop := ∀ c ∈ l, h.get? c.1 = some c.2 ∧ b0.get? c.1 = none
theorem Mk.ne {b0 h : Heap} {M : Mk} {sl : Nat} {t : Tok} {vs : List Value} {nc : Nat} (C : Cells b0 h (M.cells sl t vs nc)) : M.im ≠ M.dx ∧ M.im ≠ M.cl ∧ M.dx ≠ M.cl := by
  have h1 := (C _ (.head _)).1
  have h2 := (C _ (.tail _ (.head _))).1
  have h3 := (C _ (.tail _ (.tail _ (.head _)))).1
  dsimp only at h1 h2 h3
  refine ⟨fun e => ?_, fun e => ?_, fun e => ?_⟩
  · rw [e, h2] at h1; cases h1
  · rw [e, h3] at h1; cases h1
  · rw [e, h3] at h2
    have e9 : (Value.type "list") = .type "dict" := congrArg Obj.cls (Option.some.inj h2)
    exact absurd e9 (by decide)
theorem Mk.back {h₀ h h' : Heap} {L : Addr} {m : Str → Option Value} {news r1 r2 rest nw : List (Addr × Obj)} {M : Mk} {sl sl' : Nat} {t t' : Tok} {vs vs' : List Value} {nc nc' : Nat}
    (F : Fr h₀ L h m) (N : News h₀ L h news) (U1 : Out M.im (instObj 185 M.dx) news r1) (U2 : Out M.dx (M.dict sl t) r1 r2) (U3 : Out M.cl (lsO vs nc) r2 rest)
    (K : Kept M.adr h h') (C : ∀ c ∈ M.cells sl' t' vs' nc', h'.get? c.1 = some c.2) (W : Fresh h h' nw) : Fr h₀ L h' m ∧ News h₀ L h' (M.cells sl' t' vs' nc' ++ (rest ++ nw)) := by
  have m1 := U1.mem
  have m2 := (U1.rest _ U2.mem).1
  have m3 := (U1.rest _ (U2.rest _ U3.mem).1).1
  have hS : ∀ a ∈ M.adr, ∃ o, (a, o) ∈ news := fun a ha => by
    rcases List.mem_cons.mp ha with rfl | ha
    · exact ⟨_, m1⟩
    rcases List.mem_cons.mp ha with rfl | ha
    · exact ⟨_, m2⟩
    cases List.mem_singleton.mp ha; exact ⟨_, m3⟩
  refine ⟨K.fr F N hS, K.news F N (fun p hp => ?_) fun p hp => ⟨(W p hp).1, (W p hp).2.1⟩⟩
  rcases List.mem_append.mp hp with hp | hp
  · refine .inr (.inl ⟨C p hp, ?_⟩)
    rcases List.mem_cons.mp hp with rfl | hp
    · exact ⟨_, m1⟩
    rcases List.mem_cons.mp hp with rfl | hp
    · exact ⟨_, m2⟩
    cases List.mem_singleton.mp hp; exact ⟨_, m3⟩
  rcases List.mem_append.mp hp with hp | hp
  · have h3 := U3.rest p hp
    have h2 := U2.rest p h3.1
    have h1 := U1.rest p h2.1
    refine .inl ⟨h1.1, fun q => ?_⟩
    rcases List.mem_cons.mp q with e | q
    · exact h1.2 e
    rcases List.mem_cons.mp q with e | q
    · exact h2.2 e
    exact h3.2 (List.mem_singleton.mp q)
  · exact .inr (.inr hp)
theorem Mk.cellsOf {h₀ h : Heap} {L : Addr} {news r1 r2 rest : List (Addr × Obj)} {M : Mk} {sl : Nat} {t : Tok} {vs : List Value} {nc : Nat}
    (N : News h₀ L h news) (U1 : Out M.im (instObj 185 M.dx) news r1) (U2 : Out M.dx (M.dict sl t) r1 r2) (U3 : Out M.cl (lsO vs nc) r2 rest) : Cells h₀ h (M.cells sl t vs nc) := fun c hc => by
  have m1 := N _ U1.mem
  have m2 := N _ (U1.rest _ U2.mem).1
  have m3 := N _ (U1.rest _ (U2.rest _ U3.mem).1).1
  rcases List.mem_cons.mp hc with rfl | hc
  · exact ⟨m1.1, m1.2.2⟩
  rcases List.mem_cons.mp hc with rfl | hc
  · exact ⟨m2.1, m2.2.2⟩
  cases List.mem_singleton.mp hc; exact ⟨m3.1, m3.2.2⟩
end Mine
namespace Mine
theorem orG_new {G : Says} {l l' : List (Addr × Obj)} (h : ∀ p ∈ l, p ∈ l') : Says.sub (lG l) (orG G (tups l')) := fun _ _ _ x => .inr (tups_mem.mpr ⟨h _ x, rfl⟩)
end Mine
namespace Mine
theorem StG.ref {G : Says} {v : Value} : ∀ {d : Sm}, StG G v d → ∃ a, v = .ref a
  | .set _, h => by simp only [StG] at h; obtain ⟨_, _, _, ⟨a, _, e, _⟩, _⟩ := h; exact ⟨a, e⟩
  | .dis _, h => by simp only [StG] at h; obtain ⟨_, _, a, _, e, _⟩ := h; exact ⟨a, e⟩
  | .ite1 _ _, h => by simp only [StG] at h; obtain ⟨_, _, _, ⟨a, _, e, _⟩, _⟩ := h; exact ⟨a, e⟩
  | .ite2 _ _ _, h => by simp only [StG] at h; obtain ⟨_, _, _, _, ⟨a, _, e, _⟩, _⟩ := h; exact ⟨a, e⟩
  | .rep _ _, h => by simp only [StG] at h; obtain ⟨_, _, _, ⟨a, _, e, _⟩, _⟩ := h; exact ⟨a, e⟩
  | .blk _ _, h => by simp only [StG] at h; obtain ⟨_, _, _, _, ⟨a, _, e, _⟩, _⟩ := h; exact ⟨a, e⟩
  | .seq _, h => by simp only [StG] at h; obtain ⟨_, _, _, _, ⟨a, _, e, _⟩, _⟩ := h; exact ⟨a, e⟩
end Mine
namespace Mine
theorem lG_tups {l l' : List (Addr × Obj)} (h : ∀ p ∈ l, p ∈ l') : Says.sub (lG l) (lG (tups l')) := fun _ _ _ x => tups_mem.mpr ⟨h _ x, rfl⟩
end Mine
namespace Mine
theorem SlG.get {G : Says} : ∀ {l : List Sm} {vs : List Value} (_ : SlG G vs l) (i : Nat) {v : Value}, vs[i]? = some v → ∃ d, l[i]? = some d ∧ StG G v d
  | [], [], _, _, _, e => by cases e
  | d :: l, v :: vs, h, 0, _, e => by cases e; simp only [SlG] at h; exact ⟨d, rfl, h.1⟩
  | d :: l, v :: vs, h, i + 1, _, e => by simp only [SlG] at h; simpa using h.2.get i (by simpa using e)
  | [], _ :: _, h, _, _, _ => by simp only [SlG] at h
  | _ :: _, [], h, _, _, _ => by simp only [SlG] at h
theorem take_snoc' {l : List Sm} {i : Nat} {d : Sm} (h : l[i]? = some d) : l.take (i + 1) = l.take i ++ [d] := by
  rw [List.take_add_one, h]; rfl
theorem szL_take' {l : List Sm} {i : Nat} {d : Sm} (h : l[i]? = some d) : szL (l.take i) + sz d ≤ szL l := by
  have hi : i < l.length := (List.getElem?_eq_some_iff.mp h).1
  have e : l[i] = d := (List.getElem?_eq_some_iff.mp h).2
  have := szL_take l i hi
  rw [e] at this; exact this
end Mine
namespace Mine
section tupslice
variable {prog : Program} {w : World} {A : Around} {E : Value → Shared → Prop} {s : Shared}
theorem places_upto (k : Nat) : Builtin.Slice.slicePlaces (0 : Int) (k : Int) 1 = k := by
  unfold Builtin.Slice.slicePlaces
  have h1 : (1 : Int) > 0 := by omega
  simp only [h1, if_true, Int.ediv_one]
  split <;> omega
theorem adjust_upto {y : Int} {k n : Nat} (hy : if y < 0 then (k : Int) = y + n else (k : Int) = y) (hk : k ≤ n) : Builtin.Slice.sliceAdjust none (some y) 1 (n : Int) = ((0 : Int), (k : Int)) := by
  unfold Builtin.Slice.sliceAdjust
  have h1 : ¬ ((1 : Int) < 0) := by omega
  simp only [h1, if_false]
  congr 1
  split at hy
  · rename_i h
    simp only [h, if_true]
    omega
  · rename_i h
    simp only [h, if_false]
    omega
theorem sliceApplied_upto {sl : Addr} {y : Int} {k n : Nat} {u : Tok} {Q : Int × Int × Nat → Shared → Prop} (hs : s.heap.IsSliceOf sl .none (.int y u) .none) (hy : if y < 0 then (k : Int) = y + n else (k : Int) = y) (hk : k ≤ n) (h : Q ((0 : Int), 1, k) s) :
    wpAny (model prog w) A (Builtin.Slice.sliceApplied (.ref sl) (pure (n : Int))) Q E s := by
  obtain ⟨os, hos, hcs, hds⟩ := id hs
  unfold Builtin.Slice.sliceApplied Builtin.Slice.sliceFields
  refine wpAny_bind (wpAny_bind (wpAny_field hos hds (x := .none) rfl (wpAny_bind (wpAny_field hos hds (x := .int y u) rfl (wpAny_bind (wpAny_field hos hds (x := .none) rfl (wpAny_pure ?_)))))))
  refine wpAny_bind (slicePart_none ?_)
  show wpAny _ _ (if ((1 : Int) == 0) = true then _ else _) _ _ s
  rw [if_neg (by decide)]
  refine wpAny_bind (slicePart_none (wpAny_bind (slicePart_int (wpAny_bind (wpAny_pure ?_)))))
  show wpAny _ _ (match Builtin.Slice.sliceAdjust none (some y) 1 (n : Int) with | (lo, hi) => pure (lo, (1 : Int), Builtin.Slice.slicePlaces lo hi 1)) _ _ s
  rw [adjust_upto hy hk]
  show wpAny _ _ (pure ((0 : Int), (1 : Int), Builtin.Slice.slicePlaces (0 : Int) (k : Int) 1)) _ _ s
  rw [places_upto k]
  exact wpAny_pure h
theorem pick_upto (xs : Array Value) (k : Nat) : ((List.range k).filterMap fun (j : Nat) => xs[((0 : Int) + (j : Int) * 1).toNat]?).toArray = (xs.toList.take k).toArray := by
  have e : (fun (j : Nat) => xs[((0 : Int) + (j : Int) * 1).toNat]?) = fun j => xs[0 + j]? := by
    funext j
    have : ((0 : Int) + (j : Int) * 1).toNat = 0 + j := by omega
    rw [this]
  rw [e]
  have := pick_run xs 0 k
  rw [List.filterMap_map] at this
  have e2 : ((fun x => xs[x]?) ∘ fun x => 0 + x) = fun j => xs[0 + j]? := rfl
  rw [e2] at this
  rw [this, List.drop_zero]
theorem getItem_tuple_upto {t sl : Addr} {items : Array Value} {y : Int} {k : Nat} {u : Tok} {Q : Value → Shared → Prop} (ht : IsTup s.heap t items) (hs : s.heap.IsSliceOf sl .none (.int y u) .none)
    (hy : if y < 0 then (k : Int) = y + items.size else (k : Int) = y) (hk : k < items.size)
    (h : Q (.ref s.heap.objs.size) { s with heap := s.heap.push { cls := .type "tuple", data := .seq (items.toList.take k).toArray } })
    (hsz : items.size ≤ sizeLine) : wpAny (model prog w) A (getItem (.ref t) (.ref sl)) Q E s := by
  have htake : sizeOk (.seq (items.toList.take k).toArray) := by
    show (items.toList.take k).toArray.size ≤ sizeLine
    rw [List.size_toArray, List.length_take, Array.length_toList]
    omega
  obtain ⟨os, hos, hcs, hds⟩ := id hs
  have hTs : s.TypeIs (.ref sl) "slice" := ⟨os, hos, hcs⟩
  unfold getItem
  try with_reducible refine wpAny_holding ?_
  first | refine wpAny_bind (wpAny_pure ?_) | skip
  refine wpAny_bind (wpAny_sequenceKey ht.typeIs (by decide) ?_)
  refine wpAny_bind (wpAny_callSpecial?_slot (name := Str.ofString "__getitem__") ht.typeIs slot_tuple_getitem
    (wpAny_call_entry slot_tuple_getitem ht.typeIs entry_tuple_getitem ?_ (args_tuple_getitem _ _)))
  show wpAny _ _ (Builtin.Tuple.tupleItemsOf (.ref t) >>= _) _ _ s
  refine wpAny_bind (tupleItemsOf_ ht ?_)
  refine wpAny_bind (wpAny_typeOf hTs ?_)
  rw [if_pos (by decide)]
  refine wpAny_bind (sliceApplied_upto hs hy (Nat.le_of_lt hk) ?_)
  have hno : ¬ (((0 : Int) == 0 && (1 : Int) == 1 && k == items.size) = true) := by
    have : (k == items.size) = false := by rw [beq_eq_false_iff_ne]; omega
    rw [this]; simp
  show wpAny _ _ (if ((0 : Int) == 0 && (1 : Int) == 1 && k == items.size) = true then _ else _) _ _ s
  rw [if_neg hno, pick_upto items k]
  first
    | exact wpAny_bind (m := Builtin.Tuple.tupleExact _) (wpAny_newObj_type (wpAny_pure ⟨_, rfl, wpAny_pure h⟩) htake)
    | exact wpAny_bind (m := Builtin.Tuple.tupleExact _) (wpAny_newObj_type (wpAny_bind (wpAny_pure (wpAny_pure ⟨_, rfl, wpAny_pure h⟩))) htake)
    | exact wpAny_bind (wpAny_bind (m := Builtin.Tuple.tupleExact _) (wpAny_newObj_type (wpAny_pure (wpAny_pure ⟨_, rfl, wpAny_pure h⟩)) htake))
    | exact wpAny_bind (wpAny_bind (m := Builtin.Tuple.tupleExact _) (wpAny_newObj_type (wpAny_pure ⟨_, rfl, wpAny_pure h⟩) htake))
end tupslice
section tupslice2
variable {prog : Program} {w : World} {A : Around} {E : Value → Shared → Prop} {s : Shared} {h₀ : Heap} {L : Addr} {m : Str → Option Value} {news : List (Addr × Obj)}
theorem slice_upto {value slice : PySem.Expr} {t : Addr} {its : List Value} {y : Int} {k : Nat} {u : Tok} {zs : List Value} {Q : Value → Shared → Prop}
    (F : Fr h₀ L s.heap m) (N : News h₀ L s.heap news) (ht : IsTup s.heap t its.toArray) (hy : if y < 0 then (k : Int) = y + its.length else (k : Int) = y) (hk : k < its.length) (hsz : its.length ≤ 10000) (e : its.take k = zs)
    (h : ∀ D h', Fr h₀ L h' m → News h₀ L h' ((D, tpO zs 0) :: news) → (∀ p ∈ news, p.1 < D) → Q (.ref D) { s with heap := h' })
    (hs : subscripted slice false (.ref t) (.ref s.heap.objs.size) = operate [.ref s.heap.objs.size, .ref t] (getItem (.ref t) (.ref s.heap.objs.size)))
    (hg : ∀ r, letTemporaryGo value (.ref t) r = pure ()) :
    wpAny (model prog w) A (subscriptTail value slice (.ref t) (.ref s.heap.objs.size)) Q E { s with heap := s.heap.push { cls := .type "slice", data := .fields #[.none, .int y u, .none] } } := by
  subst e
  have ht' : IsTup (s.heap.push { cls := .type "slice", data := .fields #[.none, .int y u, .none] }) t its.toArray := ht.keeps fun _ _ e => Heap.get?_push_of_some _ e
  refine subscriptTail_ops (s := { s with heap := s.heap.push { cls := .type "slice", data := .fields #[.none, .int y u, .none] } }) ht'.typeIs slot_tuple_getitem.lookup
    (getItem_tuple_upto (k := k) ht' (Heap.IsSliceOf.new ..) (by simpa using hy) (by simpa using hk) ?_ (by rw [sizeLine_eq, List.size_toArray]; omega)) hs hg
  have N1 := News.push (F.push { cls := .type "slice", data := .fields #[.none, .int y u, .none] }) (N.grown fun _ _ e => Heap.get?_push_of_some _ e) { cls := .type "tuple", data := .seq (its.toArray.toList.take k).toArray }
  rw [Heap.size_push] at N1
  show Q (.ref (s.heap.push _).objs.size) _
  rw [Heap.size_push]
  exact h _ _ ((F.push _).push _) N1 fun p hp => Nat.lt_succ_of_lt (Heap.lt_size (N p hp).1)
end tupslice2
end Mine
namespace Mine
section tupslice3
variable {prog : Program} {w : World} {A : Around} {E : Value → Shared → Prop} {s : Shared} {h₀ : Heap} {L : Addr} {m : Str → Option Value} {news : List (Addr × Obj)}
theorem slice_neg1 {value slice : PySem.Expr} {t : Addr} {its : List Value} {u : Tok} {zs : List Value} {Q : Value → Shared → Prop}
    (F : Fr h₀ L s.heap m) (N : News h₀ L s.heap news) (ht : IsTup s.heap t its.toArray) (hk : 0 < its.length) (hsz : its.length ≤ 10000) (e : its.take (its.length - 1) = zs)
    (h : ∀ D h', Fr h₀ L h' m → News h₀ L h' ((D, tpO zs 0) :: news) → (∀ p ∈ news, p.1 < D) → Q (.ref D) { s with heap := h' })
    (hs : subscripted slice false (.ref t) (.ref s.heap.objs.size) = operate [.ref s.heap.objs.size, .ref t] (getItem (.ref t) (.ref s.heap.objs.size)))
    (hg : ∀ r, letTemporaryGo value (.ref t) r = pure ()) :
    wpAny (model prog w) A (subscriptTail value slice (.ref t) (.ref s.heap.objs.size)) Q E { s with heap := s.heap.push { cls := .type "slice", data := .fields #[.none, .int (-1) u, .none] } } :=
  slice_upto F N ht (y := -1) (k := its.length - 1) (by rw [if_pos (by decide)]; omega) (by omega) hsz e h hs hg
theorem slice_nat {value slice : PySem.Expr} {t : Addr} {its : List Value} {u : Tok} {k : Nat} {zs : List Value} {Q : Value → Shared → Prop}
    (F : Fr h₀ L s.heap m) (N : News h₀ L s.heap news) (ht : IsTup s.heap t its.toArray) (hk : k < its.length) (hsz : its.length ≤ 10000) (e : its.take k = zs)
    (h : ∀ D h', Fr h₀ L h' m → News h₀ L h' ((D, tpO zs 0) :: news) → (∀ p ∈ news, p.1 < D) → Q (.ref D) { s with heap := h' })
    (hs : subscripted slice false (.ref t) (.ref s.heap.objs.size) = operate [.ref s.heap.objs.size, .ref t] (getItem (.ref t) (.ref s.heap.objs.size)))
    (hg : ∀ r, letTemporaryGo value (.ref t) r = pure ()) :
    wpAny (model prog w) A (subscriptTail value slice (.ref t) (.ref s.heap.objs.size)) Q E { s with heap := s.heap.push { cls := .type "slice", data := .fields #[.none, .int (k : Nat) u, .none] } } :=
  slice_upto F N ht (y := (k : Int)) (k := k) (by rw [if_neg (by omega)]) hk hsz e h hs hg
theorem isTup_of {l : List Value} {t : Addr} {n : Nat} (F : Fr h₀ L s.heap m) (h : h₀.get? t = some (tpO l n)) : IsTup s.heap t l.toArray := ⟨_, F.keep _ _ h, rfl, n, rfl⟩
end tupslice3
end Mine
local macro_rules | `(tactic| walk_at "MINE neg1") => `(tactic| (((with_reducible refine' Mine.slice_neg1 _ _ _ _ _ _ _ _ _) <;> walk_at "MINE S"); intro D' h' F' N' l1; (try k_lt l1)))
namespace Mine
section tupitem
variable {prog : Program} {w : World} {A : Around} {E : Value → Shared → Prop} {s : Shared} {h₀ : Heap} {L : Addr} {m : Str → Option Value} {news : List (Addr × Obj)}
theorem item_TB {value slice : PySem.Expr} {t : Addr} {l : List Value} {k : Int} {u : Tok} {x : Value} {Q : Value → Shared → Prop} (F : Fr h₀ L s.heap m) (ht : IsTup h₀ t l.toArray) (h0 : 0 ≤ k) (hhi : k < 2 ^ 63) (hx : l[k.toNat]? = some x) (h : Q x s)
    (hs : subscripted slice false (.ref t) (.int k u) = operate [.ref t, .int k u] (getItem (.ref t) (.int k u))) : wpAny (model prog w) A (subscriptTail value slice (.ref t) (.int k u)) Q E s :=
  item_tupleT (j := k.toNat) (stays_tup F.keep ht) (by omega) hhi (by
    have hlt : k.toNat < l.length := (List.getElem?_eq_some_iff.mp hx).1
    unfold seqIndex?
    simp only [show ¬ k < 0 by omega, if_false]
    have e : (decide (0 ≤ k) && decide (k < (l.length : Int))) = true := by simp; omega
    rw [if_pos e]) hx h hs
theorem is_sub {env : Env} {x y z : Str} {k0 k1 : Nat} {p1 p2 p3 p4 p5 : Pos} {whole : Sem Value} {t : Addr} {tk : Tok} {l : List Value} {Q : Bool → Shared → Prop}
    (hn : ∀ Q' : Value → Shared → Prop, Q' (.ref t) s → wpAny (model prog w) A (eval (.Name x p1) env) Q' E s) (F : Fr h₀ L s.heap m) (ht : IsTup h₀ t (Value.str z tk :: l).toArray) (h : Q (z == y) { s with toks := s.toks + 1 + 1 }) :
    wpAny (model prog w) A (isTrue (.Compare (.Subscript (.Name x p1) (.Constant (.int 0) k0 p2) p3) [.Eq] [.Constant (.str y) k1 p4] p5) env whole) Q E s := by
  refine wpAny_isTrue_Compare1 ?_
  refine Subscript_ (hn _ ?_)
  refine wpAny_Constant_int ?_
  refine item_TB (s := { s with toks := s.toks + 1 }) F ht (by decide) (by decide) rfl ?_ (by with_unfolding_all rfl)
  refine Constant_str ?_
  refine PyProof.Rows.eq_str ?_
  exact wpAny_truthy_bool h
theorem is_name {env : Env} {x y z : Str} {k1 : Nat} {p1 p4 p5 : Pos} {whole : Sem Value} {tk : Tok} {Q : Bool → Shared → Prop}
    (hn : ∀ Q' : Value → Shared → Prop, Q' (.str z tk) s → wpAny (model prog w) A (eval (.Name x p1) env) Q' E s) (h : Q (z == y) { s with toks := s.toks + 1 }) :
    wpAny (model prog w) A (isTrue (.Compare (.Name x p1) [.Eq] [.Constant (.str y) k1 p4] p5) env whole) Q E s := by
  refine wpAny_isTrue_Compare1 ?_
  refine hn _ ?_
  refine Constant_str ?_
  refine PyProof.Rows.eq_str ?_
  exact wpAny_truthy_bool h
theorem ev_item {env : Env} {x : Str} {k : Int} {k0 : Nat} {p1 p2 p3 : Pos} {t : Addr} {l : List Value} {v : Value} {Q : Value → Shared → Prop}
    (hn : ∀ Q' : Value → Shared → Prop, Q' (.ref t) s → wpAny (model prog w) A (eval (.Name x p1) env) Q' E s) (F : Fr h₀ L s.heap m) (ht : IsTup h₀ t l.toArray) (h0 : 0 ≤ k) (hhi : k < 2 ^ 63) (hx : l[k.toNat]? = some v)
    (h : Q v { s with toks := s.toks + 1 }) : wpAny (model prog w) A (eval (.Subscript (.Name x p1) (.Constant (.int k) k0 p2) p3) env) Q E s := by
  refine Subscript_ (hn _ ?_)
  refine wpAny_Constant_int ?_
  exact item_TB (s := { s with toks := s.toks + 1 }) F ht h0 hhi hx h (by with_unfolding_all rfl)
end tupitem
end Mine

local macro_rules | `(tactic| walk_at "MINE item") => `(tactic| ((with_reducible show wpAny _ _ (subscriptTail _ _ (Value.ref _) (Value.int _ _)) _ _ _); ((with_reducible refine' Mine.item_TB _ _ _ _ _ _ _) <;> walk_at "MINE S")))
namespace Mine
section tupmore
variable {prog : Program} {w : World} {A : Around} {E : Value → Shared → Prop} {s : Shared} {h₀ : Heap} {L : Addr} {m : Str → Option Value} {news : List (Addr × Obj)}
theorem len_TB {t : Addr} {l : List Value} {Q : Value → Shared → Prop} (F : Fr h₀ L s.heap m) (ht : IsTup h₀ t l.toArray) (hz : l.length ≤ 10000) (h : Q (.int (l.length : Nat) (s.toks + 1)) { s with toks := s.toks + 1 + 1 }) :
    wpAny (model prog w) A (call (.builtin "len") [.ref t]) Q E s :=
  len_tuple (stays_tup F.keep ht) (by rw [List.size_toArray]; omega) (by rw [List.size_toArray]; exact h)
theorem last_TB {value slice : PySem.Expr} {t : Addr} {l : List Value} {u : Tok} {x : Value} {Q : Value → Shared → Prop} (F : Fr h₀ L s.heap m) (ht : IsTup h₀ t (l ++ [x]).toArray) (h : Q x s)
    (hs : subscripted slice false (.ref t) (.int (-1) u) = operate [.ref t, .int (-1) u] (getItem (.ref t) (.int (-1) u))) : wpAny (model prog w) A (subscriptTail value slice (.ref t) (.int (-1) u)) Q E s :=
  item_tupleT (j := l.length) (stays_tup F.keep ht) (by decide) (by decide) (by
    unfold seqIndex?
    simp only [show (-1 : Int) < 0 by decide, if_true, List.length_append, List.length_cons, List.length_nil]
    have e : (decide ((0 : Int) ≤ -1 + ((l.length + (0 + 1) : Nat) : Int)) && decide (-1 + ((l.length + (0 + 1) : Nat) : Int) < ((l.length + (0 + 1) : Nat) : Int))) = true := by simp; omega
    rw [if_pos e]
    congr 1
    omega) (by simp) h hs
end tupmore
end Mine
namespace Mine
section tupadd
variable {prog : Program} {w : World} {A : Around} {E : Value → Shared → Prop} {s : Shared} {h₀ : Heap} {L : Addr} {m : Str → Option Value} {news : List (Addr × Obj)}
theorem add_TT {t b : Addr} {l1 l2 : List Value} {Q : Value → Shared → Prop} (F : Fr h₀ L s.heap m) (N : News h₀ L s.heap news) (ht : IsTup s.heap t l1.toArray) (hb : IsTup s.heap b l2.toArray) (hv : l1 ≠ []) (hw : l2 ≠ []) (hz : l1.length + l2.length ≤ 10000)
    (h : ∀ D h', Fr h₀ L h' m → News h₀ L h' ((D, tpO (l1 ++ l2) 0) :: news) → (∀ p ∈ news, p.1 < D) → Q (.ref D) { s with heap := h' }) : wpAny (model prog w) A (binaryOp .Add (.ref t) (.ref b)) Q E s :=
  kde_addT F N ht hb hv hw (by show l1.length + l2.length ≤ 16384; omega) rfl h
end tupadd
theorem asI_snoc_inv {its : List Value} {o : List Int} {k : Int} (h : IntsAre its (o ++ [k])) : ∃ i' t, its = i' ++ [.int k t] ∧ IntsAre i' o := by
  induction o generalizing its with
  | nil => cases h with
    | cons n t r => cases r; exact ⟨[], t, rfl, .nil⟩
  | cons a o ih => cases h with
    | cons n t r =>
      obtain ⟨i', t', rfl, h'⟩ := ih r
      exact ⟨_ :: i', t', rfl, .cons _ _ h'⟩
end Mine
local macro_rules | `(tactic| walk_at "MINE name") => `(tactic| (intro _ hq; first | exact nameX_L (by k_asm) rfl hq rfl rfl | exact nameX_C (by k_asm) rfl (by k_mem) (by assumption) hq rfl rfl))
local macro_rules | `(tactic| walk_at "isTrue Compare") => `(tactic| ((with_reducible refine' Mine.is_sub ?n ?F ?t ?_); (k_dflt ((case n => walk_at "MINE name"); (case F => k_asm); (case t => assumption)))))
local macro_rules | `(tactic| walk_at "isTrue Compare") => `(tactic| ((with_reducible refine' Mine.is_name ?n ?_); (k_dflt (case n => walk_at "MINE name"))))
local macro_rules | `(tactic| walk_at "eval Subscript") => `(tactic| ((with_reducible refine' Mine.ev_item ?n ?F ?t ?k ?z ?x ?_); (k_dflt ((case n => walk_at "MINE name"); (case F => k_asm); (case t => assumption); (case k => decide); (case z => decide); (case x => exact rfl)))))
namespace Mine
section loopsL
open PySem.Spec PyProof.V
variable {prog : Program} {w : World} {A : Around} {E : Value → Shared → Prop} {s : Shared} {env : Env} {h₀ : Heap} {x : Str} {body : List PySem.Stmt} {Q : Flow → Shared → Prop}
noncomputable def LlEnd (h₀ : Heap) (L I l : Addr) (io lo : Obj) (J : (Str → Option Value) → List (Addr × Obj) → Prop) (s₁ s₂ : Shared) : Prop :=
  ∃ h' tk m' nx, s₂ = { s₁ with heap := h', toks := tk } ∧ Fr h₀ L h' m' ∧ News h₀ L h' ((I, io) :: (l, lo) :: nx) ∧ (∀ p ∈ nx, p.1 ≠ I) ∧ J m' nx
noncomputable def LlPost (h₀ : Heap) (L I l : Addr) (io lo : Obj) (J : (Str → Option Value) → List (Addr × Obj) → Prop) (s₁ : Shared) (Q : Flow → Shared → Prop) (f : Flow) (s₂ : Shared) : Prop :=
  match f with
  | .ret v => Q (.ret v) s₂
  | .brk => Q .next s₂
  | _ => LlEnd h₀ L I l io lo J s₁ s₂
theorem ll_next {h₀ : Heap} {L I l : Addr} {io lo : Obj} {J : (Str → Option Value) → List (Addr × Obj) → Prop} {s₁ s₂ : Shared} {Q : Flow → Shared → Prop} (h : LlEnd h₀ L I l io lo J s₁ s₂) : LlPost h₀ L I l io lo J s₁ Q .next s₂ := h
theorem ll_ret {h₀ : Heap} {L I l : Addr} {io lo : Obj} {J : (Str → Option Value) → List (Addr × Obj) → Prop} {s₁ s₂ : Shared} {Q : Flow → Shared → Prop} {v : Value} (h : Q (.ret v) s₂) : LlPost h₀ L I l io lo J s₁ Q (.ret v) s₂ := h
theorem LlEnd.intro {h₀ : Heap} {L I l : Addr} {io lo : Obj} {J : (Str → Option Value) → List (Addr × Obj) → Prop} {s₁ : Shared} {h' : Heap} {tk : Nat} {m' : Str → Option Value} {news nx : List (Addr × Obj)}
    (F : Fr h₀ L h' m') (N : News h₀ L h' news) (hs : ∀ p ∈ (I, io) :: (l, lo) :: nx, p ∈ news) (hn : ∀ p ∈ nx, p.1 ≠ I) (hj : J m' nx) : LlEnd h₀ L I l io lo J s₁ { s₁ with heap := h', toks := tk } :=
  ⟨h', tk, m', nx, rfl, F, News.sub N hs, hn, hj⟩
theorem loopL {I l : Addr} {n : Nat} {P : Nat → Value → Prop} {St : Nat → Heap → Prop} {m₀ : Str → Option Value} {news : List (Addr × Obj)} {c c' : String}
    (J : Nat → (Str → Option Value) → List (Addr × Obj) → Prop)
    (W : Walks prog w A I [I, l] [I] n P St) (hc : ∀ i h, St i h → (∃ o, h.get? I = some o ∧ o.cls = .type c) ∧ ∃ o, h.get? l = some o ∧ o.cls = .type c') (hne : l ≠ I) (hI : h₀.get? I = none) (hl0 : h₀.get? l = none)
    (hLf : env.locals ≠ I ∧ env.locals ≠ l) (hnw : ∀ p ∈ news, p.1 ≠ I) (hst : St 0 s.heap) (F : Fr h₀ env.locals s.heap m₀) (N : News h₀ env.locals s.heap news) (hj : J 0 m₀ news)
    (turn : ∀ i v m₁ nx h tk io lo, i < n → P i v → J i m₁ nx → (∀ p ∈ nx, p.1 ≠ I) → io.cls = .type c → lo.cls = .type c' → Fr h₀ env.locals h (fun y => if y = x then some v else m₁ y) → News h₀ env.locals h ((I, io) :: (l, lo) :: nx) →
      wpAny (model prog w) A (execs body env) (LlPost h₀ env.locals I l io lo (J (i + 1)) { s with heap := h, toks := tk } Q) E { s with heap := h, toks := tk })
    (done : ∀ m₁ nx h tk, J n m₁ nx → Fr h₀ env.locals h m₁ → News h₀ env.locals h nx → Q .next { s with heap := h, toks := tk }) :
    LoopAtV prog w A h₀ env x body Q E (.ref I) s := by
  refine ⟨I, [I, l], [I], n, P, St, m₀, news, J, rfl, W, fun hm => ?_, fun b hb => (List.mem_singleton.mp hb) ▸ hI, fun p hp hm => hnw p hp (List.mem_singleton.mp hm), hst, F, N, hj, ?_, ?_⟩
  · rcases List.mem_cons.mp hm with e | hm
    · exact hLf.1 e
    · exact hLf.2 (List.mem_singleton.mp hm)
  · rintro i v m₁ nx s₁ own ⟨h, tk, rfl⟩ hin hP hJ hoff hown _ hmem hst' F₁ N₁
    obtain ⟨⟨io, hio, hcl⟩, lo, hlo, hcl'⟩ := hc _ _ hst'
    have hI' : (I, io) ∈ own := hmem _ (.head _) hI io hio
    have hl' : (l, lo) ∈ own := hmem _ (.tail _ (.head _)) hl0 lo hlo
    have htwo : ∀ p ∈ own, p = (I, io) ∨ p = (l, lo) := fun p hp => by
      have h1 := N₁ p (List.mem_append_left _ hp)
      rcases List.mem_cons.mp (hown p hp) with e | e
      · have h2 := h1.1
        rw [e] at h2
        exact .inl (Prod.ext e (Option.some.inj (h2.symm.trans hio)))
      · have e := List.mem_singleton.mp e
        have h2 := h1.1
        rw [e] at h2
        exact .inr (Prod.ext e (Option.some.inj (h2.symm.trans hlo)))
    have hoff' : ∀ p ∈ nx, p.1 ≠ I := fun p hp e => hoff p hp (List.mem_singleton.mpr e)
    have N₂ : News h₀ env.locals h ((I, io) :: (l, lo) :: nx) := fun p hp => by
      rcases List.mem_cons.mp hp with e | hp
      · exact e ▸ N₁ _ (List.mem_append_left _ hI')
      rcases List.mem_cons.mp hp with e | hp
      · exact e ▸ N₁ _ (List.mem_append_left _ hl')
      · exact N₁ p (List.mem_append_right _ hp)
    refine wpAny_mono (turn i v m₁ nx h tk io lo hin hP hJ hoff' hcl hcl' F₁ N₂) (fun f s₂ p => ?_) fun _ _ e => e
    have fin : LlEnd h₀ env.locals I l io lo (J (i + 1)) { s with heap := h, toks := tk } s₂ → LoopStepU h₀ env.locals [I] own (J (i + 1)) { s with heap := h, toks := tk } .next s₂ := by
      rintro ⟨h', tk', m', nx', e, F', N', hn, hm⟩
      refine ⟨rfl, h', tk', m', nx', e, F', fun p hp => ?_, fun p hp hq => hn p hp (List.mem_singleton.mp hq), hm⟩
      rcases List.mem_append.mp hp with q | q
      · rcases htwo p q with e | e
        · exact e ▸ N' _ (.head _)
        · exact e ▸ N' _ (.tail _ (.head _))
      · exact N' p (.tail _ (.tail _ q))
    cases f with
    | ret v => exact .ret p
    | brk => exact .brk p
    | next => exact .next (fin p)
    | cont => exact .cont (fin p)
  · rintro h' tk m' news' F' N' _ hJ
    exact done m' news' h' tk hJ F' N'
theorem loop_tupleL {l : Addr} {vs : List Value} {k : Nat} {m₀ : Str → Option Value} {news : List (Addr × Obj)} (J : Nat → (Str → Option Value) → List (Addr × Obj) → Prop)
    (hh : A.handled = none) (hl : (l, tpO vs k) ∈ news) (F : Fr h₀ env.locals s.heap m₀) (N : News h₀ env.locals s.heap news) (hj : J 0 m₀ news)
    (turn : ∀ (i : Nat) v m₁ nx h tk I io lo, vs[i]? = some v → J i m₁ nx → (∀ p ∈ nx, p.1 ≠ I) → io.cls = .type "tuple_iterator" → Fr h₀ env.locals h (fun y => if y = x then some v else m₁ y) → News h₀ env.locals h ((I, io) :: (l, lo) :: nx) →
      wpAny (model prog w) A (execs body env) (LlPost h₀ env.locals I l io lo (J (i + 1)) { s with heap := h, toks := tk } Q) E { s with heap := h, toks := tk })
    (done : ∀ m₁ nx h tk, J vs.length m₁ nx → Fr h₀ env.locals h m₁ → News h₀ env.locals h nx → Q .next { s with heap := h, toks := tk }) :
    wpAny (model prog w) A (pyIter (.ref l)) (fun it s₂ => LoopAtV prog w A h₀ env x body Q E it s₂) E s := by
  have z := N _ hl
  have hls : s.heap.IsTuple l vs.toArray := ⟨_, z.1, rfl, k, rfl⟩
  have hlt : l < s.heap.objs.size := Heap.lt_size z.1
  have hne : l ≠ s.heap.objs.size := Nat.ne_of_lt hlt
  refine wpAny_pyIter_tuple hls ?_
  have W := Walks.tuple (prog := prog) (w := w) hh s.heap.objs.size l hne vs.toArray
  rw [List.size_toArray] at W
  have hI := next_is_new F
  refine loopL (c := "tuple_iterator") (c' := "tuple") J W (fun i h q => ⟨let ⟨o, ho, hc, _⟩ := q.1; ⟨o, ho, hc⟩, let ⟨o, ho, hc, _⟩ := q.2; ⟨o, ho, hc⟩⟩) hne hI z.2.2 ⟨fun e => absurd F.ns.lt (e ▸ Nat.lt_irrefl _), fun e => z.2.1 e.symm⟩ (fun p hp hI => absurd (Heap.lt_size (N p hp).1) (hI ▸ Nat.lt_irrefl _))
    ⟨⟨_, Heap.get?_push_size _ rfl, rfl, rfl⟩, hls.push _⟩ (F.push _) (fun p hp => ⟨Heap.get?_push_of_some _ (N p hp).1, (N p hp).2⟩) hj ?_ ?_
  · intro i v m₁ nx h tk io lo hi hP hJ ha hc _ F₁ N₁
    exact turn i v m₁ nx h tk _ io lo (by simpa using hP) hJ ha hc F₁ N₁
  · exact fun m₁ nx h tk hJ F₁ N₁ => done m₁ nx h tk hJ F₁ N₁
theorem loop_listL {l : Addr} {vs : List Value} {k : Nat} {m₀ : Str → Option Value} {news : List (Addr × Obj)} (J : Nat → (Str → Option Value) → List (Addr × Obj) → Prop)
    (hh : A.handled = none) (hl : (l, lsO vs k) ∈ news) (F : Fr h₀ env.locals s.heap m₀) (N : News h₀ env.locals s.heap news) (hj : J 0 m₀ news)
    (turn : ∀ (i : Nat) v m₁ nx h tk I io lo, vs[i]? = some v → J i m₁ nx → (∀ p ∈ nx, p.1 ≠ I) → io.cls = .type "list_iterator" → Fr h₀ env.locals h (fun y => if y = x then some v else m₁ y) → News h₀ env.locals h ((I, io) :: (l, lo) :: nx) →
      wpAny (model prog w) A (execs body env) (LlPost h₀ env.locals I l io lo (J (i + 1)) { s with heap := h, toks := tk } Q) E { s with heap := h, toks := tk })
    (done : ∀ m₁ nx h tk, J vs.length m₁ nx → Fr h₀ env.locals h m₁ → News h₀ env.locals h nx → Q .next { s with heap := h, toks := tk }) :
    wpAny (model prog w) A (pyIter (.ref l)) (fun it s₂ => LoopAtV prog w A h₀ env x body Q E it s₂) E s := by
  have z := N _ hl
  have hls : s.heap.IsList l vs.toArray := ⟨_, z.1, rfl, k, rfl⟩
  have hlt : l < s.heap.objs.size := Heap.lt_size z.1
  have hne : l ≠ s.heap.objs.size := Nat.ne_of_lt hlt
  refine wpAny_pyIter_list hls ?_
  have W := Walks.list (prog := prog) (w := w) hh s.heap.objs.size l hne vs.toArray
  rw [List.size_toArray] at W
  have hI := next_is_new F
  refine loopL (c := "list_iterator") (c' := "list") J W (fun i h q => ⟨let ⟨o, ho, hc, _⟩ := q.1; ⟨o, ho, hc⟩, let ⟨o, ho, hc, _⟩ := q.2; ⟨o, ho, hc⟩⟩) hne hI z.2.2 ⟨fun e => absurd F.ns.lt (e ▸ Nat.lt_irrefl _), fun e => z.2.1 e.symm⟩ (fun p hp hI => absurd (Heap.lt_size (N p hp).1) (hI ▸ Nat.lt_irrefl _))
    ⟨⟨_, Heap.get?_push_size _ rfl, rfl, rfl⟩, hls.at fun o e => Heap.get?_push_of_some _ e⟩ (F.push _) (fun p hp => ⟨Heap.get?_push_of_some _ (N p hp).1, (N p hp).2⟩) hj ?_ ?_
  · intro i v m₁ nx h tk io lo hi hP hJ ha hc _ F₁ N₁
    exact turn i v m₁ nx h tk _ io lo (by simpa using hP) hJ ha hc F₁ N₁
  · exact fun m₁ nx h tk hJ F₁ N₁ => done m₁ nx h tk hJ F₁ N₁

noncomputable def LpS (x : Str) (st : List Str) (m₀ m : Str → Option Value) : Prop := ∀ z, z ≠ x → st.contains z = false → m z = m₀ z
theorem lps_on {x : Str} {st : List Str} {v : Option Value} {m₁ m₀ : Str → Option Value} (h : LpS x st m₀ m₁) : (fun z => if z = x then v else m₁ z) = fun z => if z = x then v else if st.contains z then m₁ z else m₀ z := by
  funext z
  by_cases e : z = x
  · simp [e]
  · simp only [if_neg e]
    cases c : st.contains z with
    | true => simp
    | false => simp only [Bool.false_eq_true, if_false]; exact h z e c
theorem lps_off {x : Str} {st : List Str} {m₁ m₀ : Str → Option Value} (h : LpS x st m₀ m₁) : m₁ = fun z => if z = x then m₁ z else if st.contains z then m₁ z else m₀ z := by
  have := lps_on (v := none) h
  funext z
  by_cases e : z = x
  · simp [e]
  · simp only [if_neg e]
    cases c : st.contains z with
    | true => simp
    | false => simp only [Bool.false_eq_true, if_false]; exact h z e c
end loopsL
end Mine
local macro_rules | `(tactic| k_unfold) => `(tactic| (with_reducible first | refine Mine.ll_next ?_ | refine Mine.ll_ret ?_))
namespace Mine
theorem Kept.back0 {h₀ h h' : Heap} {L : Addr} {m : Str → Option Value} {news nw : List (Addr × Obj)} (K : Kept [] h h') (F : Fr h₀ L h m) (N : News h₀ L h news) (W : ∀ p ∈ nw, h'.get? p.1 = some p.2 ∧ h.get? p.1 = none) : Fr h₀ L h' m ∧ News h₀ L h' (news ++ nw) :=
  ⟨K.fr F N (fun _ h => nomatch h), K.news F N (fun p hp => (List.mem_append.mp hp).elim (fun q => .inl ⟨q, fun h => nomatch h⟩) fun q => .inr (.inr q)) W⟩
end Mine
namespace Mine
section listmore
variable {prog : Program} {w : World} {A : Around} {E : Value → Shared → Prop} {s : Shared} {h₀ : Heap} {L a : Addr} {m : Str → Option Value} {news : List (Addr × Obj)}
theorem last_LB {value slice : PySem.Expr} {l : List Value} {u : Tok} {x : Value} {Q : Value → Shared → Prop} (F : Fr h₀ L s.heap m) (hl : h₀.IsList a (l ++ [x]).toArray) (h : Q x s)
    (hs : subscripted slice false (.ref a) (.int (-1) u) = operate [.ref a, .int (-1) u] (getItem (.ref a) (.int (-1) u))) : wpAny (model prog w) A (subscriptTail value slice (.ref a) (.int (-1) u)) Q E s :=
  have hl : s.heap.IsList a (l ++ [x]).toArray := stays_list F.keep hl
  tail_any hl.typeIs slot_list_getitem.lookup (wpAny_getItem_list_neg hl (by decide) (by rw [List.size_toArray, List.length_append]; simp; omega) (by decide) (by have e : ((-1 : Int) + ((l ++ [x]).toArray.size : Nat)).toNat = l.length := (by rw [List.size_toArray, List.length_append]; simp only [List.length_cons, List.length_nil]; omega); rw [e]; simp) h) hs
end listmore
end Mine
namespace Mine
section loopsS
open PySem.Spec PyProof.V
variable {prog : Program} {w : World} {A : Around} {E : Value → Shared → Prop} {s : Shared} {env : Env} {h₀ : Heap} {x : Str} {body : List PySem.Stmt} {Q : Flow → Shared → Prop}
noncomputable def LpSJ (x : Str) (st : List Str) (m₀ : Str → Option Value) (J : List (Addr × Obj) → Prop) (m : Str → Option Value) (nx : List (Addr × Obj)) : Prop := LpS x st m₀ m ∧ J nx
theorem loop_rangeS (st : List Str) {r : Addr} {a b : Int} {t₀ u₀ v₀ : Tok} {n : Nat} {m₀ : Str → Option Value} {news : List (Addr × Obj)} (J : Nat → List (Addr × Obj) → Prop)
    (hh : A.handled = none) (hr : IsRange s.heap r a b 1 t₀ u₀ v₀) (hab : b = a + n) (hsm : -(2 ^ 62) ≤ a ∧ a < 2 ^ 62 ∧ b < 2 ^ 62) (F : Fr h₀ env.locals s.heap m₀) (N : News h₀ env.locals s.heap news) (hj : J 0 news)
    (turn : ∀ (i : Nat) t (u : Str → Option Value) nx h tk I io, i < n → J i nx → (∀ p ∈ nx, p.1 ≠ I) → io.cls = .type "range_iterator" → Fr h₀ env.locals h (fun z => if z = x then some (.int (a + i) t) else if st.contains z then u z else m₀ z) → News h₀ env.locals h ((I, io) :: nx) →
      wpAny (model prog w) A (execs body env) (LpPost h₀ env.locals I io (LpSJ x st m₀ (J (i + 1))) { s with heap := h, toks := tk } Q) E { s with heap := h, toks := tk })
    (done : ∀ (u : Str → Option Value) nx h tk, J n nx → Fr h₀ env.locals h (fun z => if z = x then u z else if st.contains z then u z else m₀ z) → News h₀ env.locals h nx → Q .next { s with heap := h, toks := tk }) :
    wpAny (model prog w) A (pyIter (.ref r)) (fun it s₂ => LoopAtV prog w A h₀ env x body Q E it s₂) E s := by
  refine loop_range (fun i m nx => LpSJ x st m₀ (J i) m nx) hh hr hab hsm F N ⟨fun _ _ _ => rfl, hj⟩ ?_ ?_
  · rintro i t m₁ nx h tk I io hi ⟨hm, hJ⟩ ha hc F₁ N₁
    rw [lps_on hm] at F₁
    exact turn i t m₁ nx h tk I io hi hJ ha hc F₁ N₁
  · rintro m₁ nx h tk ⟨hm, hJ⟩ F₁ N₁
    rw [lps_off hm] at F₁
    exact done m₁ nx h tk hJ F₁ N₁
theorem loop_tupleLS (st : List Str) {l : Addr} {vs : List Value} {k : Nat} {m₀ : Str → Option Value} {news : List (Addr × Obj)} (J : Nat → List (Addr × Obj) → Prop)
    (hh : A.handled = none) (hl : (l, tpO vs k) ∈ news) (F : Fr h₀ env.locals s.heap m₀) (N : News h₀ env.locals s.heap news) (hj : J 0 news)
    (turn : ∀ (i : Nat) v (u : Str → Option Value) nx h tk I io lo, vs[i]? = some v → J i nx → (∀ p ∈ nx, p.1 ≠ I) → io.cls = .type "tuple_iterator" → Fr h₀ env.locals h (fun z => if z = x then some v else if st.contains z then u z else m₀ z) → News h₀ env.locals h ((I, io) :: (l, lo) :: nx) →
      wpAny (model prog w) A (execs body env) (LlPost h₀ env.locals I l io lo (LpSJ x st m₀ (J (i + 1))) { s with heap := h, toks := tk } Q) E { s with heap := h, toks := tk })
    (done : ∀ (u : Str → Option Value) nx h tk, J vs.length nx → Fr h₀ env.locals h (fun z => if z = x then u z else if st.contains z then u z else m₀ z) → News h₀ env.locals h nx → Q .next { s with heap := h, toks := tk }) :
    wpAny (model prog w) A (pyIter (.ref l)) (fun it s₂ => LoopAtV prog w A h₀ env x body Q E it s₂) E s := by
  refine loop_tupleL (fun i m nx => LpSJ x st m₀ (J i) m nx) hh hl F N ⟨fun _ _ _ => rfl, hj⟩ ?_ ?_
  · rintro i v m₁ nx h tk I io lo hi ⟨hm, hJ⟩ ha hc F₁ N₁
    rw [lps_on hm] at F₁
    exact turn i v m₁ nx h tk I io lo hi hJ ha hc F₁ N₁
  · rintro m₁ nx h tk ⟨hm, hJ⟩ F₁ N₁
    rw [lps_off hm] at F₁
    exact done m₁ nx h tk hJ F₁ N₁
theorem loop_listLS (st : List Str) {l : Addr} {vs : List Value} {k : Nat} {m₀ : Str → Option Value} {news : List (Addr × Obj)} (J : Nat → List (Addr × Obj) → Prop)
    (hh : A.handled = none) (hl : (l, lsO vs k) ∈ news) (F : Fr h₀ env.locals s.heap m₀) (N : News h₀ env.locals s.heap news) (hj : J 0 news)
    (turn : ∀ (i : Nat) v (u : Str → Option Value) nx h tk I io lo, vs[i]? = some v → J i nx → (∀ p ∈ nx, p.1 ≠ I) → io.cls = .type "list_iterator" → Fr h₀ env.locals h (fun z => if z = x then some v else if st.contains z then u z else m₀ z) → News h₀ env.locals h ((I, io) :: (l, lo) :: nx) →
      wpAny (model prog w) A (execs body env) (LlPost h₀ env.locals I l io lo (LpSJ x st m₀ (J (i + 1))) { s with heap := h, toks := tk } Q) E { s with heap := h, toks := tk })
    (done : ∀ (u : Str → Option Value) nx h tk, J vs.length nx → Fr h₀ env.locals h (fun z => if z = x then u z else if st.contains z then u z else m₀ z) → News h₀ env.locals h nx → Q .next { s with heap := h, toks := tk }) :
    wpAny (model prog w) A (pyIter (.ref l)) (fun it s₂ => LoopAtV prog w A h₀ env x body Q E it s₂) E s := by
  refine loop_listL (fun i m nx => LpSJ x st m₀ (J i) m nx) hh hl F N ⟨fun _ _ _ => rfl, hj⟩ ?_ ?_
  · rintro i v m₁ nx h tk I io lo hi ⟨hm, hJ⟩ ha hc F₁ N₁
    rw [lps_on hm] at F₁
    exact turn i v m₁ nx h tk I io lo hi hJ ha hc F₁ N₁
  · rintro m₁ nx h tk ⟨hm, hJ⟩ F₁ N₁
    rw [lps_off hm] at F₁
    exact done m₁ nx h tk hJ F₁ N₁
theorem lps_end {x : Str} {st : List Str} {m₀ m : Str → Option Value} (h : ∀ z, z ≠ x → st.contains z = false → m z = m₀ z) : LpS x st m₀ m := h
theorem lps_refl {x : Str} {st : List Str} {m : Str → Option Value} : LpS x st m m := fun _ _ _ => rfl
theorem lps_x {x : Str} {st : List Str} {m₀ m : Str → Option Value} {v : Option Value} (h : LpS x st m₀ m) : LpS x st m₀ (fun y => if y = x then v else m y) := fun z hz hc => (if_neg hz).trans (h z hz hc)
theorem lps_s {x a : Str} {st : List Str} {m₀ m : Str → Option Value} {v : Option Value} (ha : st.contains a = true) (h : LpS x st m₀ m) : LpS x st m₀ (fun y => if y = a then v else m y) := fun z hz hc =>
  (if_neg fun e => by rw [e, ha] at hc; cases hc).trans (h z hz hc)
end loopsS
end Mine
local macro_rules | `(tactic| walk_at "MINE lps") => `(tactic| (intro z hz hc; have hc2 := hc; simp only [List.contains_cons, List.contains_nil, Bool.or_false, Bool.or_eq_false_iff, beq_eq_false_iff_ne, ne_eq] at hc2; simp only [hz, hc, hc2, if_false, Bool.false_eq_true, List.contains_nil, List.contains_cons, Bool.or_false, beq_iff_eq, Bool.or_eq_true, or_self, not_false_eq_true, beq_eq_false_iff_ne, ne_eq]))
local macro_rules | `(tactic| walk_at "MINE lps") => `(tactic| with_reducible first | exact Mine.lps_refl | (refine Mine.lps_x ?_; walk_at "MINE lps") | (refine Mine.lps_s (by decide) ?_; walk_at "MINE lps"))
namespace Mine
section dictpure
variable {K : Type} [DecidableEq K]
theorem valueAt_cons (a : K) (b : Value) (r : List (K × Value)) (k : K) : valueAt ((a, b) :: r) k = if a = k then some b else valueAt r k := by
  unfold valueAt
  rw [List.find?_cons]
  by_cases h : a = k <;> simp [h]
theorem valueAt_map (k : K) (v : Value) (k' : K) : ∀ kvs : List (K × Value), valueAt (kvs.map fun kv => if kv.1 = k then (kv.1, v) else kv) k' = if k' = k then (valueAt kvs k').map (fun _ => v) else valueAt kvs k'
  | [] => by simp [valueAt]
  | (a, b) :: r => by
    have ih := valueAt_map k v k' r
    rw [List.map_cons]
    by_cases h : a = k
    · subst h
      simp only [if_true]
      rw [valueAt_cons, valueAt_cons, ih]
      by_cases h2 : a = k'
      · subst h2; simp
      · have h3 : ¬ k' = a := fun e => h2 e.symm
        simp [h2, h3]
    · simp only [h, if_false]
      rw [valueAt_cons, valueAt_cons, ih]
      by_cases h2 : a = k'
      · subst h2; simp [h]
      · simp [h2]
theorem valueAt_app (k : K) (v : Value) (k' : K) : ∀ kvs : List (K × Value), valueAt (kvs ++ [(k, v)]) k' = (valueAt kvs k').or (if k' = k then some v else none)
  | [] => by
    rw [List.nil_append, valueAt_cons]
    by_cases h : k = k'
    · subst h; simp [valueAt]
    · have h3 : ¬ k' = k := fun e => h e.symm
      simp [valueAt, h, h3]
  | (a, b) :: r => by
    rw [List.cons_append, valueAt_cons, valueAt_cons, valueAt_app k v k' r]
    by_cases h : a = k' <;> simp [h]
theorem valueAt_any (kvs : List (K × Value)) (k : K) : (kvs.any fun kv => decide (kv.1 = k)) = (valueAt kvs k).isSome := by
  induction kvs with
  | nil => rfl
  | cons p r ih =>
    obtain ⟨a, b⟩ := p
    rw [List.any_cons, valueAt_cons, ih]
    by_cases h : a = k <;> simp [h]
theorem valueAt_stored (kvs : List (K × Value)) (k : K) (v : Value) (k' : K) : valueAt (stored kvs k v) k' = if k' = k then some v else valueAt kvs k' := by
  unfold stored
  rw [valueAt_any]
  by_cases h : (valueAt kvs k).isSome = true
  · rw [if_pos h, valueAt_map]
    by_cases h2 : k' = k
    · subst h2
      obtain ⟨x, hx⟩ := Option.isSome_iff_exists.mp h
      simp [hx]
    · simp [h2]
  · rw [if_neg h, valueAt_app]
    by_cases h2 : k' = k
    · subst h2
      have : valueAt kvs k' = none := by simpa using h
      simp [this]
    · simp [h2]
end dictpure
noncomputable def unk (kvs : List (Int × Value)) : Nat → Nat
  | 0 => 0
  | n + 1 => unk kvs n + if (valueAt kvs (n : Int)).isSome then 0 else 1
theorem unk_nil : ∀ n, unk [] n = n
  | 0 => rfl
  | n + 1 => by simp [unk, unk_nil n, valueAt]
theorem unk_stored {kvs : List (Int × Value)} {a : Nat} {v : Value} (h : valueAt kvs (a : Int) = none) : ∀ n, unk (stored kvs (a : Int) v) n + (if a < n then 1 else 0) = unk kvs n
  | 0 => rfl
  | n + 1 => by
    have ih := unk_stored (v := v) h n
    simp only [unk, valueAt_stored]
    by_cases h2 : n = a
    · subst h2
      simp only [Nat.lt_irrefl, if_false, Nat.lt_succ_self, if_true, h] at ih ⊢
      simp at ih ⊢; omega
    · have h3 : ¬ (n : Int) = a := by omega
      simp only [h3, if_false]
      by_cases h4 : a < n
      · have h5 : a < n + 1 := by omega
        simp only [h4, h5, if_true] at ih ⊢; omega
      · have h5 : ¬ a < n + 1 := by omega
        simp only [h4, h5, if_false] at ih ⊢; omega
section dictL
variable {prog : Program} {w : World} {K : Type} [DecidableEq K] {knd : KeyKind prog w K} {A : Around} {E : Value → Shared → Prop} {s : Shared} {h₀ : Heap} {L d : Addr} {m : Str → Option Value} {news rest : List (Addr × Obj)} {o : Obj} {kvs : List (K × Value)} {k : K} {key v : Value}
theorem dset_L {Q : Unit → Shared → Prop} (F : Fr h₀ L s.heap m) (N : News h₀ L s.heap news) (U : Out d o news rest) (hd : o.IsDictOf knd kvs) (hkey : knd.is k key = true) (hsz : kvs.length ≤ 10000)
    (h : ∀ h' o', Fr h₀ L h' m → News h₀ L h' ((d, o') :: rest) → o'.IsDictOf knd (stored kvs k v) → Q () { s with heap := h', toks := s.toks + 1 }) : wpAny (model prog w) A (setItem (.ref d) key v) Q E s := by
  have hm := N _ U.mem
  refine wpAny_setItem_pairs (hsz := Nat.le_trans hsz (by decide)) hkey (Heap.dictOf_iff.mpr ⟨o, hm.1, hd⟩) fun h' hmm hs => ?_
  obtain ⟨o', ho', hd'⟩ := Heap.dictOf_iff.mp hmm
  have := U.set N F hs ho'
  exact h h' o' this.1 this.2 hd'
end dictL
section more
variable {prog : Program} {w : World} {A : Around} {E : Value → Shared → Prop} {s : Shared} {h₀ : Heap} {L a b : Addr} {m : Str → Option Value} {news rest : List (Addr × Obj)} {vs us : List Value} {n k : Nat}
theorem pop_L {l : List Value} {y : Value} {Q : Value → Shared → Prop} (F : Fr h₀ L s.heap m) (N : News h₀ L s.heap news) (U : Out a (lsO (l ++ [y]) n) news rest) (hz : (l ++ [y]).length ≤ 10000)
    (h : ∀ h', Fr h₀ L h' m → News h₀ L h' ((a, lsO l (n + 1)) :: rest) → Q y { s with heap := h' }) : wpAny (model prog w) A (call (.builtin "list.pop") [.ref a]) Q E s := by
  have z := N _ U.mem
  have hz' : (l ++ [y]).toArray.size ≤ sizeLine := by rw [List.size_toArray]; exact Nat.le_trans hz (by decide)
  have hk : (l ++ [y]).toArray.size - 1 = l.length := by rw [List.size_toArray, List.length_append]; rfl
  have hy : (l ++ [y]).toArray[(l ++ [y]).toArray.size - 1]? = some y := by rw [hk]; simp
  have hset := U.set N F (h' := s.heap.update a (Obj.mapSeq (fun x => x.eraseIdxIfInBounds ((l ++ [y]).toArray.size - 1)))) (o' := lsO l (n + 1)) (Heap.SameBut.update ..) (by
    have q := PySem.IsL.update z.1 (f := fun x => x.eraseIdxIfInBounds ((l ++ [y]).toArray.size - 1))
    have he : (l ++ [y]).toArray.eraseIdxIfInBounds ((l ++ [y]).toArray.size - 1) = l.toArray := by rw [hk, kl_erase, List.append_nil]
    rw [he] at q
    have hn : (if (l.toArray.size == (l ++ [y]).toArray.size) = true then n else n + 1) = n + 1 := by
      rw [List.size_toArray, List.size_toArray, List.length_append]; simp
    rw [hn] at q
    exact q)
  exact call_meets PySem.F.slot_list_pop ⟨_, z.1, rfl⟩ PySem.F.entry_list_pop (PySem.F.args_list_pop_1 _) (PySem.MeetsSeq.list_pop_last a _ n y hy hz') ⟨z.1, h _ hset.1 hset.2⟩
theorem ke_shaped_tints (ns : List Int) : SeqAt.shaped (.tuple (ns.map PyData.int)) = true := by
  simp [SeqAt.shaped, PyData.canLay0, PyData.depth, ke_canLayAll0, ke_depthAll]
theorem ke_tsame (ns ms : List Int) : PySem.Spec.same (.tuple (ns.map PyData.int)) (.tuple (ms.map PyData.int)) = decide (ns = ms) := by
  simp only [PySem.Spec.same]; exact ke_sameAll ns ms
theorem noMix_tints (ns ms : List Int) : SeqAt.noMix (.tuple (ns.map PyData.int)) (.tuple (ms.map PyData.int)) = true := by
  simp only [SeqAt.noMix]; exact noMix_ints ns ms
theorem ne_TT {ns ms : List Int} {Q : Value → Shared → Prop} (ha : s.heap.get? a = some (tpO vs n)) (hb : s.heap.get? b = some (tpO us k)) (hi : IntsAre vs ns) (hj : IntsAre us ms) (hu : A.units + 64 < cLine) (h : Q (.bool (!decide (ns = ms))) s) :
    wpAny (model prog w) A (compareOp .NotEq (.ref a) (.ref b)) Q E s :=
  ne_dataH_same (reads_tuple_at ha rfl rfl (by simpa using readsAll_of_ints hi)) (reads_tuple_at hb rfl rfl (by simpa using readsAll_of_ints hj)) (ke_shaped_tints _) (ke_shaped_tints _) hu (noMix_tints _ _) (by rw [ke_tsame]; exact h)
theorem len_TL {Q : Value → Shared → Prop} (N : News h₀ L s.heap news) (hm : (a, tpO vs n) ∈ news) (hz : vs.length ≤ 10000) (h : Q (.int (vs.length : Nat) (s.toks + 1)) { s with toks := s.toks + 1 + 1 }) :
    wpAny (model prog w) A (call (.builtin "len") [.ref a]) Q E s :=
  len_tuple (News.isTup N hm) (by rw [List.size_toArray]; omega) (by rw [List.size_toArray]; exact h)
theorem tupLS {h : Heap} {nw : List (Addr × Obj)} (hm : (a, tpO vs n) ∈ nw) (N : News h₀ L h news) (hs : ∀ p ∈ nw, p ∈ news) : IsTup h a vs.toArray := News.isTup N (hs _ hm)
theorem len_TLS {nw : List (Addr × Obj)} {Q : Value → Shared → Prop} (hm : (a, tpO vs n) ∈ nw) (N : News h₀ L s.heap news) (hs : ∀ p ∈ nw, p ∈ news) (hz : vs.length ≤ 10000) (h : Q (.int (vs.length : Nat) (s.toks + 1)) { s with toks := s.toks + 1 + 1 }) :
    wpAny (model prog w) A (call (.builtin "len") [.ref a]) Q E s := len_TL N (hs _ hm) hz h
theorem ne_TTS {nw : List (Addr × Obj)} {ns : List Int} {Q : Value → Shared → Prop} (ha : (a, tpO vs n) ∈ nw) (hb : (b, tpO us k) ∈ nw) (N : News h₀ L s.heap news) (hs : ∀ p ∈ nw, p ∈ news) (hi : IntsAre vs ns) (hj : IntsAre us ns) (hu : A.units ≤ 9000) (h : Q (.bool false) s) :
    wpAny (model prog w) A (compareOp .NotEq (.ref a) (.ref b)) Q E s := ne_TT (N _ (hs _ ha)).1 (N _ (hs _ hb)).1 hi hj (Nat.lt_of_le_of_lt (Nat.add_le_add_right hu 64) (by decide)) (by simpa using h)
end more
end Mine
namespace Mine
section tupS
open PySem.Spec PyProof.V
variable {prog : Program} {w : World} {A : Around} {E : Value → Shared → Prop} {s : Shared} {env : Env} {h₀ : Heap} {x : Str} {body : List PySem.Stmt} {Q : Flow → Shared → Prop}
theorem loop_tupleS (st : List Str) {l : Addr} {vs : List Value} {m₀ : Str → Option Value} {news : List (Addr × Obj)} (J : Nat → List (Addr × Obj) → Prop)
    (hh : A.handled = none) (hl : ∃ n, h₀.get? l = some (tpO vs n)) (F : Fr h₀ env.locals s.heap m₀) (N : News h₀ env.locals s.heap news) (hj : J 0 news)
    (turn : ∀ (i : Nat) v (u : Str → Option Value) nx h tk I io, vs[i]? = some v → J i nx → (∀ p ∈ nx, p.1 ≠ I) → io.cls = .type "tuple_iterator" → Fr h₀ env.locals h (fun z => if z = x then some v else if st.contains z then u z else m₀ z) → News h₀ env.locals h ((I, io) :: nx) →
      wpAny (model prog w) A (execs body env) (LpPost h₀ env.locals I io (LpSJ x st m₀ (J (i + 1))) { s with heap := h, toks := tk } Q) E { s with heap := h, toks := tk })
    (done : ∀ (u : Str → Option Value) nx h tk, J vs.length nx → Fr h₀ env.locals h (fun z => if z = x then u z else if st.contains z then u z else m₀ z) → News h₀ env.locals h nx → Q .next { s with heap := h, toks := tk }) :
    wpAny (model prog w) A (pyIter (.ref l)) (fun it s₂ => LoopAtV prog w A h₀ env x body Q E it s₂) E s := by
  refine loop_tuple (fun i m nx => LpSJ x st m₀ (J i) m nx) hh hl F N ⟨fun _ _ _ => rfl, hj⟩ ?_ ?_
  · rintro i v m₁ nx h tk I io hi ⟨hm, hJ⟩ ha hc F₁ N₁
    rw [lps_on hm] at F₁
    exact turn i v m₁ nx h tk I io hi hJ ha hc F₁ N₁
  · rintro m₁ nx h tk ⟨hm, hJ⟩ F₁ N₁
    rw [lps_off hm] at F₁
    exact done m₁ nx h tk hJ F₁ N₁
end tupS
section whiles
open PySem.Spec PyProof.V
variable {prog : Program} {w : World} {A : Around} {E : Value → Shared → Prop} {Q : Flow → Shared → Prop} {s : Shared} {env : Env} {h₀ : Heap} {L : Addr}
theorem whileS (x : Str) (st : List Str) {test : PySem.Expr} {body : List PySem.Stmt} {pos : Pos} {m₀ : Str → Option Value} {news : List (Addr × Obj)} (J : Nat → List (Addr × Obj) → Prop) {n₀ : Nat}
    (F : Fr h₀ L s.heap m₀) (N : News h₀ L s.heap news) (hJ : J n₀ news)
    (turn : ∀ n (u : Str → Option Value) news₁ h₁ tk₁, Fr h₀ L h₁ (fun z => if z = x then u z else if st.contains z then u z else m₀ z) → News h₀ L h₁ news₁ → J n news₁ →
      wpAny (model prog w) A (isTrue test env (eval test env)) (fun b s₂ =>
        if b = true then wpAny (model prog w) A (execs body env) (WhileStep2 h₀ L s (fun k => LpSJ x st m₀ (J k)) Q n) E s₂ else Q .next s₂) E { s with heap := h₁, toks := tk₁ })
    (hE : PassesOwn (model prog w) A env E := by passes_own) :
    wpAny (model prog w) A (exec (.While test body [] pos) env) Q E s :=
  While_inv2 (fun k => LpSJ x st m₀ (J k)) F N ⟨fun _ _ _ => rfl, hJ⟩ (fun n m₁ news₁ h₁ tk₁ F₁ N₁ ⟨hm, hJ⟩ => turn n m₁ news₁ h₁ tk₁ (by rw [← lps_off hm]; exact F₁) N₁ hJ) hE
theorem WhileStep2.intro {J : Nat → List (Addr × Obj) → Prop} {x : Str} {st : List Str} {m₀ m' : Str → Option Value} {news : List (Addr × Obj)} {n n' tk : Nat} {h' : Heap} (F : Fr h₀ L h' m') (N : News h₀ L h' news) (hn : n' < n) (hm : LpS x st m₀ m') (hJ : J n' news) :
    WhileStep2 h₀ L s (fun k => LpSJ x st m₀ (J k)) Q n .next { s with heap := h', toks := tk } := ⟨h', tk, m', news, n', rfl, F, N, hn, hm, hJ⟩
theorem WhileStep2.introC {J : Nat → List (Addr × Obj) → Prop} {x : Str} {st : List Str} {m₀ m' : Str → Option Value} {news : List (Addr × Obj)} {n n' tk : Nat} {h' : Heap} (F : Fr h₀ L h' m') (N : News h₀ L h' news) (hn : n' < n) (hm : LpS x st m₀ m') (hJ : J n' news) :
    WhileStep2 h₀ L s (fun k => LpSJ x st m₀ (J k)) Q n .cont { s with heap := h', toks := tk } := ⟨h', tk, m', news, n', rfl, F, N, hn, hm, hJ⟩
end whiles
end Mine
local macro_rules | `(tactic| walk_at "MINE unpack") => `(tactic| (((with_reducible refine' unpackN_ _ _ (Mine.tupLS _ _ _) _ _ _ _) <;> walk_at "MINE S"); intro h' F' N'))
local macro_rules | `(tactic| walk_at "MINE in") => `(tactic| (((with_reducible refine' kda_in _ _ _ _ (intKind_is _ _ _ _) _ _ _) <;> walk_at "MINE S")))
local macro_rules | `(tactic| walk_at "MINE ditem") => `(tactic| ((with_reducible show wpAny _ _ (subscriptTail _ _ (Value.ref _) (Value.int _ _)) _ _ _); k_dflt ((refine' kda_item _ _ _ (intKind_is _ _ _ _) _ _ _ _) <;> walk_at "MINE S")))
local macro_rules | `(tactic| walk_at "MINE dset") => `(tactic| (((with_reducible refine' Mine.dset_L _ _ _ _ (intKind_is _ _ _ _) _ _) <;> walk_at "MINE S"); intro h' o' F' N' hd'))
namespace Mine
theorem enterHC {prog : Program} {w : World} {A : Around} {s : Shared} {K : Frag} {p : Program} {loose : List Str} {mean : ExcName → Option Value} {mg mb : Str → Option Value} {b0 : Heap}
    {name qual : Str} {params : Arguments} {body : List Stmt} {scope : Scope} {dV kV doc pm cdv ct oc : Value} {an od : Option Addr} {osl : Array (Option Value)} {f : Addr} {args : Args} {binds : List (Str × Value)}
    {R : Result → Shared → Prop}
    (S : List (Addr × Obj)) (X0 : K.In b0) (T0 : Top p loose mean mg mb b0) (hb : b0.StaysIn s.heap) (hS : ∀ c ∈ S, s.heap.get? c.1 = some c.2 ∧ b0.get? c.1 = none)
    (ho : K.lookup f = some ⟨oc, od, .func (fnOf name qual params body scope dV kV doc pm an cdv ct), osl⟩) (hcd : codeIn K cdv qual = true) (hroom : A.depth < recursionLimit)
    (hbind : BindsTo s (fnOf name qual params body scope dV kV doc pm an cdv ct) args binds) (hkind : (binds.all fun y => scope.names.lookup y.1 == some .local || scope.names.lookup y.1 == some .cell) = true)
    (hnd : ((cellsFrom 0 scope.names []).map (·.1)).Nodup)
    (h : ∀ g L' h₁ tk cells, g = hideAll s.heap (S.map (·.1)) → Fr g L' h₁ (bindL (envOfC qual scope L' f cdv).kindOf binds fun _ => none) → News g L' h₁ (cells ++ S) →
      CellsAre (bindC (envOfC qual scope L' f cdv).kindOf binds fun _ => none) (cellsFrom (L' + 1) scope.names []) cells → K.In g → Top p loose mean mg mb g →
      wpAny (model prog w) (A.deeper (envOfC qual scope L' f cdv)) (execs body (envOfC qual scope L' f cdv))
        (fun fl s' => R (.ok (.ret (match fl with | .ret v => v | _ => .none))) s') (fun _ _ => False) { s with heap := h₁, toks := tk })
    (hco : scope.isCoroutine = false) (hgen : scope.isGenerator = false) (hk : scope.kind = .function) : codeAny (model prog w) A (.call (.ref f) args) R s := by
  have X := X0.keeps hb
  have st : b0.StaysIn (hideAll s.heap (S.map (·.1))) := fun b o e => hideAll_get _ (hb b o e) fun q => by
    obtain ⟨c, hc, rfl⟩ := List.mem_map.mp q
    rw [(hS c hc).2] at e; cases e
  refine codeAny_call_function (fd := fnOf name qual params body scope dV kV doc pm an cdv ct) hroom (X _ _ ho) rfl hco hgen rfl (codeRec_of X hcd) (hbind _ _ _ _ ?_)
  refine wpAny_newFunctionEnv_cells hk (kindsX hkind _) fun env' he s' x => ?_
  subst he
  refine ⟨(T0.nolimit.keeps hb).keeps x.toInCall.keep, codeAny_func ?_⟩
  obtain ⟨h₁, tk, rfl, _⟩ := x.done
  have hk₁ := x.toInCall.keep
  obtain ⟨cells, NC, Y⟩ := Cl.news (h₀ := s.heap) (Nat.le_refl _) fun n c hm => ⟨x.cell n c (lookup_of_mem_nodup (cellsFrom_names scope.names 0 (s.heap.objs.size + 1) [] [] rfl ▸ hnd) hm), x.above n c hm⟩
  refine wpAny_mono (h _ s.heap.objs.size h₁ tk cells rfl ⟨x.toInCall.ns, fun b o e => hk₁ b o (of_hideAll _ e), Nat.le_of_eq (hideAll_size _ _)⟩ (fun p hp => ?_) Y (X0.keeps st) (T0.keeps st)) (fun _ _ y => y) fun _ _ y => y.elim
  rcases List.mem_append.mp hp with hp | hp
  · refine ⟨(NC p hp).1, (NC p hp).2.1, ?_⟩
    cases q : (hideAll s.heap (S.map (·.1))).get? p.1 with
    | none => rfl
    | some o => have := of_hideAll _ q; rw [(NC p hp).2.2] at this; cases this
  · exact ⟨hk₁ _ _ (hS p hp).1, Nat.ne_of_lt (Heap.lt_size (hS p hp).1), hideAll_none _ (List.mem_map_of_mem hp)⟩
end Mine
namespace Mine
theorem lps_at {x z0 : Str} {st : List Str} {v w : Option Value} {m₁ m₀ : Str → Option Value} (h : LpS x (z0 :: st) m₀ m₁) (h0 : m₁ z0 = v) : (fun y => if y = x then w else m₁ y) = fun y => if y = x then w else if y = z0 then v else if st.contains y then m₁ y else m₀ y := by
  funext y
  by_cases e : y = x
  · simp [e]
  · simp only [if_neg e]
    by_cases e2 : y = z0
    · subst e2; simp [h0]
    · simp only [if_neg e2]
      cases c : st.contains y with
      | true => simp
      | false =>
        simp only [Bool.false_eq_true, if_false]
        exact h y e (by rw [List.contains_cons, c, Bool.or_false]; simpa using e2)
end Mine
namespace Mine
section loopA
open PySem.Spec PyProof.V
variable {prog : Program} {w : World} {A : Around} {E : Value → Shared → Prop} {s : Shared} {env : Env} {h₀ : Heap} {x : Str} {body : List PySem.Stmt} {Q : Flow → Shared → Prop}
theorem loop_rangeA (z0 : Str) (st : List Str) (hz : z0 ≠ x) {r : Addr} {a b : Int} {t₀ u₀ v₀ : Tok} {n : Nat} {m₀ : Str → Option Value} {news : List (Addr × Obj)} (J : Nat → Option Value → List (Addr × Obj) → Prop)
    (hh : A.handled = none) (hr : IsRange s.heap r a b 1 t₀ u₀ v₀) (hab : b = a + n) (hsm : -(2 ^ 62) ≤ a ∧ a < 2 ^ 62 ∧ b < 2 ^ 62) (F : Fr h₀ env.locals s.heap m₀) (N : News h₀ env.locals s.heap news) (hj : J 0 (m₀ z0) news)
    (turn : ∀ (i : Nat) t (u : Str → Option Value) v nx h tk I io, i < n → J i v nx → (∀ p ∈ nx, p.1 ≠ I) → io.cls = .type "range_iterator" → Fr h₀ env.locals h (fun y => if y = x then some (.int (a + i) t) else if y = z0 then v else if st.contains y then u y else m₀ y) → News h₀ env.locals h ((I, io) :: nx) →
      wpAny (model prog w) A (execs body env) (LpPost h₀ env.locals I io (fun m' nx' => LpS x (z0 :: st) m₀ m' ∧ J (i + 1) (m' z0) nx') { s with heap := h, toks := tk } Q) E { s with heap := h, toks := tk })
    (done : ∀ (m : Str → Option Value) v nx h tk, J n v nx → Fr h₀ env.locals h m → News h₀ env.locals h nx → Q .next { s with heap := h, toks := tk }) :
    wpAny (model prog w) A (pyIter (.ref r)) (fun it s₂ => LoopAtV prog w A h₀ env x body Q E it s₂) E s := by
  refine loop_range (fun i m nx => LpS x (z0 :: st) m₀ m ∧ J i (m z0) nx) hh hr hab hsm F N ⟨fun _ _ _ => rfl, hj⟩ ?_ ?_
  · rintro i t m₁ nx h tk I io hi ⟨hm, hJ⟩ ha hc F₁ N₁
    rw [lps_at hm rfl] at F₁
    exact turn i t m₁ (m₁ z0) nx h tk I io hi hJ ha hc F₁ N₁
  · rintro m₁ nx h tk ⟨hm, hJ⟩ F₁ N₁
    exact done m₁ (m₁ z0) nx h tk hJ F₁ N₁
end loopA
end Mine
namespace Mine
set_option maxHeartbeats 8000000 in
theorem fill1 (P : Params) : PySem.Challenge.rw_on0120_01 = PySem.Challenge.rw_on0120_01 ∧ Mine.hd.heap_1 P = Mine.hd.heap_1 P := by
  w_top off
  k_fill
  exact ⟨rfl, rfl⟩
section take
theorem fdivN (a b : Nat) : Int.fdiv (a : Int) (b : Int) = ((a / b : Nat) : Int) := by
  rw [Int.fdiv_eq_ediv_of_nonneg _ (Int.natCast_nonneg b)]; exact (Int.natCast_ediv a b).symm
theorem fmodN (a b : Nat) : Int.fmod (a : Int) (b : Int) = ((a % b : Nat) : Int) := by
  rw [Int.fmod_eq_emod_of_nonneg _ (Int.natCast_nonneg b)]; exact (Int.natCast_emod a b).symm
theorem absN (x : Int) : (if x < 0 then -x else x) = (x.natAbs : Int) := by split <;> omega
theorem pow7_ne (k : Nat) : ((7 ^ k : Nat) : Int) ≠ 0 := by
  have : 0 < 7 ^ k := Nat.pow_pos (by decide)
  omega
theorem pow7_log {k : Nat} (hk : k ≤ 1000) : ((7 ^ k : Nat) : Int).natAbs.log2 < 9000 := by
  rw [Int.natAbs_natCast]
  refine (Nat.log2_lt (Nat.pos_iff_ne_zero.mp (Nat.pow_pos (by decide)))).mpr ?_
  calc 7 ^ k ≤ 8 ^ k := Nat.pow_le_pow_left (by decide) k
    _ = 2 ^ (3 * k) := by rw [Nat.pow_mul]
    _ < 2 ^ 9000 := Nat.pow_lt_pow_right (by decide) (by omega)
theorem len_ne {row : List Int} (h : decide (row = []) = false) : (row.length : Int) ≠ 0 := by
  cases row with
  | nil => simp at h
  | cons a r => simp only [List.length_cons]; omega
section
variable {prog : Program} {w : World} {A : Around} {E : Value → Shared → Prop} {s : Shared} {Q : Value → Shared → Prop} {t u : Tok}
theorem fd_nat {a b : Nat} (hb : (b : Int) ≠ 0) (ha : a < 2 ^ 60) (h : Q (.int ((a / b : Nat) : Int) s.toks) { s with toks := s.toks + 1 }) (hb2 : b < 1000000) : wpAny (model prog w) A (binaryOp .FloorDiv (.int a t) (.int b u)) Q E s :=
  floordiv_int hb (by rw [fdivN]; exact h) (Or.inl (PyProof.noPylong_small (by omega)))
theorem pow7_nat {k : Nat} (hk : k ≤ 1000000) (h : Q (.int ((7 ^ k : Nat) : Int) s.toks) { s with toks := s.toks + 1 }) : wpAny (model prog w) A (binaryOp .Pow (.int 7 t) (.int k u)) Q E s :=
  pow_int_small (Int.natCast_nonneg _) (by omega) (by decide) (by
    have e : (7 : Int) ^ ((k : Int).toNat) = ((7 ^ k : Nat) : Int) := by rw [Int.toNat_natCast]; push_cast; rfl
    rw [e]; exact h)
theorem fd_pow7 {x : Int} {k : Nat} (hk : k ≤ 1000) (h : Q (.int ((x.natAbs / 7 ^ k : Nat) : Int) s.toks) { s with toks := s.toks + 1 }) :
    wpAny (model prog w) A (binaryOp .FloorDiv (.int (if x < 0 then -x else x) t) (.int ((7 ^ k : Nat) : Int) u)) Q E s := by
  rw [absN]
  exact floordiv_int (pow7_ne _) (by rw [fdivN]; exact h) (Or.inl (PyProof.noPylong_of_log2 (pow7_log hk)))
theorem md_nat {a b : Nat} (hb : (b : Int) ≠ 0) (h : Q (.int ((a % b : Nat) : Int) s.toks) { s with toks := s.toks + 1 }) : wpAny (model prog w) A (binaryOp .Mod (.int a t) (.int b u)) Q E s :=
  mod_int' hb (by rw [fmodN]; exact h)
end
section
variable {prog : Program} {w : World} {A : Around} {E : Value → Shared → Prop} {s : Shared} {Q : Value → Shared → Prop} {t u : Tok}
theorem div_le_of {a b c : Nat} (h : a ≤ c) : a / b ≤ c := Nat.le_trans (Nat.div_le_self _ _) h
theorem item_mod {value slice : Expr} {l : Addr} {vs : List Value} {row : List Int} {i : Nat} (hl : s.heap.IsList l vs.toArray) (hi : IntsAre vs row) (hb : (row.length : Int) ≠ 0) (hlen : row.length < 1000)
    (h : ∀ t, Q (.int (row.getD (i % row.length) 0) t) s)
    (hs : subscripted slice false (.ref l) (.int ((i % row.length : Nat) : Int) u) = operate [.ref l, .int ((i % row.length : Nat) : Int) u] (getItem (.ref l) (.int ((i % row.length : Nat) : Int) u)))
    (hg : ∀ r, letTemporaryGo value (.ref l) r = pure ()) :
    wpAny (model prog w) A (subscriptTail value slice (.ref l) (.int ((i % row.length : Nat) : Int) u)) Q E s := by
  have hlt : i % row.length < row.length := Nat.mod_lt _ (by omega)
  exact item_list_ints (prog := prog) (w := w) (A := A) (E := E) (Q := Q) (value := value) (slice := slice) (u := u) (k := ((i % row.length : Nat) : Int)) hl hi (by omega) (by omega) (by omega) (fun t' => by rw [Int.toNat_natCast]; exact h t') hs hg
end
local macro_rules | `(tactic| walk_at "subscriptTail Name BinOp ref int") => `(tactic| ((with_reducible refine' item_mod ?k1 ?k2 ?k3 ?k4 ?_ ?k5 ?k6); (case k1 => is_list); (case k2 => l_ints); (case k3 => exact len_ne (by assumption)); (case k4 => k_dflt omega); (case k5 => with_unfolding_all rfl); (case k6 => intro _; with_unfolding_all rfl); intro _))
local macro_rules | `(tactic| walk_at "binaryOp Pow int int") => `(tactic| ((with_reducible refine' pow7_nat ?k1 ?_); (case k1 => k_dflt (refine div_le_of ?_; omega))))
local macro_rules | `(tactic| walk_at "binaryOp Mod int int") => `(tactic| ((with_reducible refine' md_nat ?k1 ?_); (case k1 => first | assumption | exact len_ne (by assumption))))
local macro_rules | `(tactic| walk_at "binaryOp FloorDiv int int") => `(tactic| ((with_reducible refine' fd_nat ?k1 ?k2 ?_ ?k3); (case k1 => first | assumption | exact len_ne (by assumption)); (case k2 => k_dflt omega); (case k3 => k_dflt omega)))
local macro_rules | `(tactic| walk_at "binaryOp FloorDiv int int") => `(tactic| ((with_reducible show wpAny _ _ (binaryOp _ (Value.int (ite _ _ _) _) _) _ _ _); (with_reducible refine' fd_pow7 ?k1 ?_); (case k1 => k_dflt (refine div_le_of ?_; omega))))

set_option maxHeartbeats 1600000 in
theorem take_spec {prog : Program} {w : World} {p : Program} {loose : List Str} {mean : ExcName → Option Value} {mg mb : Str → Option Value} {b0 : Heap}
    {A : Around} {s : Shared} {st rw : Addr} {i n : Nat} {km : Int} {ti tm : Tok} {vs : List Value} {row : List Int} {Q : Value → Shared → Prop} {E : Value → Shared → Prop}
    (X0 : (Mine.hd.heap_1 w.params).In b0) (T0 : Top p loose mean mg mb b0) (hb : b0.StaysIn s.heap)
    (hst : s.heap.get? st = some (lsO [.ref rw, .int i ti] n)) (hst0 : b0.get? st = none) (hrw : s.heap.IsList rw vs.toArray) (hne : rw ≠ st) (hvs : IntsAre vs row)
    (hh : A.handled = none) (hdp : A.depth ≤ 800) (hun : A.units ≤ 5000) (h40 : row.length ≤ 40) (hi : i < 300) (hm0 : 0 < km) (hm1 : km < 1000)
    (hQ : ∀ h' t' t'' tks r, r = tak row i km.toNat → Kept [st] s.heap h' → h'.get? st = some (lsO [.ref rw, .int (i + 1 : Nat) t'] n) → Q (.int (r : Nat) t'') { s with heap := h', toks := tks }) :
    wpAny (model prog w) A (call (.ref 274) [.ref st, .int km tm]) Q E s := by
  obtain ⟨hA, dp, fr, gd, un⟩ := A
  cases hh
  dsimp only at hdp hun
  first | have hd1 : dp + 1 ≤ _ := Nat.add_le_add_right hdp 1 | have hd1 : dp + 1 ≤ 850 := by omega | skip
  first | have hu3 : un + 3 ≤ _ := Nat.add_le_add_right hun 3 | have hu3 : un + 3 ≤ 7990 := by omega | skip
  obtain ⟨most, rfl⟩ : ∃ most : Nat, km = (most : Int) := ⟨km.toNat, by omega⟩
  have hm0' : (most : Int) ≠ 0 := by omega
  clear hm0 hm1
  refine wpAny_call ?_
  refine' enterH (binds := [(nm "state", Value.ref st), (nm "most", Value.int most tm)]) [(st, lsO [.ref rw, .int i ti] n)] X0 T0 hb ?k0 ?k6 ?k7 ?k8 ?k9 ?kB ?_ ?c2 ?c3 ?c4 ?c5
  case k6 => k_is
  case k7 => k_is
  case k8 => show dp < 1000; omega
  case k9 => exact BindsTo.of_eq rfl
  case c5 => decide
  case kB => exact locs rfl
  case c2 => exact rfl
  case c3 => exact rfl
  case c4 => exact rfl
  case k0 => intro c hc; cases List.mem_singleton.mp hc; exact ⟨hst, hst0⟩
  intro g' L' h' eg FG' N' X' T'
  have hl : g'.IsList rw vs.toArray := by rw [eg]; obtain ⟨o, ho, r⟩ := hrw; exact ⟨o, hideAll_get _ ho (by simpa using hne), r⟩
  have hvl := hvs.length
  (try dsimp only)
  (try k_fold)
  k_steps
  · rename Fr _ _ _ _ => F9; rename News _ _ _ _ => N9; rename decide _ = _ => ha
    have hr : row = [] := of_decide_eq_true ha
    show Q _ _
    have e : 0 = Mine.tak row i ((most : Int).toNat) := by simp [Mine.tak, hr]
    exact hQ _ _ _ _ 0 e (kept_of eg F9) (N9.get (.tail _ (.head _)))
  · rename Fr _ _ _ _ => F9; rename News _ _ _ _ => N9; rename decide _ = _ => ha
    have hr : row ≠ [] := of_decide_eq_false ha
    have e : (row.getD (i % row.length) 0).natAbs / 7 ^ (i / row.length) % most = Mine.tak row i ((most : Int).toNat) := by simp [Mine.tak, hr]
    exact hQ _ _ _ _ _ e (kept_of eg F9) (N9.get (.tail _ (.head _)))
theorem take_call {prog : Program} {w : World} {p : Program} {loose : List Str} {mean : ExcName → Option Value} {mg mb : Str → Option Value} {h₀ : Heap} {L : Addr} {m : Str → Option Value} {news rest : List (Addr × Obj)}
    {A : Around} {s : Shared} {st rw : Addr} {i n : Nat} {km : Int} {ti tm : Tok} {vs : List Value} {row : List Int} {Q : Value → Shared → Prop} {E : Value → Shared → Prop}
    (F : Fr h₀ L s.heap m) (N : News h₀ L s.heap news) (X0 : (Mine.hd.heap_1 w.params).In h₀) (T0 : Top p loose mean mg mb h₀) (U : Out st (lsO [.ref rw, .int i ti] n) news rest)
    (hrw : h₀.IsList rw vs.toArray) (hvs : IntsAre vs row) (h40 : row.length ≤ 40)
    (hh : A.handled = none) (hdp : A.depth ≤ 800) (hun : A.units ≤ 5000) (hi : i < 300) (hm0 : 0 < km) (hm1 : km < 1000)
    (hQ : ∀ h' t' t'' tks r, r = tak row i km.toNat → (r : Int) < km → Fr h₀ L h' m → News h₀ L h' ((st, lsO [.ref rw, .int (i + 1 : Nat) t'] n) :: rest) → Q (.int (r : Nat) t'') { s with heap := h', toks := tks }) :
    wpAny (model prog w) A (call (.ref 274) [.ref st, .int km tm]) Q E s := by
  have hmem := U.mem
  have hn := (N _ hmem).2.2
  refine take_spec X0 T0 F.keep (N _ hmem).1 hn ?_ (fun e => ?_) hvs hh hdp hun h40 hi hm0 hm1 fun h' t' t'' tks r hr K hc => ?_
  · obtain ⟨o, ho, r⟩ := hrw; exact ⟨o, F.keep _ _ ho, r⟩
  · obtain ⟨o, ho, r⟩ := hrw; rw [e, hn] at ho; cases ho
  · have hS : ∀ a ∈ [st], ∃ o, (a, o) ∈ news := fun a ha => by cases List.mem_singleton.mp ha; exact ⟨_, hmem⟩
    refine hQ h' t' t'' tks r hr (by have := tak_lt row i (m := km.toNat) (by omega); omega) (K.fr F N hS) (K.news (nw := []) F N (fun p hp => ?_) fun _ h => nomatch h)
    rcases List.mem_cons.mp hp with rfl | q
    · exact .inr (.inl ⟨hc, _, hmem⟩)
    · exact .inl ⟨(U.rest p q).1, by simpa using (U.rest p q).2⟩
end take
end Mine
namespace Mine
set_option maxHeartbeats 8000000 in
theorem fill2 (P : Params) : PySem.Challenge.rw_on0120_01 = PySem.Challenge.rw_on0120_01 ∧ Mine.hd.heap_1 P = Mine.hd.heap_1 P := by
  w_top off
  k_fill
  exact ⟨rfl, rfl⟩
section stmt
theorem cells2 {a b : Addr} {p1 p2 o1 o2 : Obj} {news : List (Addr × Obj)} (h1 : (a, o1) ∈ news) (h2 : (b, o2) ∈ news) (c1 : o1.cls ≠ .type "tuple") (c2 : o2.cls ≠ .type "tuple") :
    ∀ x ∈ [(a, p1), (b, p2)].map (·.1), ∃ o, (x, o) ∈ news ∧ o.cls ≠ .type "tuple" := fun x hx => by
  rcases List.mem_cons.mp hx with rfl | hx
  · exact ⟨_, h1, c1⟩
  · cases List.mem_singleton.mp hx; exact ⟨_, h2, c2⟩
theorem ls_ne : (Value.type "list") ≠ .type "tuple" := by decide
inductive StJ2 (f : GS → Sm × GS) (g0 : GS) (rw rA st md : Addr) (n n' : Nat) (i : Nat) (nx : List (Addr × Obj)) : Prop where
  | mk (vsl : List Value) (nl : Nat) (fz : List (Addr × Obj)) (u0 u1 u2 : Tok) (e : nx = (rA, lsO vsl nl) :: (st, lsO [.ref rw, .int (genL f i g0).2.i u0] n) :: (md, lsO [.int (genL f i g0).2.m0 u1, .int (genL f i g0).2.m1 u2] n') :: fz)
    (h1 : SlG (lG fz) vsl (genL f i g0).1) (h2 : ∀ p ∈ fz, p.2.cls = .type "tuple") (h3 : Ap fz [(rA, lsO [] 0), (st, lsO [] 0), (md, lsO [] 0)]) : StJ2 f g0 rw rA st md n n' i nx
theorem tk_ne {r t k : Nat} {c : Int} (h : r = t) (hn : (r : Int) ≠ c) (hc : c = (k : Nat)) : t ≠ k := fun e => hn (by rw [h, e, hc])
theorem tk_eq {r t k : Nat} {c : Int} (h : r = t) (hn : (r : Int) = c) (hc : c = (k : Nat)) : t = k := by rw [← h]; exact Int.ofNat.inj (hn.trans hc)
theorem tk_lt {r t k : Nat} {c : Int} (h : r = t) (hn : (r : Int) < c) (hc : c = (k : Nat)) : t < k := by rw [← h]; exact Int.ofNat_lt.mp (hc ▸ hn)
theorem tk_nl {r t k : Nat} {c : Int} (h : r = t) (hn : ¬ (r : Int) < c) (hc : c = (k : Nat)) : ¬ t < k := by rw [← h]; exact fun e => hn (hc ▸ Int.ofNat_lt.mpr e)
theorem lt_ne {t k : Nat} (h : t < k) : t ≠ k := Nat.ne_of_lt h
theorem gen_5 {row : List Int} {d : Nat} {oo : List Nat} {g : GS} (h : tak row g.i 6 = 5) : gen row (d + 1) oo g = (.dis (oo.getD (tak row (g.i + 1) oo.length) 0), g.tick.tick) := by rw [gen, if_pos h]
theorem gen_s {row : List Int} {d : Nat} {oo : List Nat} {g : GS} (h : tak row g.i 6 ≠ 5) (h6 : tak row g.i 6 < 2) : gen row (d + 1) oo g = (.set (g.m0 + 1), { g.tick with m0 := g.m0 + 1 }) := by rw [gen, if_neg h, if_pos h6]
theorem gen_2 {row : List Int} {d : Nat} {oo : List Nat} {g : GS} (h : tak row g.i 6 = 2) : gen row (d + 1) oo g = genIf row (gen row d) oo g.tick := by rw [gen, h]; rfl
theorem gen_3 {row : List Int} {d : Nat} {oo : List Nat} {g : GS} (h : tak row g.i 6 = 3) : gen row (d + 1) oo g = genRep row (gen row d) oo g.tick := by rw [gen, h]; rfl
theorem gen_b {row : List Int} {d : Nat} {oo : List Nat} {g : GS} (h5 : tak row g.i 6 ≠ 5) (h6 : ¬ tak row g.i 6 < 2) (h7 : tak row g.i 6 ≠ 2) (h9 : tak row g.i 6 ≠ 3) : gen row (d + 1) oo g = genBlk row (gen row d) oo g.tick := by rw [gen, if_neg h5, if_neg h6, if_neg h7, if_neg h9]
theorem map_getD (l : List Nat) (i : Nat) : (l.map fun k : Nat => (k : Int)).getD i 0 = ((l.getD i 0 : Nat) : Int) := by
  simp only [List.getD_eq_getElem?_getD, List.getElem?_map]
  cases l[i]? <;> rfl
local macro_rules | `(tactic| walk_at "call ref") => `(tactic| (((k_dflt refine' take_call _ _ _ _ _ _ _ _ _ _ _ _ _ _ _) <;> walk_at "MINE S"); intro h' t' t'' tk' r' hr' hl' F' N'; (try simp only [List.length_map] at hl')))
local macro_rules | `(tactic| walk_at "call ref") => `(tactic| with_reducible refine stop_ref 281 ?_)
local macro_rules | `(tactic| walk_at "call type:range") => `(tactic| (((with_reducible refine' range_N _ _ _) <;> walk_at "MINE S"); intro h' r' a' b' c' tk' hr' F' N'))
local macro_rules | `(tactic| walk_at "call builtin:list.append") => `(tactic| walk_at "MINE append")
local macro_rules | `(tactic| walk_at "call type:tuple") => `(tactic| (((k_dflt refine' tuple_L _ _ _ _ _) <;> walk_at "MINE S"); intro D' h' F' N' l1; (try k_lt l1)))
local macro_rules | `(tactic| walk_at "pyIter ref") => `(tactic| (with_reducible refine stop_here ?_))
local macro_rules | `(tactic| walk_at "exec For Name Call cons nil") => `(tactic| (with_reducible refine stop_here ?_))

noncomputable def StSpec (d : Nat) : Prop := ∀ {prog : Program} {w : World} {p : Program} {loose : List Str} {mean : ExcName → Option Value} {mg mb : Str → Option Value} {b0 : Heap} {A : Around} {s : Shared} {st rw md ol : Addr} {n n' : Nat} {kd : Int} {g : GS} {t0 t1 t2 td : Tok} {vs ovs : List Value} {row : List Int} {oo : List Nat} {Q : Value → Shared → Prop} {E : Value → Shared → Prop}
    (_ : (Mine.hd.heap_1 w.params).In b0) (_ : Top p loose mean mg mb b0) (_ : b0.StaysIn s.heap)
    (_ : s.heap.get? st = some (lsO [.ref rw, .int g.i t0] n)) (_ : b0.get? st = none) (_ : s.heap.get? md = some (lsO [.int g.m0 t1, .int g.m1 t2] n')) (_ : b0.get? md = none) (_ : st ≠ md)
    (_ : s.heap.IsList rw vs.toArray) (_ : rw ≠ st) (_ : rw ≠ md) (_ : IntsAre vs row) (_ : row.length ≤ 40)
    (_ : s.heap.IsList ol ovs.toArray) (_ : ol ≠ st) (_ : ol ≠ md) (_ : IntsAre ovs (oo.map fun k : Nat => (k : Int))) (_ : 0 < oo.length) (_ : oo.length + d ≤ 10)
    (_ : A.handled = none) (_ : A.depth + 10 * d ≤ 700) (_ : A.units + 20 * d ≤ 4000) (_ : kd = d) (_ : g.i + bnd d < 250) (_ : g.ok)
    (_ : ∀ h' v nw tks t0 t1 t2, Kept [st, md] s.heap h' → h'.get? st = some (lsO [.ref rw, .int (gen row d oo g).2.i t0] n) → h'.get? md = some (lsO [.int (gen row d oo g).2.m0 t1, .int (gen row d oo g).2.m1 t2] n') → Fresh s.heap h' nw → StG (lG nw) v (gen row d oo g).1 → Q v { s with heap := h', toks := tks }),
    wpAny (model prog w) A (call (.ref 281) [.ref st, .int kd td, .ref ol, .ref md]) Q E s

set_option maxHeartbeats 1600000 in
theorem stmt_zero : StSpec 0 := by
  intro prog w p loose mean mg mb b0 A s st rw md ol n n' kd g t0 t1 t2 td vs ovs row oo Q E X0 T0 hb hst hst0 hmd hmd0 hsm hrw hrs hrm hvs h40 hol hos hom hovs hoo0 hoo hh hdp hun hkd hgi hok hQ
  obtain ⟨hA, dp, fr, gd, un⟩ := A
  cases hh
  dsimp only at hdp hun
  first | have hd1 : dp + 1 ≤ _ := Nat.add_le_add_right hdp 1 | have hd1 : dp + 1 ≤ 700 := u_one hdp (by omega) | have hd1 : dp + 1 ≤ 850 := by omega | skip
  first | have hu3 : un + 3 ≤ _ := Nat.add_le_add_right hun 3 | have hu3 : un + 3 ≤ 4000 := u_one hun (by omega) | have hu3 : un + 3 ≤ 7990 := by omega | skip
  subst hkd
  obtain ⟨gi, m0, m1⟩ := g
  dsimp only at hst hmd hgi hok
  simp only [bnd] at hgi
  obtain ⟨hok0, hok1⟩ := hok
  dsimp only at hok0 hok1
  refine wpAny_call ?_
  refine' enterH (binds := [(nm "state", Value.ref st), (nm "deep", Value.int ((0 : Nat) : Int) td), (nm "open_ones", Value.ref ol), (nm "made", Value.ref md)]) [(st, lsO [.ref rw, .int gi t0] n), (md, lsO [.int m0 t1, .int m1 t2] n')] X0 T0 hb ?k0 ?k6 ?k7 ?k8 ?k9 ?kB ?_ ?c2 ?c3 ?c4 ?c5
  case k6 => k_is
  case k7 => k_is
  case k8 => show dp < 1000; omega
  case k9 => exact BindsTo.of_eq rfl
  case c5 => decide
  case kB => exact locs rfl
  case c2 => exact rfl
  case c3 => exact rfl
  case c4 => exact rfl
  case k0 => intro c hc; rcases List.mem_cons.mp hc with rfl | hc; exact ⟨hst, hst0⟩; cases List.mem_singleton.mp hc; exact ⟨hmd, hmd0⟩
  intro g' L' h' eg FG' N' X' T'
  have hl : g'.IsList rw vs.toArray := by rw [eg]; obtain ⟨o, ho, r⟩ := hrw; exact ⟨o, hideAll_get _ ho (by simp [hrs, hrm]), r⟩
  have hl2 : g'.IsList ol ovs.toArray := by rw [eg]; obtain ⟨o, ho, r⟩ := hol; exact ⟨o, hideAll_get _ ho (by simp [hos, hom]), r⟩
  replace hsm := neN hsm
  (try dsimp only)
  (try k_fold)
  k_steps
  · rename Fr _ _ _ _ => F9; rename News _ _ _ _ => N9; rename (_ : Int) < (oo.length : Int) => h6; rename _ = Mine.tak _ (gi + 1) _ => h7
    rename _ = Mine.tak _ gi _ => h8
    rw [Int.toNat_natCast, List.length_map] at h7
    rw [Int.toNat_natCast, map_getD] at N9
    have e : gen row 0 oo ⟨gi, m0, m1⟩ = (.dis (oo.getD (tak row (gi + 1) oo.length) 0), ⟨gi + 1 + 1, m0, m1⟩) := by
      have h5 : tak row gi 6 = 5 := by simp only [Int.reduceToNat] at h8; first | exact tk_eq h8 (by assumption) rfl | omega
      simp [gen, h5, GS.tick]
    rw [e, ← h7] at hQ
    refine hQ _ _ (tups _) _ _ _ _ (kept_of eg F9) (N9.get (by k_mem)) (N9.get (by k_mem)) (fresh_tups eg N9 (cells2 (by k_mem) (by k_mem) ls_ne ls_ne)) (StG.mono tups_sub _ _ ?_)
    simp only [StG]
    exact ⟨_, _, _, _, rfl, by k_mem⟩
  all_goals (
    rename Fr _ _ _ _ => F9; rename News _ _ _ _ => N9; rename _ = Mine.tak _ gi _ => h8
    have e : gen row 0 oo ⟨gi, m0, m1⟩ = (.set (m0 + 1), ⟨gi + 1, m0 + 1, m1⟩) := by
      have h5 : tak row gi 6 ≠ 5 := by simp only [Int.reduceToNat] at h8; first | exact tk_ne h8 (by assumption) rfl | omega
      simp [gen, h5, GS.tick]
    rw [e] at hQ
    refine hQ _ _ (tups _) _ _ _ _ (kept_of eg F9) (N9.get (by k_mem)) (N9.get (by k_mem)) (fresh_tups eg N9 (cells2 (by k_mem) (by k_mem) ls_ne ls_ne)) (StG.mono tups_sub _ _ ?_)
    simp only [StG]
    exact ⟨_, _, _, ⟨_, _, rfl, by k_mem⟩, _, _, _, _, _, _, rfl, by k_mem⟩)

theorem stmt_call {d : Nat} (H : StSpec d) {prog : Program} {w : World} {p : Program} {loose : List Str} {mean : ExcName → Option Value} {mg mb : Str → Option Value} {h₀ : Heap} {L : Addr} {m : Str → Option Value} {news r1 r2 : List (Addr × Obj)}
    {A : Around} {s : Shared} {st rw md ol : Addr} {n n' : Nat} {kd : Int} {gi m0 m1 : Nat} {t0 t1 t2 td : Tok} {vs ovs : List Value} {row : List Int} {oo : List Nat} {Q : Value → Shared → Prop} {E : Value → Shared → Prop}
    (F : Fr h₀ L s.heap m) (N : News h₀ L s.heap news) (X0 : (Mine.hd.heap_1 w.params).In h₀) (T0 : Top p loose mean mg mb h₀)
    (U1 : Out st (lsO [.ref rw, .int gi t0] n) news r1) (U2 : Out md (lsO [.int m0 t1, .int m1 t2] n') r1 r2)
    (hrw : h₀.IsList rw vs.toArray) (hvs : IntsAre vs row) (h40 : row.length ≤ 40)
    (hol : s.heap.IsList ol ovs.toArray) (hos : ol ≠ st) (hom : ol ≠ md) (hovs : IntsAre ovs (oo.map fun k : Nat => (k : Int))) (hoo0 : 0 < oo.length) (hoo : oo.length + d ≤ 10)
    (hh : A.handled = none) (hdp : A.depth + 10 * d ≤ 700) (hun : A.units + 20 * d ≤ 4000) (hkd : kd = d) (hgi : gi + bnd d < 250) (hok : m0 ≤ gi ∧ m1 ≤ gi + 5)
    (hQ : ∀ h' v nw tks t0 t1 t2, Fr h₀ L h' m → News h₀ L h' ((st, lsO [.ref rw, .int (gen row d oo ⟨gi, m0, m1⟩).2.i t0] n) :: (md, lsO [.int (gen row d oo ⟨gi, m0, m1⟩).2.m0 t1, .int (gen row d oo ⟨gi, m0, m1⟩).2.m1 t2] n') :: (r2 ++ nw)) →
      Ap nw news → (∀ p ∈ nw, p.2.cls = .type "tuple") → StG (lG nw) v (gen row d oo ⟨gi, m0, m1⟩).1 → Q v { s with heap := h', toks := tks }) :
    wpAny (model prog w) A (call (.ref 281) [.ref st, .int kd td, .ref ol, .ref md]) Q E s := by
  have m1' := U1.mem
  have m2' : (md, _) ∈ news := (U1.rest _ U2.mem).1
  have hne : st ≠ md := fun e => (U1.rest _ U2.mem).2 e.symm
  have out : ∀ {o}, h₀.get? rw = some o → rw ≠ st ∧ rw ≠ md := fun {o} ho => ⟨fun e => (by rw [e, (N _ m1').2.2] at ho; cases ho), fun e => (by rw [e, (N _ m2').2.2] at ho; cases ho)⟩
  refine H X0 T0 F.keep (N _ m1').1 (N _ m1').2.2 (N _ m2').1 (N _ m2').2.2 hne ?_ ?_ ?_ hvs h40 hol hos hom hovs hoo0 hoo hh hdp hun hkd (g := ⟨gi, m0, m1⟩) hgi hok fun h' v nw tks t0 t1 t2 K hc1 hc2 W R => ?_
  · obtain ⟨o, ho, r⟩ := hrw; exact ⟨o, F.keep _ _ ho, r⟩
  · obtain ⟨o, ho, r⟩ := hrw; exact (out ho).1
  · obtain ⟨o, ho, r⟩ := hrw; exact (out ho).2
  · have hS : ∀ a ∈ [st, md], ∃ o, (a, o) ∈ news := fun a ha => by
      rcases List.mem_cons.mp ha with rfl | ha
      · exact ⟨_, m1'⟩
      · cases List.mem_singleton.mp ha; exact ⟨_, m2'⟩
    refine hQ h' v nw tks t0 t1 t2 (K.fr F N hS) (K.news F N (fun p hp => ?_) fun p hp => ⟨(W p hp).1, (W p hp).2.1⟩) (W.ap N) (fun p hp => (W p hp).2.2) R
    rcases List.mem_cons.mp hp with rfl | hp
    · exact .inr (.inl ⟨hc1, _, m1'⟩)
    rcases List.mem_cons.mp hp with rfl | hp
    · exact .inr (.inl ⟨hc2, _, m2'⟩)
    rcases List.mem_append.mp hp with hp | hp
    · have h1 := U2.rest p hp
      have h2 := U1.rest p h1.1
      refine .inl ⟨h2.1, fun q => ?_⟩
      rcases List.mem_cons.mp q with e | q
      · exact h2.2 e
      · exact h1.2 (List.mem_singleton.mp q)
    · exact .inr (.inr hp)

set_option maxHeartbeats 3200000 in
theorem stmt_succ (d : Nat) (H : StSpec d) (hd2 : d < 5) : StSpec (d + 1) := by
  intro prog w p loose mean mg mb b0 A s st rw md ol n n' kd g t0 t1 t2 td vs ovs row oo Q E X0 T0 hb hst hst0 hmd hmd0 hsm hrw hrs hrm hvs h40 hol hos hom hovs hoo0 hoo hh hdp hun hkd hgi hok hQ
  obtain ⟨hA, dp, fr, gd, un⟩ := A
  cases hh
  dsimp only at hdp hun
  first | have hd1 : dp + 1 ≤ _ := Nat.add_le_add_right hdp 1 | have hd1 : dp + 1 ≤ 700 := u_one hdp (by omega) | have hd1 : dp + 1 ≤ 850 := by omega | skip
  first | have hu3 : un + 3 ≤ _ := Nat.add_le_add_right hun 3 | have hu3 : un + 3 ≤ 4000 := u_one hun (by omega) | have hu3 : un + 3 ≤ 7990 := by omega | skip
  subst hkd
  obtain ⟨gi, m0, m1⟩ := g
  dsimp only at hst hmd hgi hok
  simp only [bnd] at hgi
  obtain ⟨hok0, hok1⟩ := hok
  dsimp only at hok0 hok1
  refine wpAny_call ?_
  refine' enterH (binds := [(nm "state", Value.ref st), (nm "deep", Value.int ((d + 1 : Nat) : Int) td), (nm "open_ones", Value.ref ol), (nm "made", Value.ref md)]) [(st, lsO [.ref rw, .int gi t0] n), (md, lsO [.int m0 t1, .int m1 t2] n')] X0 T0 hb ?k0 ?k6 ?k7 ?k8 ?k9 ?kB ?_ ?c2 ?c3 ?c4 ?c5
  case k6 => k_is
  case k7 => k_is
  case k8 => show dp < 1000; omega
  case k9 => exact BindsTo.of_eq rfl
  case c5 => decide
  case kB => exact locs rfl
  case c2 => exact rfl
  case c3 => exact rfl
  case c4 => exact rfl
  case k0 => intro c hc; rcases List.mem_cons.mp hc with rfl | hc; exact ⟨hst, hst0⟩; cases List.mem_singleton.mp hc; exact ⟨hmd, hmd0⟩
  intro g' L' h' eg FG' N' X' T'
  have hl : g'.IsList rw vs.toArray := by rw [eg]; obtain ⟨o, ho, r⟩ := hrw; exact ⟨o, hideAll_get _ ho (by simp [hrs, hrm]), r⟩
  have hl2 : g'.IsList ol ovs.toArray := by rw [eg]; obtain ⟨o, ho, r⟩ := hol; exact ⟨o, hideAll_get _ ho (by simp [hos, hom]), r⟩
  replace hsm := neN hsm
  (try dsimp only)
  (try k_fold)
  k_steps
  · rename Fr _ _ _ _ => F9; rename News _ _ _ _ => N9; rename (_ : Int) < (oo.length : Int) => h6; rename _ = Mine.tak _ (gi + 1) _ => h7
    rename _ = Mine.tak _ gi _ => h8
    rw [Int.toNat_natCast, List.length_map] at h7
    rw [Int.toNat_natCast, map_getD] at N9
    have e : gen row (d + 1) oo ⟨gi, m0, m1⟩ = (.dis (oo.getD (tak row (gi + 1) oo.length) 0), ⟨gi + 1 + 1, m0, m1⟩) := by
      have h5 : tak row gi 6 = 5 := by simp only [Int.reduceToNat] at h8; first | exact tk_eq h8 (by assumption) rfl | omega
      exact gen_5 (g := ⟨gi, m0, m1⟩) h5
    rw [e, ← h7] at hQ
    refine hQ _ _ (tups _) _ _ _ _ (kept_of eg F9) (N9.get (by k_mem)) (N9.get (by k_mem)) (fresh_tups eg N9 (cells2 (by k_mem) (by k_mem) ls_ne ls_ne)) (StG.mono tups_sub _ _ ?_)
    simp only [StG]
    exact ⟨_, _, _, _, rfl, by k_mem⟩
  · rename Fr _ _ _ _ => F9; rename News _ _ _ _ => N9; rename _ = Mine.tak _ gi _ => h8
    have e : gen row (d + 1) oo ⟨gi, m0, m1⟩ = (.set (m0 + 1), ⟨gi + 1, m0 + 1, m1⟩) := by
      have h5 : tak row gi 6 ≠ 5 := by simp only [Int.reduceToNat] at h8; first | exact tk_ne h8 (by assumption) rfl | omega
      have h6 : tak row gi 6 < 2 := by simp only [Int.reduceToNat] at h8; first | exact tk_lt h8 (by assumption) rfl | omega
      exact gen_s (g := ⟨gi, m0, m1⟩) h5 h6
    rw [e] at hQ
    refine hQ _ _ (tups _) _ _ _ _ (kept_of eg F9) (N9.get (by k_mem)) (N9.get (by k_mem)) (fresh_tups eg N9 (cells2 (by k_mem) (by k_mem) ls_ne ls_ne)) (StG.mono tups_sub _ _ ?_)
    simp only [StG]
    exact ⟨_, _, _, ⟨_, _, rfl, by k_mem⟩, _, _, _, _, _, _, rfl, by k_mem⟩
  · exfalso
    rename ((d + 1 : Nat) : Int) = 0 => h9
    omega
  · -- if
    rename Fr _ _ _ _ => F9; rename News _ _ _ _ => N9; rename _ = Mine.tak _ gi _ => h8; rename _ = Mine.tak _ (gi + 1) _ => h7
    have hn := gen_near row d oo ⟨gi + 1 + 1, m0, m1⟩
    refine stop_out ?_
    refine stmt_call H F9 N9 X' T' (by walk_at "MINE out") (by walk_at "MINE out") hl hvs h40 (stays_list F9.keep hl2) hos hom hovs hoo0 (by omega) rfl (by simp only [depth_deeper]; omega) (by simp only [Around.deeper_units]; omega) (by omega) (by omega) (by omega) ?_
    intro h1 va nw tks u0 u1 u2 F9 N9 hap hcls R
    simp only [List.cons_append, List.nil_append] at N9
    generalize hG : gen row d oo ⟨gi + 1 + 1, m0, m1⟩ = G at N9 R hn
    obtain ⟨da, ⟨i1, a1, b1⟩⟩ := G
    simp only [Near, GS.ok] at hn N9 R
    k_steps
    · rename Fr _ _ _ _ => F9; rename News _ _ _ _ => N9; rename _ = Mine.tak _ i1 _ => h6
      have hn2 := gen_near row d oo ⟨i1 + 1, a1, b1⟩
      refine stop_out ?_
      refine stmt_call H F9 N9 X' T' (by walk_at "MINE out") (by walk_at "MINE out") hl hvs h40 (stays_list F9.keep hl2) hos hom hovs hoo0 (by omega) rfl (by simp only [depth_deeper]; omega) (by simp only [Around.deeper_units]; omega) (by omega) (by omega) (by omega) ?_
      intro h1 vb nw2 tks u0 u1 u2 F9 N9 hap2 hcls2 R2
      simp only [List.cons_append, List.nil_append] at N9
      generalize hG2 : gen row d oo ⟨i1 + 1, a1, b1⟩ = G2 at N9 R2 hn2
      obtain ⟨db, ⟨i2, a2, b2⟩⟩ := G2
      simp only [Near, GS.ok] at hn2 N9 R2
      k_steps
      rename Fr _ _ _ _ => F9; rename News _ _ _ _ => N9
      have e : gen row (d + 1) oo ⟨gi, m0, m1⟩ = (.ite2 (tak row (gi + 1) 2) da db, ⟨i2, a2, b2⟩) := by
        have h5 : tak row gi 6 = 2 := by simp only [Int.reduceToNat] at h8; first | exact tk_eq h8 (by assumption) rfl | omega
        have h6' : tak row i1 2 = 1 := by simp only [Int.reduceToNat] at h6; first | exact tk_eq h6 (by assumption) rfl | omega
        rw [gen_2 (g := ⟨gi, m0, m1⟩) h5]; simp only [genIf, GS.tick, hG, if_pos h6', hG2]
      simp only [Int.reduceToNat] at h7
      rw [e, ← h7] at hQ
      refine hQ _ _ (tups _) _ _ _ _ (kept_of eg F9) (N9.get (by k_mem)) (N9.get (by k_mem)) (fresh_tups eg N9 (cells2 (by k_mem) (by k_mem) ls_ne ls_ne)) (StG.mono tups_sub _ _ ?_)
      simp only [StG]
      exact ⟨_, _, _, _, ⟨_, _, rfl, by k_mem⟩, ⟨_, _, _, _, _, _, rfl, by k_mem⟩, StG.mono (lG_sub (by walk_at "MINE sub")) _ _ R, StG.mono (lG_sub (by walk_at "MINE sub")) _ _ R2⟩
    · rename Fr _ _ _ _ => F9; rename News _ _ _ _ => N9; rename _ = Mine.tak _ i1 _ => h6
      have e : gen row (d + 1) oo ⟨gi, m0, m1⟩ = (.ite1 (tak row (gi + 1) 2) da, ⟨i1 + 1, a1, b1⟩) := by
        have h5 : tak row gi 6 = 2 := by simp only [Int.reduceToNat] at h8; first | exact tk_eq h8 (by assumption) rfl | omega
        have h6' : tak row i1 2 ≠ 1 := by simp only [Int.reduceToNat] at h6; first | exact tk_ne h6 (by assumption) rfl | omega
        rw [gen_2 (g := ⟨gi, m0, m1⟩) h5]; simp only [genIf, GS.tick, hG, if_neg h6']
      simp only [Int.reduceToNat] at h7
      rw [e, ← h7] at hQ
      refine hQ _ _ (tups _) _ _ _ _ (kept_of eg F9) (N9.get (by k_mem)) (N9.get (by k_mem)) (fresh_tups eg N9 (cells2 (by k_mem) (by k_mem) ls_ne ls_ne)) (StG.mono tups_sub _ _ ?_)
      simp only [StG]
      exact ⟨_, _, _, ⟨_, _, rfl, by k_mem⟩, ⟨_, _, _, _, _, _, rfl, by k_mem⟩, StG.mono (lG_sub (by walk_at "MINE sub")) _ _ R⟩
  · -- repeat
    rename Fr _ _ _ _ => F9; rename News _ _ _ _ => N9; rename _ = Mine.tak _ gi _ => h8; rename _ = Mine.tak _ (gi + 1) _ => h7
    have hn := gen_near row d oo ⟨gi + 1 + 1, m0, m1⟩
    refine stop_out ?_
    refine stmt_call H F9 N9 X' T' (by walk_at "MINE out") (by walk_at "MINE out") hl hvs h40 (stays_list F9.keep hl2) hos hom hovs hoo0 (by omega) rfl (by simp only [depth_deeper]; omega) (by simp only [Around.deeper_units]; omega) (by omega) (by omega) (by omega) ?_
    intro h1 va nw tks u0 u1 u2 F9 N9 hap hcls R
    simp only [List.cons_append, List.nil_append] at N9
    generalize hG : gen row d oo ⟨gi + 1 + 1, m0, m1⟩ = G at N9 R hn
    obtain ⟨da, ⟨i1, a1, b1⟩⟩ := G
    simp only [Near, GS.ok] at hn N9 R
    k_steps
    rename Fr _ _ _ _ => F9; rename News _ _ _ _ => N9
    have e : gen row (d + 1) oo ⟨gi, m0, m1⟩ = (.rep (tak row (gi + 1) 4) da, ⟨i1, a1, b1⟩) := by
      have h5 : tak row gi 6 = 3 := by simp only [Int.reduceToNat] at h8; first | exact tk_eq h8 (by assumption) rfl | omega
      rw [gen_3 (g := ⟨gi, m0, m1⟩) h5]; simp only [genRep, GS.tick, hG]
    simp only [Int.reduceToNat] at h7
    rw [e, ← h7] at hQ
    refine hQ _ _ (tups _) _ _ _ _ (kept_of eg F9) (N9.get (by k_mem)) (N9.get (by k_mem)) (fresh_tups eg N9 (cells2 (by k_mem) (by k_mem) ls_ne ls_ne)) (StG.mono tups_sub _ _ ?_)
    simp only [StG]
    exact ⟨_, _, _, ⟨_, _, rfl, by k_mem⟩, ⟨_, _, _, _, _, _, rfl, by k_mem⟩, StG.mono (lG_sub (by walk_at "MINE sub")) _ _ R⟩
  · -- block
    rename Fr _ _ _ _ => F9; rename News _ _ _ _ => N9; rename _ = Mine.tak _ gi _ => h8
    rename_i rA _ hlt _
    have e1 : [(m0 : Int), (m1 : Int)].getD (Int.toNat 1) 0 + 1 = ((m1 + 1 : Nat) : Int) := rfl
    have e2 : [(m0 : Int), ((m1 + 1 : Nat) : Int)].getD (Int.toNat 1) 0 = ((m1 + 1 : Nat) : Int) := rfl
    rw [e1] at N9 F9
    rw [e2] at F9
    refine stop_out ?_
    refine For_invV g' rfl rfl ?_
    k_steps
    rename IsRange _ _ _ _ _ _ _ _ => hrg
    rename Fr _ _ _ _ => F9; rename News _ _ _ _ => N9; rename _ = Mine.tak _ (gi + 1) _ => h7
    simp only [Int.reduceToNat] at h7
    subst h7
    have hcnt := tak_lt row (gi + 1) (m := 3) (by decide)
    have hbl := fun i => genL_near (gen_near row d (oo ++ [m1 + 1])) i ⟨gi + 1 + 1, m0, m1 + 1⟩
    refine stop_out ?_
    refine loop_range1 (n := 1 + tak row (gi + 1) 3) (StJ2 (gen row d (oo ++ [m1 + 1])) ⟨gi + 1 + 1, m0, m1 + 1⟩ rw rA st md n n') rfl hrg (by omega) (by omega) F9 (Mine.News.sub N9 (l' := (rA, lsO [] 0) :: (st, lsO [.ref rw, .int (gi + 1 + 1 : Nat) _] n) :: (md, lsO [.int m0 _, .int (m1 + 1 : Nat) _] n') :: []) (by walk_at "MINE sub")) ⟨[], 0, [], _, _, _, rfl, by simp only [genL, SlG], fun _ h => (nomatch h), fun _ h => (nomatch h)⟩ ?_ ?_
    · intro i t nx h tk I io hi hJ hnI hio F9 N9
      (try k_fold)
      obtain ⟨vsl, nl, fz, u0, u1, u2, rfl, R, hcl, hap⟩ := hJ
      change Fr g' L' h _ at F9
      change News g' L' h _ at N9
      have hi1 := neN (hnI _ (.head _)); have hi2 := neN (hnI _ (.tail _ (.head _))); have hi3 := neN (hnI _ (.tail _ (.tail _ (.head _))))
      dsimp only at hi1 hi2 hi3
      have hn0 := hbl i
      have hmul : i * bnd d ≤ 2 * bnd d := Nat.mul_le_mul_right _ (by omega)
      generalize hGL : genL (gen row d (oo ++ [m1 + 1])) i ⟨gi + 1 + 1, m0, m1 + 1⟩ = GL at N9 R hn0
      obtain ⟨la, ⟨i1, a1, b1⟩⟩ := GL
      simp only [Near, GS.ok] at hn0 N9 R
      k_steps
      rename Fr _ _ _ _ => F9; rename News _ _ _ _ => N9; rename IntsAre _ (List.map _ oo ++ _) => hI9
      rename_i sA ws _ hl9
      have hn := gen_near row d (oo ++ [m1 + 1]) ⟨i1, a1, b1⟩
      refine stop_out ?_
      refine stmt_call H F9 N9 X' T' (oo := oo ++ [m1 + 1]) (by walk_at "MINE out") (by walk_at "MINE out") hl hvs h40 (News.isList N9 (by k_mem)) (neN (by omega)) (neN (by omega)) (by simpa using hI9) (by simp) (by simp only [List.length_append, List.length_cons, List.length_nil]; omega) rfl (by simp only [depth_deeper]; omega) (by simp only [Around.deeper_units]; omega) (by omega) (by omega) (by omega) ?_
      intro h1 vb nw tks w0 w1 w2 F9 N9 hap2 hcls2 R2
      simp only [List.cons_append, List.nil_append] at N9
      generalize hG2 : gen row d (oo ++ [m1 + 1]) ⟨i1, a1, b1⟩ = G2 at N9 R2 hn
      obtain ⟨db, ⟨i2, a2, b2⟩⟩ := G2
      simp only [Near, GS.ok] at hn N9 R2
      have hvl : vsl.length = i := by have h9 := R.length; have h8 := genL_length (gen row d (oo ++ [m1 + 1])) i ⟨gi + 1 + 1, m0, m1 + 1⟩; rw [hGL] at h8; exact h9.trans h8
      k_steps
      rename Fr _ _ _ _ => F9; rename News _ _ _ _ => N9
      have hGL' : genL (gen row d (oo ++ [m1 + 1])) (i + 1) ⟨gi + 1 + 1, m0, m1 + 1⟩ = (la ++ [db], ⟨i2, a2, b2⟩) := by simp only [genL, hGL, hG2]
      refine LpEnd.intro (nx := (rA, lsO (vsl ++ [vb]) (nl + 1)) :: (st, lsO [.ref rw, .int i2 w0] n) :: (md, lsO [.int a2 w1, .int b2 w2] n') :: (fz ++ nw)) F9 N9 (by walk_at "MINE sub") ?_ ⟨fun z hz => if_neg hz, vsl ++ [vb], nl + 1, fz ++ nw, w0, w1, w2, by rw [hGL'], ?_, all_app hcl hcls2, ?_⟩
      · exact List.forall_mem_cons.mpr ⟨hi1, List.forall_mem_cons.mpr ⟨hi2, List.forall_mem_cons.mpr ⟨hi3, all_app (fun p hp => hnI p (.tail _ (.tail _ (.tail _ hp)))) (hap2.ne (o := io) (by k_mem))⟩⟩⟩
      · rw [hGL']
        exact SlG.snoc (StG.mono (lG_sub fun p hp => List.mem_append_right _ hp) _ _ R2) (SlG.mono (lG_sub fun p hp => List.mem_append_left _ hp) _ _ R)
      · exact Ap.of3 (by k_all) (by k_all) (by k_all)
    · intro u nx h tk hJ F9 N9
      (try k_fold)
      obtain ⟨vsl, nl, fz, u0, u1, u2, rfl, R, hcl, hap⟩ := hJ
      change Fr g' L' h _ at F9
      change News g' L' h _ at N9
      have hn0 := hbl (1 + tak row (gi + 1) 3)
      generalize hGL : genL (gen row d (oo ++ [m1 + 1])) (1 + tak row (gi + 1) 3) ⟨gi + 1 + 1, m0, m1 + 1⟩ = GL at N9 R hn0
      obtain ⟨la, ⟨i1, a1, b1⟩⟩ := GL
      simp only [Near, GS.ok] at hn0 N9 R
      have hvl : vsl.length = 1 + tak row (gi + 1) 3 := by have h9 := R.length; have h8 := genL_length (gen row d (oo ++ [m1 + 1])) (1 + tak row (gi + 1) 3) ⟨gi + 1 + 1, m0, m1 + 1⟩; rw [hGL] at h8; exact h9.trans h8
      k_steps
      rename Fr _ _ _ _ => F9; rename News _ _ _ _ => N9
      have e : gen row (d + 1) oo ⟨gi, m0, m1⟩ = (.blk la (m1 + 1), ⟨i1, a1, b1⟩) := by
        simp only [Int.reduceToNat] at h8
        rw [gen_b (g := ⟨gi, m0, m1⟩) (tk_ne h8 (by assumption) rfl) (tk_nl h8 (by assumption) rfl) (tk_ne h8 (by assumption) rfl) (tk_ne h8 (by assumption) rfl)]
        simp only [genBlk, GS.tick, hGL]
      rw [e] at hQ
      refine hQ _ _ (tups _) _ _ _ _ (kept_of eg F9) (N9.get (by k_mem)) (N9.get (by k_mem)) (fresh_tups eg N9 (cells2 (by k_mem) (by k_mem) ls_ne ls_ne)) (StG.mono tups_sub _ _ ?_)
      simp only [StG]
      exact ⟨_, _, _, _, ⟨_, _, rfl, by k_mem⟩, ⟨_, _, rfl, by k_mem⟩, SlG.mono (lG_sub (by walk_at "MINE sub")) _ _ R⟩
theorem stmt_all (d : Nat) : d ≤ 5 → StSpec d :=
  Nat.rec (motive := fun d => d ≤ 5 → StSpec d) (fun _ => stmt_zero) (fun d ih h => stmt_succ d (ih (Nat.le_of_succ_le h)) h) d
end stmt
end Mine
namespace Mine
set_option maxHeartbeats 8000000 in
theorem fill3 (P : Params) : PySem.Challenge.rw_on0120_01 = PySem.Challenge.rw_on0120_01 ∧ Mine.hd.heap_1 P = Mine.hd.heap_1 P := by
  w_top off
  k_fill
  exact ⟨rfl, rfl⟩
section maker
variable {prog : Program} {w : World} {p : Program} {loose : List Str} {mean : ExcName → Option Value} {mg mb : Str → Option Value} {b0 : Heap} {A : Around} {s : Shared} {Q : Value → Shared → Prop} {E : Value → Shared → Prop} {M : Mk} {sl : Nat} {t : Tok} {vs : List Value} {nc : Nat}
local macro_rules | `(tactic| walk_at "call builtin:list.append") => `(tactic| walk_at "MINE append")
local macro_rules | `(tactic| walk_at "call builtin:len") => `(tactic| walk_at "MINE len")
theorem in_ne : (instObj 185 0).cls ≠ .type "tuple" := by intro h; cases h
theorem di_ne : (Value.type "dict") ≠ .type "tuple" := by decide
theorem li_ne : (Value.type "list") ≠ .type "tuple" := by decide
theorem cells3 {im dx cl : Addr} {p1 p2 p3 : Obj} {es : List DictEntry} {n2 : Nat} {ws : List Value} {n3 : Nat} {news : List (Addr × Obj)} (h1 : (im, instObj 185 dx) ∈ news) (h2 : (dx, dictOf es n2) ∈ news) (h3 : (cl, lsO ws n3) ∈ news) :
    ∀ x ∈ [(im, p1), (dx, p2), (cl, p3)].map (·.1), ∃ o, (x, o) ∈ news ∧ o.cls ≠ .type "tuple" := fun x hx => by
  rcases List.mem_cons.mp hx with rfl | hx
  · exact ⟨_, h1, in_ne⟩
  rcases List.mem_cons.mp hx with rfl | hx
  · exact ⟨_, h2, di_ne⟩
  · cases List.mem_singleton.mp hx; exact ⟨_, h3, li_ne⟩
theorem cells_get {h g : Heap} {L : Addr} {news l : List (Addr × Obj)} (N : News g L h news) (hs : ∀ p ∈ l, p ∈ news) : ∀ c ∈ l, h.get? c.1 = some c.2 := fun c hc => (N c (hs c hc)).1

set_option maxHeartbeats 800000 in
theorem emit_spec {v : Value} (X0 : (Mine.hd.heap_1 w.params).In b0) (T0 : Top p loose mean mg mb b0) (hb : b0.StaysIn s.heap) (hc : Cells b0 s.heap (M.cells sl t vs nc))
    (hh : A.handled = none) (hdp : A.depth ≤ 900) (hun : A.units ≤ 9000) (hz : vs.length ≤ 5000)
    (hQ : ∀ h' tk' t1 k, k = (vs.length : Int) → Kept M.adr s.heap h' → (∀ c ∈ M.cells sl t (vs ++ [v]) (nc + 1), h'.get? c.1 = some c.2) → Q (.int k t1) { s with heap := h', toks := tk' }) :
    wpAny (model prog w) A (call (.ref 63) [.ref M.im, v]) Q E s := by
  have hne := Mk.ne hc
  obtain ⟨im, dx, cl, q1, q2, t1, t2⟩ := M
  dsimp only at hne hc hQ ⊢
  obtain ⟨n1, n2, n3⟩ := hne
  replace n1 := neN n1; replace n2 := neN n2; replace n3 := neN n3
  obtain ⟨hA, dp, fr, gd, un⟩ := A
  cases hh
  dsimp only at hdp hun
  first | have hd1 : dp + 1 ≤ _ := Nat.add_le_add_right hdp 1 | have hd1 : dp + 1 ≤ 850 := by omega | skip
  first | have hu3 : un + 3 ≤ _ := Nat.add_le_add_right hun 3 | have hu3 : un + 3 ≤ 7990 := by omega | skip
  refine wpAny_call (enterH (binds := [(nm "self", Value.ref im), (nm "row", v)]) (Mk.cells ⟨im, dx, cl, q1, q2, t1, t2⟩ sl t vs nc) X0 T0 hb hc (by k_is) (by k_is) (by show dp < 1000; omega) (by exact BindsTo.of_eq rfl) (by exact locs rfl) ?_ (by exact rfl) (by exact rfl) (by exact rfl) (by decide))
  intro g' L' h' eg FG' N' X' T'
  dsimp only [Mk.cells, Mk.dict] at N'
  (try dsimp only)
  (try k_fold)
  k_steps
  rename Fr _ _ _ _ => F9; rename News _ _ _ _ => N9
  exact hQ _ _ _ _ (by omega) (kept_of eg F9) (cells_get N9 (by walk_at "MINE sub"))

set_option maxHeartbeats 800000 in
theorem here_spec (X0 : (Mine.hd.heap_1 w.params).In b0) (T0 : Top p loose mean mg mb b0) (hb : b0.StaysIn s.heap) (hc : Cells b0 s.heap (M.cells sl t vs nc))
    (hh : A.handled = none) (hdp : A.depth ≤ 900) (hun : A.units ≤ 9000) (hz : vs.length ≤ 5000)
    (hQ : ∀ h' tk' t1, Kept M.adr s.heap h' → (∀ c ∈ M.cells sl t vs nc, h'.get? c.1 = some c.2) → Q (.int vs.length t1) { s with heap := h', toks := tk' }) :
    wpAny (model prog w) A (call (.ref 70) [.ref M.im]) Q E s := by
  have hne := Mk.ne hc
  obtain ⟨im, dx, cl, q1, q2, t1, t2⟩ := M
  dsimp only at hne hc hQ ⊢
  obtain ⟨n1, n2, n3⟩ := hne
  replace n1 := neN n1; replace n2 := neN n2; replace n3 := neN n3
  obtain ⟨hA, dp, fr, gd, un⟩ := A
  cases hh
  dsimp only at hdp hun
  first | have hd1 : dp + 1 ≤ _ := Nat.add_le_add_right hdp 1 | have hd1 : dp + 1 ≤ 850 := by omega | skip
  first | have hu3 : un + 3 ≤ _ := Nat.add_le_add_right hun 3 | have hu3 : un + 3 ≤ 7990 := by omega | skip
  refine wpAny_call (enterH (binds := [(nm "self", Value.ref im)]) (Mk.cells ⟨im, dx, cl, q1, q2, t1, t2⟩ sl t vs nc) X0 T0 hb hc (by k_is) (by k_is) (by show dp < 1000; omega) (by exact BindsTo.of_eq rfl) (by exact locs rfl) ?_ (by exact rfl) (by exact rfl) (by exact rfl) (by decide))
  intro g' L' h' eg FG' N' X' T'
  dsimp only [Mk.cells, Mk.dict] at N'
  (try dsimp only)
  (try k_fold)
  k_steps
  rename Fr _ _ _ _ => F9; rename News _ _ _ _ => N9
  exact hQ _ _ _ (kept_of eg F9) (cells_get N9 (by walk_at "MINE sub"))

set_option maxHeartbeats 800000 in
theorem new_slot_spec (X0 : (Mine.hd.heap_1 w.params).In b0) (T0 : Top p loose mean mg mb b0) (hb : b0.StaysIn s.heap) (hc : Cells b0 s.heap (M.cells sl t vs nc))
    (hh : A.handled = none) (hdp : A.depth ≤ 900) (hun : A.units ≤ 9000)
    (hQ : ∀ h' tk' t1 t2, Kept M.adr s.heap h' → (∀ c ∈ M.cells (sl + 1) t2 vs nc, h'.get? c.1 = some c.2) → Q (.int sl t1) { s with heap := h', toks := tk' }) :
    wpAny (model prog w) A (call (.ref 77) [.ref M.im]) Q E s := by
  have hne := Mk.ne hc
  obtain ⟨im, dx, cl, q1, q2, t1, t2⟩ := M
  dsimp only at hne hc hQ ⊢
  obtain ⟨n1, n2, n3⟩ := hne
  replace n1 := neN n1; replace n2 := neN n2; replace n3 := neN n3
  obtain ⟨hA, dp, fr, gd, un⟩ := A
  cases hh
  dsimp only at hdp hun
  first | have hd1 : dp + 1 ≤ _ := Nat.add_le_add_right hdp 1 | have hd1 : dp + 1 ≤ 850 := by omega | skip
  first | have hu3 : un + 3 ≤ _ := Nat.add_le_add_right hun 3 | have hu3 : un + 3 ≤ 7990 := by omega | skip
  refine wpAny_call (enterH (binds := [(nm "self", Value.ref im)]) (Mk.cells ⟨im, dx, cl, q1, q2, t1, t2⟩ sl t vs nc) X0 T0 hb hc (by k_is) (by k_is) (by show dp < 1000; omega) (by exact BindsTo.of_eq rfl) (by exact locs rfl) ?_ (by exact rfl) (by exact rfl) (by exact rfl) (by decide))
  intro g' L' h' eg FG' N' X' T'
  dsimp only [Mk.cells, Mk.dict] at N'
  (try dsimp only)
  (try k_fold)
  k_steps
  rename Fr _ _ _ _ => F9; rename News _ _ _ _ => N9
  exact hQ _ _ _ _ (kept_of eg F9) (cells_get N9 (by walk_at "MINE sub"))

theorem emit_call {h₀ : Heap} {L : Addr} {m : Str → Option Value} {news r1 r2 rest : List (Addr × Obj)} {im dx cl : Addr} {q1 q2 : Int} {t1 t2 : Tok} {v : Value} (F : Fr h₀ L s.heap m) (N : News h₀ L s.heap news) (X0 : (Mine.hd.heap_1 w.params).In h₀) (T0 : Top p loose mean mg mb h₀)
    (U1 : Out im (instObj 185 dx) news r1) (U2 : Out dx (dictOf [⟨q1, .str (nm "slots") t1, .int sl t⟩, ⟨q2, .str (nm "code") t2, .ref cl⟩] 2) r1 r2) (U3 : Out cl (lsO vs nc) r2 rest)
    (hh : A.handled = none) (hdp : A.depth ≤ 900) (hun : A.units ≤ 9000) (hz : vs.length ≤ 5000)
    (hQ : ∀ h' tk' t9 k, k = (vs.length : Int) → Fr h₀ L h' m → News h₀ L h' ((im, instObj 185 dx) :: (dx, dictOf [⟨q1, .str (nm "slots") t1, .int sl t⟩, ⟨q2, .str (nm "code") t2, .ref cl⟩] 2) :: (cl, lsO (vs ++ [v]) (nc + 1)) :: rest) → Q (.int k t9) { s with heap := h', toks := tk' }) :
    wpAny (model prog w) A (call (.ref 63) [.ref im, v]) Q E s :=
  emit_spec (M := ⟨im, dx, cl, q1, q2, t1, t2⟩) X0 T0 F.keep (Mk.cellsOf N U1 U2 U3) hh hdp hun hz fun h' tk' t9 k hk K C => by
    have := Mk.back (M := ⟨im, dx, cl, q1, q2, t1, t2⟩) (nw := []) F N U1 U2 U3 K C (fun _ h => nomatch h)
    rw [List.append_nil] at this
    exact hQ h' tk' t9 k hk this.1 this.2
theorem here_call {h₀ : Heap} {L : Addr} {m : Str → Option Value} {news r1 r2 rest : List (Addr × Obj)} {im dx cl : Addr} {q1 q2 : Int} {t1 t2 : Tok} (F : Fr h₀ L s.heap m) (N : News h₀ L s.heap news) (X0 : (Mine.hd.heap_1 w.params).In h₀) (T0 : Top p loose mean mg mb h₀)
    (U1 : Out im (instObj 185 dx) news r1) (U2 : Out dx (dictOf [⟨q1, .str (nm "slots") t1, .int sl t⟩, ⟨q2, .str (nm "code") t2, .ref cl⟩] 2) r1 r2) (U3 : Out cl (lsO vs nc) r2 rest)
    (hh : A.handled = none) (hdp : A.depth ≤ 900) (hun : A.units ≤ 9000) (hz : vs.length ≤ 5000)
    (hQ : ∀ h' tk' t9, Fr h₀ L h' m → News h₀ L h' ((im, instObj 185 dx) :: (dx, dictOf [⟨q1, .str (nm "slots") t1, .int sl t⟩, ⟨q2, .str (nm "code") t2, .ref cl⟩] 2) :: (cl, lsO vs nc) :: rest) → Q (.int vs.length t9) { s with heap := h', toks := tk' }) :
    wpAny (model prog w) A (call (.ref 70) [.ref im]) Q E s :=
  here_spec (M := ⟨im, dx, cl, q1, q2, t1, t2⟩) X0 T0 F.keep (Mk.cellsOf N U1 U2 U3) hh hdp hun hz fun h' tk' t9 K C => by
    have := Mk.back (M := ⟨im, dx, cl, q1, q2, t1, t2⟩) (nw := []) F N U1 U2 U3 K C (fun _ h => nomatch h)
    rw [List.append_nil] at this
    exact hQ h' tk' t9 this.1 this.2
theorem new_slot_call {h₀ : Heap} {L : Addr} {m : Str → Option Value} {news r1 r2 rest : List (Addr × Obj)} {im dx cl : Addr} {q1 q2 : Int} {t1 t2 : Tok} (F : Fr h₀ L s.heap m) (N : News h₀ L s.heap news) (X0 : (Mine.hd.heap_1 w.params).In h₀) (T0 : Top p loose mean mg mb h₀)
    (U1 : Out im (instObj 185 dx) news r1) (U2 : Out dx (dictOf [⟨q1, .str (nm "slots") t1, .int sl t⟩, ⟨q2, .str (nm "code") t2, .ref cl⟩] 2) r1 r2) (U3 : Out cl (lsO vs nc) r2 rest)
    (hh : A.handled = none) (hdp : A.depth ≤ 900) (hun : A.units ≤ 9000)
    (hQ : ∀ h' tk' t9 t8, Fr h₀ L h' m → News h₀ L h' ((im, instObj 185 dx) :: (dx, dictOf [⟨q1, .str (nm "slots") t1, .int (sl + 1 : Nat) t8⟩, ⟨q2, .str (nm "code") t2, .ref cl⟩] 2) :: (cl, lsO vs nc) :: rest) → Q (.int sl t9) { s with heap := h', toks := tk' }) :
    wpAny (model prog w) A (call (.ref 77) [.ref im]) Q E s :=
  new_slot_spec (M := ⟨im, dx, cl, q1, q2, t1, t2⟩) X0 T0 F.keep (Mk.cellsOf N U1 U2 U3) hh hdp hun fun h' tk' t9 t8 K C => by
    have := Mk.back (M := ⟨im, dx, cl, q1, q2, t1, t2⟩) (nw := []) F N U1 U2 U3 K C (fun _ h => nomatch h)
    rw [List.append_nil] at this
    exact hQ h' tk' t9 t8 this.1 this.2
local macro_rules | `(tactic| walk_at "call ref") => `(tactic| (((k_dflt refine' emit_call _ _ _ _ _ _ _ _ _ _ _ _) <;> walk_at "MINE S"); intro h' tk' t9 k' hk' F' N'; (try simp only [List.length_append, List.length_cons, List.length_nil, List.length_set] at hk')))
local macro_rules | `(tactic| walk_at "call ref") => `(tactic| (((k_dflt refine' here_call _ _ _ _ _ _ _ _ _ _ _ _) <;> walk_at "MINE S"); intro h' tk' t9 F' N'))
local macro_rules | `(tactic| walk_at "call ref") => `(tactic| (((k_dflt refine' new_slot_call _ _ _ _ _ _ _ _ _ _ _) <;> walk_at "MINE S"); intro h' tk' t9 t8 F' N'))
local macro_rules | `(tactic| walk_at "subscriptTail Attribute Name Name ref int") => `(tactic| (((with_reducible refine' item_L _ _ _ _ _ _) <;> walk_at "MINE S")))
local macro_rules | `(tactic| walk_at "subscriptTail Name Slice ref ref") => `(tactic| walk_at "MINE neg1")
local macro_rules | `(tactic| walk_at "subscriptTail Name Constant ref int") => `(tactic| walk_at "MINE item")
local macro_rules | `(tactic| walk_at "setItem ref int") => `(tactic| ((with_reducible show wpAny _ _ (setItem (Value.ref _) (Value.int (Nat.cast _) _) _) _ _ _); k_dflt ((refine' setItem_L _ _ _ _ _ _) <;> walk_at "MINE S"); intro h' F' N'))

set_option maxHeartbeats 1600000 in
theorem aim3_spec {tag : String} (htag : tag = "enter" ∨ tag = "unless" ∨ tag = "again") {a r : Nat} {ta tg ty : Tok} {n : Nat} {x : Value} {y : Int} (X0 : (Mine.hd.heap_1 w.params).In b0) (T0 : Top p loose mean mg mb b0) (hb : b0.StaysIn s.heap) (hc : Cells b0 s.heap (M.cells sl t vs nc))
    (hh : A.handled = none) (hdp : A.depth ≤ 890) (hun : A.units ≤ 8000) (hz : vs.length ≤ 5000) (ha : vs[a]? = some (.ref r)) (hr : s.heap.get? r = some (tpO [.str (nm tag) tg, x, .int y ty] n))
    (hQ : ∀ h' tk' v9 nw t8 t9, Kept M.adr s.heap h' → (∀ c ∈ M.cells sl t (vs.set a v9) nc, h'.get? c.1 = some c.2) → Fresh s.heap h' nw → TpG (lG nw) v9 [.str (nm tag) t8, x, .int vs.length t9] → Q .none { s with heap := h', toks := tk' }) :
    wpAny (model prog w) A (call (.ref 84) [.ref M.im, .int a ta]) Q E s := by
  have hne := Mk.ne hc
  have hro : r ∉ M.adr := fun hm => by
    have h1 := fun c hc' => (hc c hc').1
    rcases List.mem_cons.mp hm with e | hm
    · have := h1 _ (.head _); dsimp only at this; rw [← e, hr] at this; cases this
    rcases List.mem_cons.mp hm with e | hm
    · have := h1 _ (.tail _ (.head _)); dsimp only at this; rw [← e, hr] at this
      exact absurd (show (Value.type "tuple") = .type "dict" from congrArg Obj.cls (Option.some.inj this)) (by decide)
    · have e := List.mem_singleton.mp hm
      have := h1 _ (.tail _ (.tail _ (.head _))); dsimp only at this; rw [← e, hr] at this
      exact absurd (show (Value.type "tuple") = .type "list" from congrArg Obj.cls (Option.some.inj this)) (by decide)
  obtain ⟨im, dx, cl, q1, q2, t1, t2⟩ := M
  dsimp only at hne hc hQ hro ⊢
  obtain ⟨n1, n2, n3⟩ := hne
  replace n1 := neN n1; replace n2 := neN n2; replace n3 := neN n3
  obtain ⟨hA, dp, fr, gd, un⟩ := A
  cases hh
  dsimp only at hdp hun
  first | have hd1 : dp + 1 ≤ _ := Nat.add_le_add_right hdp 1 | have hd1 : dp + 1 ≤ 850 := by omega | skip
  first | have hu3 : un + 3 ≤ _ := Nat.add_le_add_right hun 3 | have hu3 : un + 3 ≤ 7990 := by omega | skip
  have hal : a < vs.length := (List.getElem?_eq_some_iff.mp ha).1
  refine wpAny_call (enterH (binds := [(nm "self", Value.ref im), (nm "address", Value.int a ta)]) (Mk.cells ⟨im, dx, cl, q1, q2, t1, t2⟩ sl t vs nc) X0 T0 hb hc (by k_is) (by k_is) (by show dp < 1000; omega) (by exact BindsTo.of_eq rfl) (by exact locs rfl) ?_ (by exact rfl) (by exact rfl) (by exact rfl) (by decide))
  intro g' L' h' eg FG' N' X' T'
  have hr' : g'.get? r = some (tpO [.str (nm tag) tg, x, .int y ty] n) := by rw [eg]; exact hideAll_get _ hr hro
  have ht : IsTup g' r [Value.str (nm tag) tg, x, .int y ty].toArray := ⟨_, hr', rfl, n, rfl⟩
  dsimp only [Mk.cells, Mk.dict] at N'
  rcases htag with rfl | rfl | rfl
  all_goals (
    (try dsimp only)
    (try k_fold)
    k_steps
    rename Fr _ _ _ _ => F9; rename News _ _ _ _ => N9
    show Q Value.none _
    refine hQ _ _ _ (tups _) _ _ (kept_of eg F9) (cells_get N9 (by walk_at "MINE sub")) (fresh_tups eg N9 (cells3 (by k_mem) (by k_mem) (by k_mem))) (TpG.mono tups_sub ⟨_, _, rfl, by k_mem⟩))

set_option maxHeartbeats 1600000 in
theorem aim2_spec {a r : Nat} {ta tg ty : Tok} {n : Nat} {y : Int} (X0 : (Mine.hd.heap_1 w.params).In b0) (T0 : Top p loose mean mg mb b0) (hb : b0.StaysIn s.heap) (hc : Cells b0 s.heap (M.cells sl t vs nc))
    (hh : A.handled = none) (hdp : A.depth ≤ 890) (hun : A.units ≤ 8000) (hz : vs.length ≤ 5000) (ha : vs[a]? = some (.ref r)) (hr : s.heap.get? r = some (tpO [.str (nm "jump") tg, .int y ty] n))
    (hQ : ∀ h' tk' v9 nw t8 t9, Kept M.adr s.heap h' → (∀ c ∈ M.cells sl t (vs.set a v9) nc, h'.get? c.1 = some c.2) → Fresh s.heap h' nw → TpG (lG nw) v9 [.str (nm "jump") t8, .int vs.length t9] → Q .none { s with heap := h', toks := tk' }) :
    wpAny (model prog w) A (call (.ref 84) [.ref M.im, .int a ta]) Q E s := by
  have hne := Mk.ne hc
  have hro : r ∉ M.adr := fun hm => by
    have h1 := fun c hc' => (hc c hc').1
    rcases List.mem_cons.mp hm with e | hm
    · have := h1 _ (.head _); dsimp only at this; rw [← e, hr] at this; cases this
    rcases List.mem_cons.mp hm with e | hm
    · have := h1 _ (.tail _ (.head _)); dsimp only at this; rw [← e, hr] at this
      exact absurd (show (Value.type "tuple") = .type "dict" from congrArg Obj.cls (Option.some.inj this)) (by decide)
    · have e := List.mem_singleton.mp hm
      have := h1 _ (.tail _ (.tail _ (.head _))); dsimp only at this; rw [← e, hr] at this
      exact absurd (show (Value.type "tuple") = .type "list" from congrArg Obj.cls (Option.some.inj this)) (by decide)
  obtain ⟨im, dx, cl, q1, q2, t1, t2⟩ := M
  dsimp only at hne hc hQ hro ⊢
  obtain ⟨n1, n2, n3⟩ := hne
  replace n1 := neN n1; replace n2 := neN n2; replace n3 := neN n3
  obtain ⟨hA, dp, fr, gd, un⟩ := A
  cases hh
  dsimp only at hdp hun
  first | have hd1 : dp + 1 ≤ _ := Nat.add_le_add_right hdp 1 | have hd1 : dp + 1 ≤ 850 := by omega | skip
  first | have hu3 : un + 3 ≤ _ := Nat.add_le_add_right hun 3 | have hu3 : un + 3 ≤ 7990 := by omega | skip
  have hal : a < vs.length := (List.getElem?_eq_some_iff.mp ha).1
  refine wpAny_call (enterH (binds := [(nm "self", Value.ref im), (nm "address", Value.int a ta)]) (Mk.cells ⟨im, dx, cl, q1, q2, t1, t2⟩ sl t vs nc) X0 T0 hb hc (by k_is) (by k_is) (by show dp < 1000; omega) (by exact BindsTo.of_eq rfl) (by exact locs rfl) ?_ (by exact rfl) (by exact rfl) (by exact rfl) (by decide))
  intro g' L' h' eg FG' N' X' T'
  have hr' : g'.get? r = some (tpO [.str (nm "jump") tg, .int y ty] n) := by rw [eg]; exact hideAll_get _ hr hro
  have ht : IsTup g' r [Value.str (nm "jump") tg, .int y ty].toArray := ⟨_, hr', rfl, n, rfl⟩
  dsimp only [Mk.cells, Mk.dict] at N'
  (try dsimp only)
  (try k_fold)
  k_steps
  rename Fr _ _ _ _ => F9; rename News _ _ _ _ => N9
  show Q Value.none _
  refine hQ _ _ _ (tups _) _ _ (kept_of eg F9) (cells_get N9 (by walk_at "MINE sub")) (fresh_tups eg N9 (cells3 (by k_mem) (by k_mem) (by k_mem))) (TpG.mono tups_sub ⟨_, _, rfl, by k_mem⟩)

theorem aim3_call {h₀ : Heap} {L : Addr} {m : Str → Option Value} {news r1 r2 rest : List (Addr × Obj)} {im dx cl : Addr} {q1 q2 : Int} {t1 t2 : Tok} {tag : String} {a r : Nat} {ta tg ty : Tok} {n : Nat} {x : Value} {y : Int} (F : Fr h₀ L s.heap m) (N : News h₀ L s.heap news) (X0 : (Mine.hd.heap_1 w.params).In h₀) (T0 : Top p loose mean mg mb h₀)
    (U1 : Out im (instObj 185 dx) news r1) (U2 : Out dx (dictOf [⟨q1, .str (nm "slots") t1, .int sl t⟩, ⟨q2, .str (nm "code") t2, .ref cl⟩] 2) r1 r2) (U3 : Out cl (lsO vs nc) r2 rest)
    (hh : A.handled = none) (htag : tag = "enter" ∨ tag = "unless" ∨ tag = "again") (hdp : A.depth ≤ 890) (hun : A.units ≤ 8000) (hz : vs.length ≤ 5000) (ha : vs[a]? = some (.ref r)) (hr : s.heap.get? r = some (tpO [.str (nm tag) tg, x, .int y ty] n))
    (hQ : ∀ h' tk' v9 nw t8 t9, Fr h₀ L h' m → News h₀ L h' ((im, instObj 185 dx) :: (dx, dictOf [⟨q1, .str (nm "slots") t1, .int sl t⟩, ⟨q2, .str (nm "code") t2, .ref cl⟩] 2) :: (cl, lsO (vs.set a v9) nc) :: (rest ++ nw)) → Ap nw news → (∀ p ∈ nw, p.2.cls = .type "tuple") → TpG (lG nw) v9 [.str (nm tag) t8, x, .int vs.length t9] → Q .none { s with heap := h', toks := tk' }) :
    wpAny (model prog w) A (call (.ref 84) [.ref im, .int a ta]) Q E s :=
  aim3_spec (M := ⟨im, dx, cl, q1, q2, t1, t2⟩) htag X0 T0 F.keep (Mk.cellsOf N U1 U2 U3) hh hdp hun hz ha hr fun h' tk' v9 nw t8 t9 K C W R => by
    have := Mk.back (M := ⟨im, dx, cl, q1, q2, t1, t2⟩) F N U1 U2 U3 K C W
    exact hQ h' tk' v9 nw t8 t9 this.1 this.2 (W.ap N) (fun p hp => (W p hp).2.2) R
theorem aim2_call {h₀ : Heap} {L : Addr} {m : Str → Option Value} {news r1 r2 rest : List (Addr × Obj)} {im dx cl : Addr} {q1 q2 : Int} {t1 t2 : Tok} {a r : Nat} {ta tg ty : Tok} {n : Nat} {y : Int} (F : Fr h₀ L s.heap m) (N : News h₀ L s.heap news) (X0 : (Mine.hd.heap_1 w.params).In h₀) (T0 : Top p loose mean mg mb h₀)
    (U1 : Out im (instObj 185 dx) news r1) (U2 : Out dx (dictOf [⟨q1, .str (nm "slots") t1, .int sl t⟩, ⟨q2, .str (nm "code") t2, .ref cl⟩] 2) r1 r2) (U3 : Out cl (lsO vs nc) r2 rest)
    (hh : A.handled = none) (hdp : A.depth ≤ 890) (hun : A.units ≤ 8000) (hz : vs.length ≤ 5000) (ha : vs[a]? = some (.ref r)) (hr : s.heap.get? r = some (tpO [.str (nm "jump") tg, .int y ty] n))
    (hQ : ∀ h' tk' v9 nw t8 t9, Fr h₀ L h' m → News h₀ L h' ((im, instObj 185 dx) :: (dx, dictOf [⟨q1, .str (nm "slots") t1, .int sl t⟩, ⟨q2, .str (nm "code") t2, .ref cl⟩] 2) :: (cl, lsO (vs.set a v9) nc) :: (rest ++ nw)) → Ap nw news → (∀ p ∈ nw, p.2.cls = .type "tuple") → TpG (lG nw) v9 [.str (nm "jump") t8, .int vs.length t9] → Q .none { s with heap := h', toks := tk' }) :
    wpAny (model prog w) A (call (.ref 84) [.ref im, .int a ta]) Q E s :=
  aim2_spec (M := ⟨im, dx, cl, q1, q2, t1, t2⟩) X0 T0 F.keep (Mk.cellsOf N U1 U2 U3) hh hdp hun hz ha hr fun h' tk' v9 nw t8 t9 K C W R => by
    have := Mk.back (M := ⟨im, dx, cl, q1, q2, t1, t2⟩) F N U1 U2 U3 K C W
    exact hQ h' tk' v9 nw t8 t9 this.1 this.2 (W.ap N) (fun p hp => (W p hp).2.2) R

noncomputable def MSpec (f e : Nat) (d : Sm) : Prop := ∀ {prog : Program} {w : World} {p : Program} {loose : List Str} {mean : ExcName → Option Value} {mg mb : Str → Option Value} {b0 : Heap} {A : Around} {s : Shared} {Q : Value → Shared → Prop} {E : Value → Shared → Prop} {M : Mk} {sl : Nat} {t : Tok} {vs : List Value} {nc : Nat} {v : Value} {G : Says}
    (_ : (Mine.hd.heap_1 w.params).In b0) (_ : Top p loose mean mg mb b0) (_ : b0.StaysIn s.heap) (_ : Cells b0 s.heap (M.cells sl t vs nc))
    (_ : A.handled = none) (_ : A.depth + e ≤ 850) (_ : A.units + 5 * e ≤ 8000) (_ : vs.length + sz d ≤ 4000) (_ : G.sub (hG s.heap)) (_ : StG G v d)
    (_ : ∀ h' tk' ws nw t9 nc', Kept M.adr s.heap h' → (∀ c ∈ M.cells (sl + nsl d) t9 (vs ++ ws) nc', h'.get? c.1 = some c.2) → Fresh s.heap h' nw → RwsG (orG G nw) ws (comp d vs.length sl) → Q .none { s with heap := h', toks := tk' }),
    wpAny (model prog w) A (call (.ref f) [.ref M.im, v]) Q E s
theorem m_call {f e : Nat} {d : Sm} (H : MSpec f e d) {h₀ : Heap} {L : Addr} {m : Str → Option Value} {news r1 r2 rest : List (Addr × Obj)} {im dx cl : Addr} {q1 q2 : Int} {t1 t2 : Tok} {v : Value} {G : Says} (F : Fr h₀ L s.heap m) (N : News h₀ L s.heap news) (X0 : (Mine.hd.heap_1 w.params).In h₀) (T0 : Top p loose mean mg mb h₀)
    (U1 : Out im (instObj 185 dx) news r1) (U2 : Out dx (dictOf [⟨q1, .str (nm "slots") t1, .int sl t⟩, ⟨q2, .str (nm "code") t2, .ref cl⟩] 2) r1 r2) (U3 : Out cl (lsO vs nc) r2 rest)
    (hh : A.handled = none) (hdp : A.depth + e ≤ 850) (hun : A.units + 5 * e ≤ 8000) (hz : vs.length + sz d ≤ 4000) (hGb : G.sub (hG h₀)) (R : StG G v d)
    (hQ : ∀ h' tk' ws nw t9 nc', Fr h₀ L h' m → News h₀ L h' ((im, instObj 185 dx) :: (dx, dictOf [⟨q1, .str (nm "slots") t1, .int (sl + nsl d : Nat) t9⟩, ⟨q2, .str (nm "code") t2, .ref cl⟩] 2) :: (cl, lsO (vs ++ ws) nc') :: (rest ++ nw)) → Ap nw news → (∀ p ∈ nw, p.2.cls = .type "tuple") → RwsG (orG G nw) ws (comp d vs.length sl) → Q .none { s with heap := h', toks := tk' }) :
    wpAny (model prog w) A (call (.ref f) [.ref im, v]) Q E s :=
  H (M := ⟨im, dx, cl, q1, q2, t1, t2⟩) X0 T0 F.keep (Mk.cellsOf N U1 U2 U3) hh hdp hun hz (fun a its n x => F.keep _ _ (hGb a its n x)) R fun h' tk' ws nw t9 nc' K C W R => by
    have := Mk.back (M := ⟨im, dx, cl, q1, q2, t1, t2⟩) F N U1 U2 U3 K C W
    exact hQ h' tk' ws nw t9 nc' this.1 this.2 (W.ap N) (fun p hp => (W p hp).2.2) R
theorem cells_hide {b0 h : Heap} {M : Mk} {sl : Nat} {t : Tok} {vs : List Value} {nc : Nat} (C : Cells b0 h (M.cells sl t vs nc)) : ∀ a ∈ (M.cells sl t vs nc).map (·.1), ∀ o, h.get? a = some o → o.cls ≠ .type "tuple" := fun a ha o ho => by
  rcases List.mem_cons.mp ha with rfl | ha
  · have := (C _ (.head _)).1; dsimp only at this; rw [this] at ho; cases ho; exact in_ne
  rcases List.mem_cons.mp ha with rfl | ha
  · have := (C _ (.tail _ (.head _))).1; dsimp only at this; rw [this] at ho; cases ho; exact di_ne
  · cases List.mem_singleton.mp ha
    have := (C _ (.tail _ (.tail _ (.head _)))).1; dsimp only at this; rw [this] at ho; cases ho; exact li_ne
end maker
end Mine
namespace Mine
set_option maxHeartbeats 8000000 in
theorem fill4 (P : Params) : PySem.Challenge.rw_on0120_01 = PySem.Challenge.rw_on0120_01 ∧ Mine.hd.heap_1 P = Mine.hd.heap_1 P := by
  w_top off
  k_fill
  exact ⟨rfl, rfl⟩
section maker2
local macro_rules | `(tactic| walk_at "call builtin:list.append") => `(tactic| walk_at "MINE append")
local macro_rules | `(tactic| walk_at "call builtin:len") => `(tactic| walk_at "MINE len")
local macro_rules | `(tactic| walk_at "call ref") => `(tactic| (((k_dflt refine' emit_call _ _ _ _ _ _ _ _ _ _ _ _) <;> walk_at "MINE S"); intro h' tk' t9 k' hk' F' N'; (try simp only [List.length_append, List.length_cons, List.length_nil, List.length_set] at hk')))
local macro_rules | `(tactic| walk_at "call ref") => `(tactic| (((k_dflt refine' here_call _ _ _ _ _ _ _ _ _ _ _ _) <;> walk_at "MINE S"); intro h' tk' t9 F' N'))
local macro_rules | `(tactic| walk_at "call ref") => `(tactic| (((k_dflt refine' new_slot_call _ _ _ _ _ _ _ _ _ _ _) <;> walk_at "MINE S"); intro h' tk' t9 t8 F' N'))
local macro_rules | `(tactic| walk_at "subscriptTail Attribute Name Name ref int") => `(tactic| (((with_reducible refine' item_L _ _ _ _ _ _) <;> walk_at "MINE S")))
local macro_rules | `(tactic| walk_at "subscriptTail Name Slice ref ref") => `(tactic| walk_at "MINE neg1")
local macro_rules | `(tactic| walk_at "subscriptTail Name Constant ref int") => `(tactic| walk_at "MINE item")
local macro_rules | `(tactic| walk_at "setItem ref int") => `(tactic| ((with_reducible show wpAny _ _ (setItem (Value.ref _) (Value.int (Nat.cast _) _) _) _ _ _); k_dflt ((refine' setItem_L _ _ _ _ _ _) <;> walk_at "MINE S"); intro h' F' N'))
local macro_rules | `(tactic| walk_at "call ref") => `(tactic| with_reducible refine stop_ref 98 ?_)
local macro_rules | `(tactic| walk_at "call ref") => `(tactic| with_reducible refine stop_ref 112 ?_)
local macro_rules | `(tactic| walk_at "call ref") => `(tactic| with_reducible refine stop_ref 133 ?_)
local macro_rules | `(tactic| walk_at "call ref") => `(tactic| with_reducible refine stop_ref 154 ?_)
local macro_rules | `(tactic| walk_at "call ref") => `(tactic| with_reducible refine stop_ref 175 ?_)
local macro_rules | `(tactic| walk_at "call ref") => `(tactic| with_reducible refine stop_ref 182 ?_)
local macro_rules | `(tactic| walk_at "call ref") => `(tactic| with_reducible refine stop_ref 84 ?_)
local macro_rules | `(tactic| walk_at "call ref") => `(tactic| with_reducible refine stop_ref 140 ?_)
local macro_rules | `(tactic| walk_at "call ref") => `(tactic| with_reducible refine stop_ref 147 ?_)
local macro_rules | `(tactic| walk_at "pyIter ref") => `(tactic| (with_reducible refine stop_here ?_))
local macro_rules | `(tactic| walk_at "exec For Name Subscript cons nil") => `(tactic| (with_reducible refine stop_here ?_))
theorem set_mid (l r : List Value) (x y : Value) : (l ++ x :: r).set l.length y = l ++ (y :: r) := by simp
theorem reassoc (l a b : List Value) (x y : Value) : (l ++ x :: (a ++ [y])) ++ b = (l ++ x :: a) ++ y :: b := by simp
theorem set_mid1 (l r : List Value) (x y z : Value) : (l ++ x :: y :: r).set (l.length + 1) z = l ++ (x :: z :: r) := by simp
theorem get_mid1 (l r : List Value) (x y : Value) : (l ++ x :: y :: r)[l.length + 1]? = some y := by simp
theorem get_mid (l r : List Value) (x : Value) : (l ++ x :: r)[l.length]? = some x := by simp
theorem cells_off {b0 h : Heap} {M : Mk} {sl : Nat} {t : Tok} {vs : List Value} {nc : Nat} {r : Addr} {its : List Value} {n : Nat} (C : Cells b0 h (M.cells sl t vs nc)) (hr : h.get? r = some (tpO its n)) : r ∉ (M.cells sl t vs nc).map (·.1) := fun hm => cells_hide C r hm _ hr rfl
theorem isTup_base {g : Heap} {a : Addr} {l : List Value} {n : Nat} (h : g.get? a = some (tpO l n)) : IsTup g a l.toArray := ⟨_, h, rfl, n, rfl⟩

set_option maxHeartbeats 1600000 in
theorem assign_set (n : Nat) : MSpec 98 4 (.set n) := by
  intro prog w p loose mean mg mb b0 A s Q E M sl t vs nc v G X0 T0 hb hc hh hdp hun hz hGs R hQ
  have hne := Mk.ne hc
  have hch := cells_hide hc
  obtain ⟨im, dx, cl, q1, q2, u1, u2⟩ := M
  dsimp only at hne hc hQ hch ⊢
  obtain ⟨n1, n2, n3⟩ := hne
  replace n1 := neN n1; replace n2 := neN n2; replace n3 := neN n3
  obtain ⟨hA, dp, fr, gd, un⟩ := A
  cases hh
  dsimp only at hdp hun
  first | have hd1 : dp + 1 ≤ _ := Nat.add_le_add_right hdp 1 | have hd1 : dp + 1 ≤ 850 := by omega | skip
  first | have hu3 : un + 3 ≤ _ := Nat.add_le_add_right hun 3 | have hu3 : un + 3 ≤ 7990 := by omega | skip
  have R0 := R
  simp only [StG] at R
  obtain ⟨t1, lv, c, ⟨ad, na, rfl, had⟩, hco⟩ := R
  refine wpAny_call (enterH (binds := [(nm "self", Value.ref im), (nm "s", Value.ref ad)]) (Mk.cells ⟨im, dx, cl, q1, q2, u1, u2⟩ sl t vs nc) X0 T0 hb hc (by k_is) (by k_is) (by show dp < 1000; omega) (by exact BindsTo.of_eq rfl) (by exact locs rfl) ?_ (by exact rfl) (by exact rfl) (by exact rfl) (by decide))
  intro g' L' h' eg FG' N' X' T'
  have hGg : G.sub (Mine.hG g') := fun a its n x => eg ▸ hide_sub hch a its n (hGs a its n x)
  have ht := isTup_base (hGg _ _ _ had)
  simp only [hgt, sz] at hdp hun hz
  first | have hd1 : dp + 1 ≤ 850 := u_one hdp (by omega) | skip
  first | have hu3 : un + 3 ≤ 7990 := Nat.le_of_add_le_add_right (b := 10) (u_one hun (by omega) : un + 13 ≤ 8000) | skip
  dsimp only [Mk.cells, Mk.dict] at N'
  (try dsimp only)
  (try k_fold)
  simp only [comp, nsl, Nat.add_zero] at hQ
  k_steps
  rename Fr _ _ _ _ => F9; rename News _ _ _ _ => N9
  show Q Value.none _
  refine hQ _ _ [_] (tups _) _ _ (kept_of eg F9) (cells_get N9 (by walk_at "MINE sub")) (fresh_tups eg N9 (cells3 (by k_mem) (by k_mem) (by k_mem))) ⟨⟨_, _, _, ⟨_, _, rfl, .inr (tups_mem.mpr ⟨by k_mem, rfl⟩)⟩, hco.mono orG_left⟩, trivial⟩

set_option maxHeartbeats 1600000 in
theorem make_set (n : Nat) : MSpec 182 (8 * hgt (.set n)) (.set n) := by
  intro prog w p loose mean mg mb b0 A s Q E M sl t vs nc v G X0 T0 hb hc hh hdp hun hz hGs R hQ
  have hne := Mk.ne hc
  have hch := cells_hide hc
  obtain ⟨im, dx, cl, q1, q2, u1, u2⟩ := M
  dsimp only at hne hc hQ hch ⊢
  obtain ⟨n1, n2, n3⟩ := hne
  replace n1 := neN n1; replace n2 := neN n2; replace n3 := neN n3
  obtain ⟨hA, dp, fr, gd, un⟩ := A
  cases hh
  dsimp only at hdp hun
  first | have hd1 : dp + 1 ≤ _ := Nat.add_le_add_right hdp 1 | have hd1 : dp + 1 ≤ 850 := by omega | skip
  first | have hu3 : un + 3 ≤ _ := Nat.add_le_add_right hun 3 | have hu3 : un + 3 ≤ 7990 := by omega | skip
  have R0 := R
  simp only [StG] at R
  obtain ⟨t1, lv, c, ⟨ad, na, rfl, had⟩, hco⟩ := R
  refine wpAny_call (enterH (binds := [(nm "self", Value.ref im), (nm "s", Value.ref ad)]) (Mk.cells ⟨im, dx, cl, q1, q2, u1, u2⟩ sl t vs nc) X0 T0 hb hc (by k_is) (by k_is) (by show dp < 1000; omega) (by exact BindsTo.of_eq rfl) (by exact locs rfl) ?_ (by exact rfl) (by exact rfl) (by exact rfl) (by decide))
  intro g' L' h' eg FG' N' X' T'
  have hGg : G.sub (Mine.hG g') := fun a its n x => eg ▸ hide_sub hch a its n (hGs a its n x)
  have ht := isTup_base (hGg _ _ _ had)
  simp only [hgt, sz] at hdp hun hz
  first | have hd1 : dp + 1 ≤ 850 := u_one hdp (by omega) | skip
  first | have hu3 : un + 3 ≤ 7990 := Nat.le_of_add_le_add_right (b := 10) (u_one hun (by omega) : un + 13 ≤ 8000) | skip
  dsimp only [Mk.cells, Mk.dict] at N'
  (try dsimp only)
  (try k_fold)
  k_steps
  rename Fr _ _ _ _ => F9; rename News _ _ _ _ => N9
  refine stop_out ?_
  refine m_call (assign_set n) F9 N9 X' T' (by walk_at "MINE out") (by walk_at "MINE out") (by walk_at "MINE out") rfl (by simp only [depth_deeper, hgt]; omega) (by simp only [Around.deeper_units, hgt]; omega) (by (try simp only [List.length_append, List.length_cons, List.length_nil]); (try simp only [sz]); omega) hGg R0 ?_
  intro h1 tk' ws nw t9 nc' F9 N9 hap hcls R9
  simp only [List.nil_append] at N9
  k_steps
  rename Fr _ _ _ _ => F9; rename News _ _ _ _ => N9
  show Q Value.none _
  refine hQ _ _ ws (tups _) _ _ (kept_of eg F9) (cells_get N9 (by walk_at "MINE sub")) (fresh_tups eg N9 (cells3 (by k_mem) (by k_mem) (by k_mem))) (R9.mono (orG_tups (by walk_at "MINE sub")))

set_option maxHeartbeats 1600000 in
theorem make_dis (k : Nat) : MSpec 182 (8 * hgt (.dis k)) (.dis k) := by
  intro prog w p loose mean mg mb b0 A s Q E M sl t vs nc v G X0 T0 hb hc hh hdp hun hz hGs R hQ
  have hne := Mk.ne hc
  have hch := cells_hide hc
  obtain ⟨im, dx, cl, q1, q2, u1, u2⟩ := M
  dsimp only at hne hc hQ hch ⊢
  obtain ⟨n1, n2, n3⟩ := hne
  replace n1 := neN n1; replace n2 := neN n2; replace n3 := neN n3
  obtain ⟨hA, dp, fr, gd, un⟩ := A
  cases hh
  dsimp only at hdp hun
  first | have hd1 : dp + 1 ≤ _ := Nat.add_le_add_right hdp 1 | have hd1 : dp + 1 ≤ 850 := by omega | skip
  first | have hu3 : un + 3 ≤ _ := Nat.add_le_add_right hun 3 | have hu3 : un + 3 ≤ 7990 := by omega | skip
  have R0 := R
  simp only [StG] at R
  obtain ⟨t1, t2, ad, na, rfl, had⟩ := R
  refine wpAny_call (enterH (binds := [(nm "self", Value.ref im), (nm "s", Value.ref ad)]) (Mk.cells ⟨im, dx, cl, q1, q2, u1, u2⟩ sl t vs nc) X0 T0 hb hc (by k_is) (by k_is) (by show dp < 1000; omega) (by exact BindsTo.of_eq rfl) (by exact locs rfl) ?_ (by exact rfl) (by exact rfl) (by exact rfl) (by decide))
  intro g' L' h' eg FG' N' X' T'
  have hGg : G.sub (Mine.hG g') := fun a its n x => eg ▸ hide_sub hch a its n (hGs a its n x)
  have ht := isTup_base (hGg _ _ _ had)
  simp only [hgt, sz] at hdp hun hz
  first | have hd1 : dp + 1 ≤ 850 := u_one hdp (by omega) | skip
  first | have hu3 : un + 3 ≤ 7990 := Nat.le_of_add_le_add_right (b := 10) (u_one hun (by omega) : un + 13 ≤ 8000) | skip
  dsimp only [Mk.cells, Mk.dict] at N'
  (try dsimp only)
  (try k_fold)
  simp only [comp, nsl, Nat.add_zero] at hQ
  k_steps
  rename Fr _ _ _ _ => F9; rename News _ _ _ _ => N9
  show Q Value.none _
  refine hQ _ _ [_] (tups _) _ _ (kept_of eg F9) (cells_get N9 (by walk_at "MINE sub")) (fresh_tups eg N9 (cells3 (by k_mem) (by k_mem) (by k_mem))) ⟨⟨_, _, _, _, rfl, .inl had⟩, trivial⟩

set_option maxHeartbeats 1600000 in
theorem branch1 (tt : Nat) (d : Sm) (H : MSpec 182 (8 * hgt d) d) : MSpec 112 (8 * hgt (.ite1 tt d) - 3) (.ite1 tt d) := by
  intro prog w p loose mean mg mb b0 A s Q E M sl t vs nc v G X0 T0 hb hc hh hdp hun hz hGs R hQ
  have hne := Mk.ne hc
  have hch := cells_hide hc
  obtain ⟨im, dx, cl, q1, q2, u1, u2⟩ := M
  dsimp only at hne hc hQ hch ⊢
  obtain ⟨n1, n2, n3⟩ := hne
  replace n1 := neN n1; replace n2 := neN n2; replace n3 := neN n3
  obtain ⟨hA, dp, fr, gd, un⟩ := A
  cases hh
  dsimp only at hdp hun
  first | have hd1 : dp + 1 ≤ _ := Nat.add_le_add_right hdp 1 | have hd1 : dp + 1 ≤ 850 := by omega | skip
  first | have hu3 : un + 3 ≤ _ := Nat.add_le_add_right hun 3 | have hu3 : un + 3 ≤ 7990 := by omega | skip
  have R0 := R
  simp only [StG] at R
  obtain ⟨t1, c, va, ⟨ad, na, rfl, had⟩, hco, ra⟩ := R
  refine wpAny_call (enterH (binds := [(nm "self", Value.ref im), (nm "s", Value.ref ad)]) (Mk.cells ⟨im, dx, cl, q1, q2, u1, u2⟩ sl t vs nc) X0 T0 hb hc (by k_is) (by k_is) (by show dp < 1000; omega) (by exact BindsTo.of_eq rfl) (by exact locs rfl) ?_ (by exact rfl) (by exact rfl) (by exact rfl) (by decide))
  intro g' L' h' eg FG' N' X' T'
  have hGg : G.sub (Mine.hG g') := fun a its n x => eg ▸ hide_sub hch a its n (hGs a its n x)
  have ht := isTup_base (hGg _ _ _ had)
  simp only [hgt, sz] at hdp hun hz
  first | have hd1 : dp + 1 ≤ 850 := u_one hdp (by omega) | skip
  first | have hu3 : un + 3 ≤ 7990 := Nat.le_of_add_le_add_right (b := 10) (u_one hun (by omega) : un + 13 ≤ 8000) | skip
  dsimp only [Mk.cells, Mk.dict] at N'
  (try dsimp only)
  (try k_fold)
  simp only [comp, nsl] at hQ
  k_steps
  rename Fr _ _ _ _ => F9; rename News _ _ _ _ => N9; rename _ = ((vs.length : Nat) : Int) => hk
  subst hk
  refine stop_out ?_
  refine m_call H F9 N9 X' T' (by walk_at "MINE out") (by walk_at "MINE out") (by walk_at "MINE out") rfl (by simp only [depth_deeper, hgt]; omega) (by simp only [Around.deeper_units, hgt]; omega) (by (try simp only [List.length_append, List.length_cons, List.length_nil]); (try simp only [sz]); omega) hGg ra ?_
  intro h1 tk' wa nwa t9 nc' F9 N9 hapA hclsA RA
  (try simp only [List.append_assoc, List.cons_append, List.nil_append] at N9)
  have hwa : wa.length = sz d := RA.length.trans (comp_length d _ _)
  k_steps
  rename Fr _ _ _ _ => F9; rename News _ _ _ _ => N9
  refine stop_out ?_
  refine aim3_call F9 N9 X' T' (by walk_at "MINE out") (by walk_at "MINE out") (by walk_at "MINE out") rfl (.inr (.inl rfl)) (by simp only [depth_deeper]; omega) (by simp only [Around.deeper_units]; omega) (by simp only [List.length_append, List.length_cons, List.length_nil]; omega) (get_mid _ _ _) (N9.get (by k_mem)) ?_
  intro h2 tk2 v9 nw2 t8 t9' F9 N9 hap2 hcls2 R2
  (try simp only [List.append_assoc, List.cons_append, List.nil_append] at N9)
  rw [set_mid] at N9
  simp only [List.length_append, List.length_cons, List.length_nil, Nat.zero_add] at R2 RA
  rw [hwa, show vs.length + (sz d + 1) = vs.length + 1 + sz d from by omega] at R2
  k_steps
  rename Fr _ _ _ _ => F9; rename News _ _ _ _ => N9
  show Q Value.none _
  refine hQ _ _ (v9 :: wa) (tups _) _ _ (kept_of eg F9) (cells_get N9 (by walk_at "MINE sub")) (fresh_tups eg N9 (cells3 (by k_mem) (by k_mem) (by k_mem))) ⟨⟨_, _, _, R2.mono (orG_new (by walk_at "MINE sub")), hco.mono orG_left⟩, ?_⟩
  exact RA.mono (orG_tups (by walk_at "MINE sub"))

set_option maxHeartbeats 1600000 in
theorem make_ite1 (tt : Nat) (d : Sm) (H : MSpec 182 (8 * hgt d) d) : MSpec 182 (8 * hgt (.ite1 tt d)) (.ite1 tt d) := by
  intro prog w p loose mean mg mb b0 A s Q E M sl t vs nc v G X0 T0 hb hc hh hdp hun hz hGs R hQ
  have hne := Mk.ne hc
  have hch := cells_hide hc
  obtain ⟨im, dx, cl, q1, q2, u1, u2⟩ := M
  dsimp only at hne hc hQ hch ⊢
  obtain ⟨n1, n2, n3⟩ := hne
  replace n1 := neN n1; replace n2 := neN n2; replace n3 := neN n3
  obtain ⟨hA, dp, fr, gd, un⟩ := A
  cases hh
  dsimp only at hdp hun
  first | have hd1 : dp + 1 ≤ _ := Nat.add_le_add_right hdp 1 | have hd1 : dp + 1 ≤ 850 := by omega | skip
  first | have hu3 : un + 3 ≤ _ := Nat.add_le_add_right hun 3 | have hu3 : un + 3 ≤ 7990 := by omega | skip
  have R0 := R
  simp only [StG] at R
  obtain ⟨t1, c, va, ⟨ad, na, rfl, had⟩, hco, ra⟩ := R
  refine wpAny_call (enterH (binds := [(nm "self", Value.ref im), (nm "s", Value.ref ad)]) (Mk.cells ⟨im, dx, cl, q1, q2, u1, u2⟩ sl t vs nc) X0 T0 hb hc (by k_is) (by k_is) (by show dp < 1000; omega) (by exact BindsTo.of_eq rfl) (by exact locs rfl) ?_ (by exact rfl) (by exact rfl) (by exact rfl) (by decide))
  intro g' L' h' eg FG' N' X' T'
  have hGg : G.sub (Mine.hG g') := fun a its n x => eg ▸ hide_sub hch a its n (hGs a its n x)
  have ht := isTup_base (hGg _ _ _ had)
  simp only [hgt, sz] at hdp hun hz
  first | have hd1 : dp + 1 ≤ 850 := u_one hdp (by omega) | skip
  first | have hu3 : un + 3 ≤ 7990 := Nat.le_of_add_le_add_right (b := 10) (u_one hun (by omega) : un + 13 ≤ 8000) | skip
  dsimp only [Mk.cells, Mk.dict] at N'
  (try dsimp only)
  (try k_fold)
  k_steps
  rename Fr _ _ _ _ => F9; rename News _ _ _ _ => N9
  refine stop_out ?_
  refine m_call (branch1 tt d H) F9 N9 X' T' (by walk_at "MINE out") (by walk_at "MINE out") (by walk_at "MINE out") rfl (by simp only [depth_deeper, hgt]; omega) (by simp only [Around.deeper_units, hgt]; omega) (by (try simp only [List.length_append, List.length_cons, List.length_nil]); (try simp only [sz]); omega) hGg R0 ?_
  intro h1 tk' ws nw t9 nc' F9 N9 hap hcls R9
  simp only [List.nil_append] at N9
  k_steps
  rename Fr _ _ _ _ => F9; rename News _ _ _ _ => N9
  show Q Value.none _
  refine hQ _ _ ws (tups _) _ _ (kept_of eg F9) (cells_get N9 (by walk_at "MINE sub")) (fresh_tups eg N9 (cells3 (by k_mem) (by k_mem) (by k_mem))) (R9.mono (orG_tups (by walk_at "MINE sub")))

set_option maxHeartbeats 1600000 in
theorem branch2 (tt : Nat) (d e : Sm) (H : MSpec 182 (8 * hgt d) d) (He : MSpec 182 (8 * hgt e) e) : MSpec 112 (8 * hgt (.ite2 tt d e) - 3) (.ite2 tt d e) := by
  intro prog w p loose mean mg mb b0 A s Q E M sl t vs nc v G X0 T0 hb hc hh hdp hun hz hGs R hQ
  have hne := Mk.ne hc
  have hch := cells_hide hc
  obtain ⟨im, dx, cl, q1, q2, u1, u2⟩ := M
  dsimp only at hne hc hQ hch ⊢
  obtain ⟨n1, n2, n3⟩ := hne
  replace n1 := neN n1; replace n2 := neN n2; replace n3 := neN n3
  obtain ⟨hA, dp, fr, gd, un⟩ := A
  cases hh
  dsimp only at hdp hun
  first | have hd1 : dp + 1 ≤ _ := Nat.add_le_add_right hdp 1 | have hd1 : dp + 1 ≤ 850 := by omega | skip
  first | have hu3 : un + 3 ≤ _ := Nat.add_le_add_right hun 3 | have hu3 : un + 3 ≤ 7990 := by omega | skip
  have R0 := R
  simp only [StG] at R
  obtain ⟨t1, c, va, vb, ⟨ad, na, rfl, had⟩, hco, ra, rb⟩ := R
  refine wpAny_call (enterH (binds := [(nm "self", Value.ref im), (nm "s", Value.ref ad)]) (Mk.cells ⟨im, dx, cl, q1, q2, u1, u2⟩ sl t vs nc) X0 T0 hb hc (by k_is) (by k_is) (by show dp < 1000; omega) (by exact BindsTo.of_eq rfl) (by exact locs rfl) ?_ (by exact rfl) (by exact rfl) (by exact rfl) (by decide))
  intro g' L' h' eg FG' N' X' T'
  have hGg : G.sub (Mine.hG g') := fun a its n x => eg ▸ hide_sub hch a its n (hGs a its n x)
  have ht := isTup_base (hGg _ _ _ had)
  simp only [hgt, sz] at hdp hun hz
  first | have hd1 : dp + 1 ≤ 850 := u_one hdp (by omega) | skip
  first | have hu3 : un + 3 ≤ 7990 := Nat.le_of_add_le_add_right (b := 10) (u_one hun (by omega) : un + 13 ≤ 8000) | skip
  dsimp only [Mk.cells, Mk.dict] at N'
  (try dsimp only)
  (try k_fold)
  simp only [comp, nsl] at hQ
  obtain ⟨bd, rfl⟩ := rb.ref
  k_steps
  rename Fr _ _ _ _ => F9; rename News _ _ _ _ => N9; rename _ = ((vs.length : Nat) : Int) => hk
  subst hk
  refine stop_out ?_
  refine m_call H F9 N9 X' T' (by walk_at "MINE out") (by walk_at "MINE out") (by walk_at "MINE out") rfl (by simp only [depth_deeper, hgt]; omega) (by simp only [Around.deeper_units, hgt]; omega) (by (try simp only [List.length_append, List.length_cons, List.length_nil]); (try simp only [sz]); omega) hGg ra ?_
  intro h1 tk' wa nwa t9 nc' F9 N9 hapA hclsA RA
  (try simp only [List.append_assoc, List.cons_append, List.nil_append] at N9)
  have hwa : wa.length = sz d := RA.length.trans (comp_length d _ _)
  k_steps
  rename Fr _ _ _ _ => F9; rename News _ _ _ _ => N9; rename _ = (((_ : Nat) + (_ : Nat) : Nat) : Int) => hk
  (try simp only [List.append_assoc, List.cons_append, List.nil_append] at N9)
  refine stop_out ?_
  refine aim3_call F9 N9 X' T' (by walk_at "MINE out") (by walk_at "MINE out") (by walk_at "MINE out") rfl (.inr (.inl rfl)) (by simp only [depth_deeper]; omega) (by simp only [Around.deeper_units]; omega) (by simp only [List.length_append, List.length_cons, List.length_nil]; omega) (get_mid _ _ _) (N9.get (by k_mem)) ?_
  intro h2 tk2 v9 nw2 t8 t9' F9 N9 hap2 hcls2 R2
  (try simp only [List.append_assoc, List.cons_append, List.nil_append] at N9)
  rw [set_mid] at N9
  simp only [List.length_append, List.length_cons, List.length_nil, Nat.zero_add] at R2 RA
  rw [hwa, show vs.length + (sz d + 1 + 1) = vs.length + 1 + sz d + 1 from by omega] at R2
  k_steps
  rename Fr _ _ _ _ => F9; rename News _ _ _ _ => N9
  refine stop_out ?_
  refine m_call He F9 N9 X' T' (by walk_at "MINE out") (by walk_at "MINE out") (by walk_at "MINE out") rfl (by simp only [depth_deeper, hgt]; omega) (by simp only [Around.deeper_units, hgt]; omega) (by (try simp only [List.length_append, List.length_cons, List.length_nil]); (try simp only [sz]); omega) hGg rb ?_
  intro h3 tk3 wb nwb t9b ncb F9 N9 hapB hclsB RB
  simp only [List.length_append, List.length_cons, List.length_nil, Nat.zero_add] at RB
  rw [hwa, show vs.length + (sz d + 1 + 1) = vs.length + 1 + sz d + 1 from by omega] at RB
  have hwb : wb.length = sz e := RB.length.trans (comp_length e _ _)
  k_steps
  rename Fr _ _ _ _ => F9; rename News _ _ _ _ => N9
  refine stop_out ?_
  have hk2 := hk.trans (show _ = (((vs ++ v9 :: wa).length : Nat) : Int) by simp only [List.length_append, List.length_cons])
  subst hk2
  rw [reassoc] at N9
  refine aim2_call F9 N9 X' T' (by walk_at "MINE out") (by walk_at "MINE out") (by walk_at "MINE out") rfl  (by simp only [depth_deeper]; omega) (by simp only [Around.deeper_units]; omega) (by simp only [List.length_append, List.length_cons, List.length_nil]; omega) (get_mid _ _ _) (N9.get (by k_mem)) ?_
  intro h4 tk4 v8 nw4 t6 t7 F9 N9 hap4 hcls4 R4
  (try simp only [List.append_assoc, List.cons_append, List.nil_append] at N9)
  rw [← List.cons_append, ← List.append_assoc, set_mid] at N9
  simp only [List.length_append, List.length_cons, List.length_nil, Nat.zero_add] at R4
  rw [hwa, hwb, show vs.length + (sz d + 1) + (sz e + 1) = vs.length + 1 + sz d + 1 + sz e from by omega] at R4
  k_steps
  rename Fr _ _ _ _ => F9; rename News _ _ _ _ => N9
  show Q Value.none _
  rw [List.append_assoc, List.cons_append] at N9
  rw [Nat.add_assoc] at N9
  refine hQ _ _ (v9 :: (wa ++ v8 :: wb)) (tups _) _ _ (kept_of eg F9) (cells_get N9 (by walk_at "MINE sub")) (fresh_tups eg N9 (cells3 (by k_mem) (by k_mem) (by k_mem))) ⟨⟨_, _, _, R2.mono (orG_new (by walk_at "MINE sub")), hco.mono orG_left⟩, RwsG.append (RA.mono (orG_tups (by walk_at "MINE sub"))) ⟨⟨_, _, R4.mono (orG_new (by walk_at "MINE sub"))⟩, RB.mono (orG_tups (by walk_at "MINE sub"))⟩⟩


set_option maxHeartbeats 1600000 in
theorem make_ite2 (tt : Nat) (d e : Sm) (H : MSpec 182 (8 * hgt d) d) (He : MSpec 182 (8 * hgt e) e) : MSpec 182 (8 * hgt (.ite2 tt d e)) (.ite2 tt d e) := by
  intro prog w p loose mean mg mb b0 A s Q E M sl t vs nc v G X0 T0 hb hc hh hdp hun hz hGs R hQ
  have hne := Mk.ne hc
  have hch := cells_hide hc
  obtain ⟨im, dx, cl, q1, q2, u1, u2⟩ := M
  dsimp only at hne hc hQ hch ⊢
  obtain ⟨n1, n2, n3⟩ := hne
  replace n1 := neN n1; replace n2 := neN n2; replace n3 := neN n3
  obtain ⟨hA, dp, fr, gd, un⟩ := A
  cases hh
  dsimp only at hdp hun
  first | have hd1 : dp + 1 ≤ _ := Nat.add_le_add_right hdp 1 | have hd1 : dp + 1 ≤ 850 := by omega | skip
  first | have hu3 : un + 3 ≤ _ := Nat.add_le_add_right hun 3 | have hu3 : un + 3 ≤ 7990 := by omega | skip
  have R0 := R
  simp only [StG] at R
  obtain ⟨t1, c, va, vb, ⟨ad, na, rfl, had⟩, hco, ra, rb⟩ := R
  refine wpAny_call (enterH (binds := [(nm "self", Value.ref im), (nm "s", Value.ref ad)]) (Mk.cells ⟨im, dx, cl, q1, q2, u1, u2⟩ sl t vs nc) X0 T0 hb hc (by k_is) (by k_is) (by show dp < 1000; omega) (by exact BindsTo.of_eq rfl) (by exact locs rfl) ?_ (by exact rfl) (by exact rfl) (by exact rfl) (by decide))
  intro g' L' h' eg FG' N' X' T'
  have hGg : G.sub (Mine.hG g') := fun a its n x => eg ▸ hide_sub hch a its n (hGs a its n x)
  have ht := isTup_base (hGg _ _ _ had)
  simp only [hgt, sz] at hdp hun hz
  first | have hd1 : dp + 1 ≤ 850 := u_one hdp (by omega) | skip
  first | have hu3 : un + 3 ≤ 7990 := Nat.le_of_add_le_add_right (b := 10) (u_one hun (by omega) : un + 13 ≤ 8000) | skip
  dsimp only [Mk.cells, Mk.dict] at N'
  (try dsimp only)
  (try k_fold)
  k_steps
  rename Fr _ _ _ _ => F9; rename News _ _ _ _ => N9
  refine stop_out ?_
  refine m_call (branch2 tt d e H He) F9 N9 X' T' (by walk_at "MINE out") (by walk_at "MINE out") (by walk_at "MINE out") rfl (by simp only [depth_deeper, hgt]; omega) (by simp only [Around.deeper_units, hgt]; omega) (by (try simp only [List.length_append, List.length_cons, List.length_nil]); (try simp only [sz]); omega) hGg R0 ?_
  intro h1 tk' ws nw t9 nc' F9 N9 hap hcls R9
  simp only [List.nil_append] at N9
  k_steps
  rename Fr _ _ _ _ => F9; rename News _ _ _ _ => N9
  show Q Value.none _
  refine hQ _ _ ws (tups _) _ _ (kept_of eg F9) (cells_get N9 (by walk_at "MINE sub")) (fresh_tups eg N9 (cells3 (by k_mem) (by k_mem) (by k_mem))) (R9.mono (orG_tups (by walk_at "MINE sub")))

set_option maxHeartbeats 1600000 in
theorem repet (cc : Nat) (d : Sm) (H : MSpec 182 (8 * hgt d) d) : MSpec 133 (8 * hgt (.rep cc d) - 5) (.rep cc d) := by
  intro prog w p loose mean mg mb b0 A s Q E M sl t vs nc v G X0 T0 hb hc hh hdp hun hz hGs R hQ
  have hne := Mk.ne hc
  have hch := cells_hide hc
  obtain ⟨im, dx, cl, q1, q2, u1, u2⟩ := M
  dsimp only at hne hc hQ hch ⊢
  obtain ⟨n1, n2, n3⟩ := hne
  replace n1 := neN n1; replace n2 := neN n2; replace n3 := neN n3
  obtain ⟨hA, dp, fr, gd, un⟩ := A
  cases hh
  dsimp only at hdp hun
  first | have hd1 : dp + 1 ≤ _ := Nat.add_le_add_right hdp 1 | have hd1 : dp + 1 ≤ 850 := by omega | skip
  first | have hu3 : un + 3 ≤ _ := Nat.add_le_add_right hun 3 | have hu3 : un + 3 ≤ 7990 := by omega | skip
  have R0 := R
  simp only [StG] at R
  obtain ⟨t1, vc, vb, ⟨ad, na, rfl, had⟩, hco, rb⟩ := R
  refine wpAny_call (enterH (binds := [(nm "self", Value.ref im), (nm "s", Value.ref ad)]) (Mk.cells ⟨im, dx, cl, q1, q2, u1, u2⟩ sl t vs nc) X0 T0 hb hc (by k_is) (by k_is) (by show dp < 1000; omega) (by exact BindsTo.of_eq rfl) (by exact locs rfl) ?_ (by exact rfl) (by exact rfl) (by exact rfl) (by decide))
  intro g' L' h' eg FG' N' X' T'
  have hGg : G.sub (Mine.hG g') := fun a its n x => eg ▸ hide_sub hch a its n (hGs a its n x)
  have ht := isTup_base (hGg _ _ _ had)
  simp only [hgt, sz] at hdp hun hz
  first | have hd1 : dp + 1 ≤ 850 := u_one hdp (by omega) | skip
  first | have hu3 : un + 3 ≤ 7990 := Nat.le_of_add_le_add_right (b := 10) (u_one hun (by omega) : un + 13 ≤ 8000) | skip
  dsimp only [Mk.cells, Mk.dict] at N'
  (try dsimp only)
  (try k_fold)
  simp only [comp, nsl] at hQ
  k_steps
  rename Fr _ _ _ _ => F9; rename News _ _ _ _ => N9; rename _ = ((vs.length + (0 + 1) : Nat) : Int) => hk
  replace hk := hk.trans (show _ = ((vs.length + 1 : Nat) : Int) by rw [Nat.zero_add])
  subst hk
  (try simp only [List.append_assoc, List.cons_append, List.nil_append] at N9)
  refine stop_out ?_
  refine m_call H F9 N9 X' T' (by walk_at "MINE out") (by walk_at "MINE out") (by walk_at "MINE out") rfl (by simp only [depth_deeper, hgt]; omega) (by simp only [Around.deeper_units, hgt]; omega) (by (try simp only [List.length_append, List.length_cons, List.length_nil]); (try simp only [sz]); omega) hGg rb ?_
  intro h1 tk' wa nwa t9 nc' F9 N9 hapA hclsA RA
  (try simp only [List.append_assoc, List.cons_append, List.nil_append] at N9)
  have hwa : wa.length = sz d := RA.length.trans (comp_length d _ _)
  simp only [List.length_append, List.length_cons, List.length_nil, Nat.zero_add] at RA
  k_steps
  rename Fr _ _ _ _ => F9; rename News _ _ _ _ => N9
  (try simp only [List.append_assoc, List.cons_append, List.nil_append] at N9)
  refine stop_out ?_
  refine aim3_call F9 N9 X' T' (by walk_at "MINE out") (by walk_at "MINE out") (by walk_at "MINE out") rfl (.inr (.inr rfl)) (by simp only [depth_deeper]; omega) (by simp only [Around.deeper_units]; omega) (by simp only [List.length_append, List.length_cons, List.length_nil]; omega) (get_mid1 _ _ _ _) (N9.get (by k_mem)) ?_
  intro h2 tk2 v9 nw2 t8 t9' F9 N9 hap2 hcls2 R2
  (try simp only [List.append_assoc, List.cons_append, List.nil_append] at N9)
  rw [set_mid1] at N9
  simp only [List.length_append, List.length_cons, List.length_nil, Nat.zero_add] at R2
  rw [hwa, show vs.length + (sz d + 1 + 1 + 1) = vs.length + 2 + sz d + 1 from by omega] at R2
  k_steps
  rename Fr _ _ _ _ => F9; rename News _ _ _ _ => N9
  show Q Value.none _
  rw [Nat.add_assoc] at N9
  refine hQ _ _ (_ :: v9 :: (wa ++ [_])) (tups _) _ _ (kept_of eg F9) (cells_get N9 (by walk_at "MINE sub")) (fresh_tups eg N9 (cells3 (by k_mem) (by k_mem) (by k_mem))) ⟨⟨_, _, _, ⟨_, _, rfl, .inr (tups_mem.mpr ⟨by k_mem, rfl⟩)⟩, hco.mono orG_left⟩, ⟨_, _, _, R2.mono (orG_new (by walk_at "MINE sub"))⟩, RwsG.append (RA.mono (orG_tups (by walk_at "MINE sub"))) ⟨⟨_, _, ⟨_, _, rfl, .inr (tups_mem.mpr ⟨by k_mem, rfl⟩)⟩⟩, trivial⟩⟩


set_option maxHeartbeats 1600000 in
theorem looping_rep (cc : Nat) (d : Sm) (H : MSpec 182 (8 * hgt d) d) : MSpec 175 (8 * hgt (.rep cc d) - 3) (.rep cc d) := by
  intro prog w p loose mean mg mb b0 A s Q E M sl t vs nc v G X0 T0 hb hc hh hdp hun hz hGs R hQ
  have hne := Mk.ne hc
  have hch := cells_hide hc
  obtain ⟨im, dx, cl, q1, q2, u1, u2⟩ := M
  dsimp only at hne hc hQ hch ⊢
  obtain ⟨n1, n2, n3⟩ := hne
  replace n1 := neN n1; replace n2 := neN n2; replace n3 := neN n3
  obtain ⟨hA, dp, fr, gd, un⟩ := A
  cases hh
  dsimp only at hdp hun
  first | have hd1 : dp + 1 ≤ _ := Nat.add_le_add_right hdp 1 | have hd1 : dp + 1 ≤ 850 := by omega | skip
  first | have hu3 : un + 3 ≤ _ := Nat.add_le_add_right hun 3 | have hu3 : un + 3 ≤ 7990 := by omega | skip
  have R0 := R
  simp only [StG] at R
  obtain ⟨t1, vc, vb, ⟨ad, na, rfl, had⟩, hco, rb⟩ := R
  refine wpAny_call (enterH (binds := [(nm "self", Value.ref im), (nm "s", Value.ref ad)]) (Mk.cells ⟨im, dx, cl, q1, q2, u1, u2⟩ sl t vs nc) X0 T0 hb hc (by k_is) (by k_is) (by show dp < 1000; omega) (by exact BindsTo.of_eq rfl) (by exact locs rfl) ?_ (by exact rfl) (by exact rfl) (by exact rfl) (by decide))
  intro g' L' h' eg FG' N' X' T'
  have hGg : G.sub (Mine.hG g') := fun a its n x => eg ▸ hide_sub hch a its n (hGs a its n x)
  have ht := isTup_base (hGg _ _ _ had)
  simp only [hgt, sz] at hdp hun hz
  first | have hd1 : dp + 1 ≤ 850 := u_one hdp (by omega) | skip
  first | have hu3 : un + 3 ≤ 7990 := Nat.le_of_add_le_add_right (b := 10) (u_one hun (by omega) : un + 13 ≤ 8000) | skip
  dsimp only [Mk.cells, Mk.dict] at N'
  (try dsimp only)
  (try k_fold)
  k_steps
  rename Fr _ _ _ _ => F9; rename News _ _ _ _ => N9
  refine stop_out ?_
  refine m_call (repet cc d H) F9 N9 X' T' (by walk_at "MINE out") (by walk_at "MINE out") (by walk_at "MINE out") rfl (by simp only [depth_deeper, hgt]; omega) (by simp only [Around.deeper_units, hgt]; omega) (by (try simp only [List.length_append, List.length_cons, List.length_nil]); (try simp only [sz]); omega) hGg R0 ?_
  intro h1 tk' ws nw t9 nc' F9 N9 hap hcls R9
  (try simp only [List.cons_append, List.nil_append] at N9)
  k_steps
  rename Fr _ _ _ _ => F9; rename News _ _ _ _ => N9
  show Q Value.none _
  refine hQ _ _ ws (tups _) _ _ (kept_of eg F9) (cells_get N9 (by walk_at "MINE sub")) (fresh_tups eg N9 (cells3 (by k_mem) (by k_mem) (by k_mem))) (R9.mono (orG_tups (by walk_at "MINE sub")))

set_option maxHeartbeats 1600000 in
theorem make_rep (cc : Nat) (d : Sm) (H : MSpec 182 (8 * hgt d) d) : MSpec 182 (8 * hgt (.rep cc d)) (.rep cc d) := by
  intro prog w p loose mean mg mb b0 A s Q E M sl t vs nc v G X0 T0 hb hc hh hdp hun hz hGs R hQ
  have hne := Mk.ne hc
  have hch := cells_hide hc
  obtain ⟨im, dx, cl, q1, q2, u1, u2⟩ := M
  dsimp only at hne hc hQ hch ⊢
  obtain ⟨n1, n2, n3⟩ := hne
  replace n1 := neN n1; replace n2 := neN n2; replace n3 := neN n3
  obtain ⟨hA, dp, fr, gd, un⟩ := A
  cases hh
  dsimp only at hdp hun
  first | have hd1 : dp + 1 ≤ _ := Nat.add_le_add_right hdp 1 | have hd1 : dp + 1 ≤ 850 := by omega | skip
  first | have hu3 : un + 3 ≤ _ := Nat.add_le_add_right hun 3 | have hu3 : un + 3 ≤ 7990 := by omega | skip
  have R0 := R
  simp only [StG] at R
  obtain ⟨t1, vc, vb, ⟨ad, na, rfl, had⟩, hco, rb⟩ := R
  refine wpAny_call (enterH (binds := [(nm "self", Value.ref im), (nm "s", Value.ref ad)]) (Mk.cells ⟨im, dx, cl, q1, q2, u1, u2⟩ sl t vs nc) X0 T0 hb hc (by k_is) (by k_is) (by show dp < 1000; omega) (by exact BindsTo.of_eq rfl) (by exact locs rfl) ?_ (by exact rfl) (by exact rfl) (by exact rfl) (by decide))
  intro g' L' h' eg FG' N' X' T'
  have hGg : G.sub (Mine.hG g') := fun a its n x => eg ▸ hide_sub hch a its n (hGs a its n x)
  have ht := isTup_base (hGg _ _ _ had)
  simp only [hgt, sz] at hdp hun hz
  first | have hd1 : dp + 1 ≤ 850 := u_one hdp (by omega) | skip
  first | have hu3 : un + 3 ≤ 7990 := Nat.le_of_add_le_add_right (b := 10) (u_one hun (by omega) : un + 13 ≤ 8000) | skip
  dsimp only [Mk.cells, Mk.dict] at N'
  (try dsimp only)
  (try k_fold)
  k_steps
  rename Fr _ _ _ _ => F9; rename News _ _ _ _ => N9
  refine stop_out ?_
  refine m_call (looping_rep cc d H) F9 N9 X' T' (by walk_at "MINE out") (by walk_at "MINE out") (by walk_at "MINE out") rfl (by simp only [depth_deeper, hgt]; omega) (by simp only [Around.deeper_units, hgt]; omega) (by (try simp only [List.length_append, List.length_cons, List.length_nil]); (try simp only [sz]); omega) hGg R0 ?_
  intro h1 tk' ws nw t9 nc' F9 N9 hap hcls R9
  (try simp only [List.cons_append, List.nil_append] at N9)
  k_steps
  rename Fr _ _ _ _ => F9; rename News _ _ _ _ => N9
  show Q Value.none _
  refine hQ _ _ ws (tups _) _ _ (kept_of eg F9) (cells_get N9 (by walk_at "MINE sub")) (fresh_tups eg N9 (cells3 (by k_mem) (by k_mem) (by k_mem))) (R9.mono (orG_tups (by walk_at "MINE sub")))
section scopes
variable {prog : Program} {w : World} {p : Program} {loose : List Str} {mean : ExcName → Option Value} {mg mb : Str → Option Value} {b0 : Heap} {A : Around} {s : Shared} {Q : Value → Shared → Prop} {E : Value → Shared → Prop} {M : Mk} {sl : Nat} {t : Tok} {vs : List Value} {nc : Nat}

set_option maxHeartbeats 1600000 in
theorem scoped_pos {k : Nat} {tk : Tok} (X0 : (Mine.hd.heap_1 w.params).In b0) (T0 : Top p loose mean mg mb b0) (hb : b0.StaysIn s.heap) (hc : Cells b0 s.heap (M.cells sl t vs nc))
    (hh : A.handled = none) (hdp : A.depth ≤ 880) (hun : A.units ≤ 7990) (hz : vs.length ≤ 4900)
    (hQ : ∀ h' tk' t1 v0 nw t8 t9 t7 j, j = (vs.length : Int) → Kept M.adr s.heap h' → (∀ c ∈ M.cells sl t (vs ++ [v0]) (nc + 1), h'.get? c.1 = some c.2) → Fresh s.heap h' nw → TpG (lG nw) v0 [.str (nm "enter") t8, .int k t9, .int (-1) t7] → Q (.int j t1) { s with heap := h', toks := tk' }) :
    wpAny (model prog w) A (call (.ref 140) [.ref M.im, .int k tk]) Q E s := by
  have hne := Mk.ne hc
  have hch := cells_hide hc
  obtain ⟨im, dx, cl, q1, q2, u1, u2⟩ := M
  dsimp only at hne hc hQ hch ⊢
  obtain ⟨n1, n2, n3⟩ := hne
  replace n1 := neN n1; replace n2 := neN n2; replace n3 := neN n3
  obtain ⟨hA, dp, fr, gd, un⟩ := A
  cases hh
  dsimp only at hdp hun
  first | have hd1 : dp + 1 ≤ _ := Nat.add_le_add_right hdp 1 | have hd1 : dp + 1 ≤ 850 := by omega | skip
  first | have hu3 : un + 3 ≤ _ := Nat.add_le_add_right hun 3 | have hu3 : un + 3 ≤ 7990 := by omega | skip
  refine wpAny_call (enterH (binds := [(nm "self", Value.ref im), (nm "scope", Value.int k tk)]) (Mk.cells ⟨im, dx, cl, q1, q2, u1, u2⟩ sl t vs nc) X0 T0 hb hc (by k_is) (by k_is) (by show dp < 1000; omega) (by exact BindsTo.of_eq rfl) (by exact locs rfl) ?_ (by exact rfl) (by exact rfl) (by exact rfl) (by decide))
  intro g' L' h' eg FG' N' X' T'
  dsimp only [Mk.cells, Mk.dict] at N'
  (try dsimp only)
  (try k_fold)
  k_steps
  all_goals (
    rename Fr _ _ _ _ => F9; rename News _ _ _ _ => N9
    first
      | (exfalso; omega)
      | refine hQ _ _ _ _ (tups _) _ _ _ _ (by assumption) (kept_of eg F9) (cells_get N9 (by walk_at "MINE sub")) (fresh_tups eg N9 (cells3 (by k_mem) (by k_mem) (by k_mem))) (TpG.mono tups_sub ⟨_, _, rfl, by k_mem⟩))

set_option maxHeartbeats 1600000 in
theorem scoped_neg {tk : Tok} (X0 : (Mine.hd.heap_1 w.params).In b0) (T0 : Top p loose mean mg mb b0) (hb : b0.StaysIn s.heap) (hc : Cells b0 s.heap (M.cells sl t vs nc))
    (hh : A.handled = none) (hdp : A.depth ≤ 880) (hun : A.units ≤ 7990) (hz : vs.length ≤ 4900)
    (hQ : ∀ h' tk' t1, Kept M.adr s.heap h' → (∀ c ∈ M.cells sl t vs nc, h'.get? c.1 = some c.2) → Q (.int (-1) t1) { s with heap := h', toks := tk' }) :
    wpAny (model prog w) A (call (.ref 140) [.ref M.im, .int (-1) tk]) Q E s := by
  have hne := Mk.ne hc
  have hch := cells_hide hc
  obtain ⟨im, dx, cl, q1, q2, u1, u2⟩ := M
  dsimp only at hne hc hQ hch ⊢
  obtain ⟨n1, n2, n3⟩ := hne
  replace n1 := neN n1; replace n2 := neN n2; replace n3 := neN n3
  obtain ⟨hA, dp, fr, gd, un⟩ := A
  cases hh
  dsimp only at hdp hun
  first | have hd1 : dp + 1 ≤ _ := Nat.add_le_add_right hdp 1 | have hd1 : dp + 1 ≤ 850 := by omega | skip
  first | have hu3 : un + 3 ≤ _ := Nat.add_le_add_right hun 3 | have hu3 : un + 3 ≤ 7990 := by omega | skip
  refine wpAny_call (enterH (binds := [(nm "self", Value.ref im), (nm "scope", Value.int (-1) tk)]) (Mk.cells ⟨im, dx, cl, q1, q2, u1, u2⟩ sl t vs nc) X0 T0 hb hc (by k_is) (by k_is) (by show dp < 1000; omega) (by exact BindsTo.of_eq rfl) (by exact locs rfl) ?_ (by exact rfl) (by exact rfl) (by exact rfl) (by decide))
  intro g' L' h' eg FG' N' X' T'
  dsimp only [Mk.cells, Mk.dict] at N'
  (try dsimp only)
  (try k_fold)
  k_steps
  show Q _ _
  exact hQ _ _ _ (kept_of eg FG') (cells_get N' (by walk_at "MINE sub"))

set_option maxHeartbeats 1600000 in
theorem close_neg {k : Int} {tk ta : Tok} (X0 : (Mine.hd.heap_1 w.params).In b0) (T0 : Top p loose mean mg mb b0) (hb : b0.StaysIn s.heap) (hc : Cells b0 s.heap (M.cells sl t vs nc))
    (hh : A.handled = none) (hdp : A.depth ≤ 880) (hun : A.units ≤ 7990) (hz : vs.length ≤ 4900)
    (hQ : ∀ h' tk', Kept M.adr s.heap h' → (∀ c ∈ M.cells sl t vs nc, h'.get? c.1 = some c.2) → Q .none { s with heap := h', toks := tk' }) :
    wpAny (model prog w) A (call (.ref 147) [.ref M.im, .int (-1) ta, .int k tk]) Q E s := by
  have hne := Mk.ne hc
  have hch := cells_hide hc
  obtain ⟨im, dx, cl, q1, q2, u1, u2⟩ := M
  dsimp only at hne hc hQ hch ⊢
  obtain ⟨n1, n2, n3⟩ := hne
  replace n1 := neN n1; replace n2 := neN n2; replace n3 := neN n3
  obtain ⟨hA, dp, fr, gd, un⟩ := A
  cases hh
  dsimp only at hdp hun
  first | have hd1 : dp + 1 ≤ _ := Nat.add_le_add_right hdp 1 | have hd1 : dp + 1 ≤ 850 := by omega | skip
  first | have hu3 : un + 3 ≤ _ := Nat.add_le_add_right hun 3 | have hu3 : un + 3 ≤ 7990 := by omega | skip
  refine wpAny_call (enterH (binds := [(nm "self", Value.ref im), (nm "address", Value.int (-1) ta), (nm "scope", Value.int k tk)]) (Mk.cells ⟨im, dx, cl, q1, q2, u1, u2⟩ sl t vs nc) X0 T0 hb hc (by k_is) (by k_is) (by show dp < 1000; omega) (by exact BindsTo.of_eq rfl) (by exact locs rfl) ?_ (by exact rfl) (by exact rfl) (by exact rfl) (by decide))
  intro g' L' h' eg FG' N' X' T'
  dsimp only [Mk.cells, Mk.dict] at N'
  (try dsimp only)
  (try k_fold)
  k_steps
  show Q Value.none _
  exact hQ _ _ (kept_of eg FG') (cells_get N' (by walk_at "MINE sub"))

set_option maxHeartbeats 1600000 in
theorem close_pos {k : Int} {a : Nat} {tk ta tg ty : Tok} {r : Nat} {n : Nat} {x : Value} {y : Int} (X0 : (Mine.hd.heap_1 w.params).In b0) (T0 : Top p loose mean mg mb b0) (hb : b0.StaysIn s.heap) (hc : Cells b0 s.heap (M.cells sl t vs nc))
    (hh : A.handled = none) (hdp : A.depth ≤ 880) (hun : A.units ≤ 7990) (hz : vs.length ≤ 4900) (ha : vs[a]? = some (.ref r)) (hr : s.heap.get? r = some (tpO [.str (nm "enter") tg, x, .int y ty] n))
    (hQ : ∀ h' tk' v8 v9 nw t1 t2 t8 t9 nc', Kept M.adr s.heap h' → (∀ c ∈ M.cells sl t ((vs.set a v9) ++ [v8]) nc', h'.get? c.1 = some c.2) → Fresh s.heap h' nw → TpG (lG nw) v9 [.str (nm "enter") t8, x, .int (vs.length + 1 : Nat) t9] → TpG (lG nw) v8 [.str (nm "leave") t1, .int k t2] → Q .none { s with heap := h', toks := tk' }) :
    wpAny (model prog w) A (call (.ref 147) [.ref M.im, .int a ta, .int k tk]) Q E s := by
  have hro := cells_off hc hr
  have hal : a < vs.length := (List.getElem?_eq_some_iff.mp ha).1
  have hne := Mk.ne hc
  have hch := cells_hide hc
  obtain ⟨im, dx, cl, q1, q2, u1, u2⟩ := M
  dsimp only at hne hc hQ hch ⊢
  obtain ⟨n1, n2, n3⟩ := hne
  replace n1 := neN n1; replace n2 := neN n2; replace n3 := neN n3
  obtain ⟨hA, dp, fr, gd, un⟩ := A
  cases hh
  dsimp only at hdp hun
  first | have hd1 : dp + 1 ≤ _ := Nat.add_le_add_right hdp 1 | have hd1 : dp + 1 ≤ 850 := by omega | skip
  first | have hu3 : un + 3 ≤ _ := Nat.add_le_add_right hun 3 | have hu3 : un + 3 ≤ 7990 := by omega | skip
  refine wpAny_call (enterH (binds := [(nm "self", Value.ref im), (nm "address", Value.int a ta), (nm "scope", Value.int k tk)]) (Mk.cells ⟨im, dx, cl, q1, q2, u1, u2⟩ sl t vs nc) X0 T0 hb hc (by k_is) (by k_is) (by show dp < 1000; omega) (by exact BindsTo.of_eq rfl) (by exact locs rfl) ?_ (by exact rfl) (by exact rfl) (by exact rfl) (by decide))
  intro g' L' h' eg FG' N' X' T'
  have hr2 : g'.get? r = some (tpO [.str (nm "enter") tg, x, .int y ty] n) := by rw [eg]; exact hideAll_get _ hr hro
  dsimp only [Mk.cells, Mk.dict] at N'
  (try dsimp only)
  (try k_fold)
  k_steps
  all_goals (
    rename Fr _ _ _ _ => F9; rename News _ _ _ _ => N9
    first
      | (exfalso; omega)
      | skip)
  refine stop_out ?_
  refine aim3_call F9 N9 X' T' (by walk_at "MINE out") (by walk_at "MINE out") (by walk_at "MINE out") rfl (.inl rfl) (by simp only [depth_deeper]; omega) (by simp only [Around.deeper_units]; omega) (by simp only [List.length_append, List.length_cons, List.length_nil]; omega) (by rw [List.getElem?_append_left hal]; exact ha) (F9.keep _ _ hr2) ?_
  intro h2 tk2 v9 nw2 t8 t9' F9 N9 hap2 hcls2 R2
  (try simp only [List.append_assoc, List.cons_append, List.nil_append] at N9)
  rw [List.set_append_left _ _ hal] at N9
  simp only [List.length_append, List.length_cons, List.length_nil, Nat.zero_add] at R2
  k_steps
  rename Fr _ _ _ _ => F9; rename News _ _ _ _ => N9
  show Q Value.none _
  refine hQ _ _ _ _ (tups _) _ _ _ _ _ (kept_of eg F9) (cells_get N9 (by walk_at "MINE sub")) (fresh_tups eg N9 (cells3 (by k_mem) (by k_mem) (by k_mem))) (R2.mono (lG_tups (by walk_at "MINE sub"))) (TpG.mono tups_sub ⟨_, _, rfl, by k_mem⟩)


theorem scoped_call {h₀ : Heap} {L : Addr} {m : Str → Option Value} {news r1 r2 rest : List (Addr × Obj)} {im dx cl : Addr} {q1 q2 : Int} {t1 t2 : Tok} {k : Nat} {tk : Tok} (F : Fr h₀ L s.heap m) (N : News h₀ L s.heap news) (X0 : (Mine.hd.heap_1 w.params).In h₀) (T0 : Top p loose mean mg mb h₀)
    (U1 : Out im (instObj 185 dx) news r1) (U2 : Out dx (dictOf [⟨q1, .str (nm "slots") t1, .int sl t⟩, ⟨q2, .str (nm "code") t2, .ref cl⟩] 2) r1 r2) (U3 : Out cl (lsO vs nc) r2 rest)
    (hh : A.handled = none) (hdp : A.depth ≤ 880) (hun : A.units ≤ 7990) (hz : vs.length ≤ 4900)
    (hQ : ∀ h' tk' t9 v0 nw t8 t6 t7 j, j = (vs.length : Int) → Fr h₀ L h' m → News h₀ L h' ((im, instObj 185 dx) :: (dx, dictOf [⟨q1, .str (nm "slots") t1, .int sl t⟩, ⟨q2, .str (nm "code") t2, .ref cl⟩] 2) :: (cl, lsO (vs ++ [v0]) (nc + 1)) :: (rest ++ nw)) → Ap nw news → (∀ p ∈ nw, p.2.cls = .type "tuple") → TpG (lG nw) v0 [.str (nm "enter") t8, .int k t6, .int (-1) t7] → Q (.int j t9) { s with heap := h', toks := tk' }) :
    wpAny (model prog w) A (call (.ref 140) [.ref im, .int k tk]) Q E s :=
  scoped_pos (M := ⟨im, dx, cl, q1, q2, t1, t2⟩) X0 T0 F.keep (Mk.cellsOf N U1 U2 U3) hh hdp hun hz fun h' tk' t9 v0 nw t8 t6 t7 j hj K C W R => by
    have := Mk.back (M := ⟨im, dx, cl, q1, q2, t1, t2⟩) F N U1 U2 U3 K C W
    exact hQ h' tk' t9 v0 nw t8 t6 t7 j hj this.1 this.2 (W.ap N) (fun p hp => (W p hp).2.2) R
theorem scopedn_call {h₀ : Heap} {L : Addr} {m : Str → Option Value} {news r1 r2 rest : List (Addr × Obj)} {im dx cl : Addr} {q1 q2 : Int} {t1 t2 : Tok} {tk : Tok} (F : Fr h₀ L s.heap m) (N : News h₀ L s.heap news) (X0 : (Mine.hd.heap_1 w.params).In h₀) (T0 : Top p loose mean mg mb h₀)
    (U1 : Out im (instObj 185 dx) news r1) (U2 : Out dx (dictOf [⟨q1, .str (nm "slots") t1, .int sl t⟩, ⟨q2, .str (nm "code") t2, .ref cl⟩] 2) r1 r2) (U3 : Out cl (lsO vs nc) r2 rest)
    (hh : A.handled = none) (hdp : A.depth ≤ 880) (hun : A.units ≤ 7990) (hz : vs.length ≤ 4900)
    (hQ : ∀ h' tk' t9, Fr h₀ L h' m → News h₀ L h' ((im, instObj 185 dx) :: (dx, dictOf [⟨q1, .str (nm "slots") t1, .int sl t⟩, ⟨q2, .str (nm "code") t2, .ref cl⟩] 2) :: (cl, lsO vs nc) :: rest) → Q (.int (-1) t9) { s with heap := h', toks := tk' }) :
    wpAny (model prog w) A (call (.ref 140) [.ref im, .int (-1) tk]) Q E s :=
  scoped_neg (M := ⟨im, dx, cl, q1, q2, t1, t2⟩) X0 T0 F.keep (Mk.cellsOf N U1 U2 U3) hh hdp hun hz fun h' tk' t9 K C => by
    have := Mk.back (M := ⟨im, dx, cl, q1, q2, t1, t2⟩) (nw := []) F N U1 U2 U3 K C (fun _ h => nomatch h)
    rw [List.append_nil] at this
    exact hQ h' tk' t9 this.1 this.2
theorem closen_call {h₀ : Heap} {L : Addr} {m : Str → Option Value} {news r1 r2 rest : List (Addr × Obj)} {im dx cl : Addr} {q1 q2 : Int} {t1 t2 : Tok} {k : Int} {tk ta : Tok} (F : Fr h₀ L s.heap m) (N : News h₀ L s.heap news) (X0 : (Mine.hd.heap_1 w.params).In h₀) (T0 : Top p loose mean mg mb h₀)
    (U1 : Out im (instObj 185 dx) news r1) (U2 : Out dx (dictOf [⟨q1, .str (nm "slots") t1, .int sl t⟩, ⟨q2, .str (nm "code") t2, .ref cl⟩] 2) r1 r2) (U3 : Out cl (lsO vs nc) r2 rest)
    (hh : A.handled = none) (hdp : A.depth ≤ 880) (hun : A.units ≤ 7990) (hz : vs.length ≤ 4900)
    (hQ : ∀ h' tk', Fr h₀ L h' m → News h₀ L h' ((im, instObj 185 dx) :: (dx, dictOf [⟨q1, .str (nm "slots") t1, .int sl t⟩, ⟨q2, .str (nm "code") t2, .ref cl⟩] 2) :: (cl, lsO vs nc) :: rest) → Q .none { s with heap := h', toks := tk' }) :
    wpAny (model prog w) A (call (.ref 147) [.ref im, .int (-1) ta, .int k tk]) Q E s :=
  close_neg (M := ⟨im, dx, cl, q1, q2, t1, t2⟩) X0 T0 F.keep (Mk.cellsOf N U1 U2 U3) hh hdp hun hz fun h' tk' K C => by
    have := Mk.back (M := ⟨im, dx, cl, q1, q2, t1, t2⟩) (nw := []) F N U1 U2 U3 K C (fun _ h => nomatch h)
    rw [List.append_nil] at this
    exact hQ h' tk' this.1 this.2
theorem close_call {h₀ : Heap} {L : Addr} {m : Str → Option Value} {news r1 r2 rest : List (Addr × Obj)} {im dx cl : Addr} {q1 q2 : Int} {t1 t2 : Tok} {k : Int} {a : Nat} {tk ta tg ty : Tok} {r : Nat} {n : Nat} {x : Value} {y : Int} (F : Fr h₀ L s.heap m) (N : News h₀ L s.heap news) (X0 : (Mine.hd.heap_1 w.params).In h₀) (T0 : Top p loose mean mg mb h₀)
    (U1 : Out im (instObj 185 dx) news r1) (U2 : Out dx (dictOf [⟨q1, .str (nm "slots") t1, .int sl t⟩, ⟨q2, .str (nm "code") t2, .ref cl⟩] 2) r1 r2) (U3 : Out cl (lsO vs nc) r2 rest)
    (hh : A.handled = none) (hdp : A.depth ≤ 880) (hun : A.units ≤ 7990) (hz : vs.length ≤ 4900) (ha : vs[a]? = some (.ref r)) (hr : s.heap.get? r = some (tpO [.str (nm "enter") tg, x, .int y ty] n))
    (hQ : ∀ h' tk' v8 v9 nw t9 t6 t8 t7 nc', Fr h₀ L h' m → News h₀ L h' ((im, instObj 185 dx) :: (dx, dictOf [⟨q1, .str (nm "slots") t1, .int sl t⟩, ⟨q2, .str (nm "code") t2, .ref cl⟩] 2) :: (cl, lsO ((vs.set a v9) ++ [v8]) nc') :: (rest ++ nw)) → Ap nw news → (∀ p ∈ nw, p.2.cls = .type "tuple") → TpG (lG nw) v9 [.str (nm "enter") t8, x, .int (vs.length + 1 : Nat) t7] → TpG (lG nw) v8 [.str (nm "leave") t9, .int k t6] → Q .none { s with heap := h', toks := tk' }) :
    wpAny (model prog w) A (call (.ref 147) [.ref im, .int a ta, .int k tk]) Q E s :=
  close_pos (M := ⟨im, dx, cl, q1, q2, t1, t2⟩) X0 T0 F.keep (Mk.cellsOf N U1 U2 U3) hh hdp hun hz ha hr fun h' tk' v8 v9 nw t9 t6 t8 t7 nc' K C W R R' => by
    have := Mk.back (M := ⟨im, dx, cl, q1, q2, t1, t2⟩) F N U1 U2 U3 K C W
    exact hQ h' tk' v8 v9 nw t9 t6 t8 t7 nc' this.1 this.2 (W.ap N) (fun p hp => (W p hp).2.2) R R'
end scopes

set_option maxHeartbeats 1600000 in
theorem block_blk (l : List Sm) (k : Nat) (H : ∀ d ∈ l, MSpec 182 (8 * hgt d) d) : MSpec 154 (8 * hgt (.blk l k) - 3) (.blk l k) := by
  intro prog w p loose mean mg mb b0 A s Q E M sl t vs nc v G X0 T0 hb hc hh hdp hun hz hGs R hQ
  have hne := Mk.ne hc
  have hch := cells_hide hc
  obtain ⟨im, dx, cl, q1, q2, u1, u2⟩ := M
  dsimp only at hne hc hQ hch ⊢
  obtain ⟨n1, n2, n3⟩ := hne
  replace n1 := neN n1; replace n2 := neN n2; replace n3 := neN n3
  obtain ⟨hA, dp, fr, gd, un⟩ := A
  cases hh
  dsimp only at hdp hun
  first | have hd1 : dp + 1 ≤ _ := Nat.add_le_add_right hdp 1 | have hd1 : dp + 1 ≤ 850 := by omega | skip
  first | have hu3 : un + 3 ≤ _ := Nat.add_le_add_right hun 3 | have hu3 : un + 3 ≤ 7990 := by omega | skip
  have R0 := R
  simp only [StG] at R
  obtain ⟨t1, t2, vl, vsl, ⟨ad, na, rfl, had⟩, ⟨lad, nl, rfl, hlad⟩, rl⟩ := R
  refine wpAny_call (enterH (binds := [(nm "self", Value.ref im), (nm "s", Value.ref ad)]) (Mk.cells ⟨im, dx, cl, q1, q2, u1, u2⟩ sl t vs nc) X0 T0 hb hc (by k_is) (by k_is) (by show dp < 1000; omega) (by exact BindsTo.of_eq rfl) (by exact locs rfl) ?_ (by exact rfl) (by exact rfl) (by exact rfl) (by decide))
  intro g' L' h' eg FG' N' X' T'
  have hGg : G.sub (Mine.hG g') := fun a its n x => eg ▸ hide_sub hch a its n (hGs a its n x)
  have ht := isTup_base (hGg _ _ _ had)
  simp only [hgt, sz] at hdp hun hz
  first | have hd1 : dp + 1 ≤ 850 := u_one hdp (by omega) | skip
  first | have hu3 : un + 3 ≤ 7990 := Nat.le_of_add_le_add_right (b := 10) (u_one hun (by omega) : un + 13 ≤ 8000) | skip
  dsimp only [Mk.cells, Mk.dict] at N'
  (try dsimp only)
  (try k_fold)
  simp only [comp, nsl] at hQ
  k_steps
  rename Fr _ _ _ _ => F9; rename News _ _ _ _ => N9
  refine stop_out ?_
  refine scoped_call F9 N9 X' T' (by walk_at "MINE out") (by walk_at "MINE out") (by walk_at "MINE out") rfl (by simp only [depth_deeper]; omega) (by simp only [Around.deeper_units]; omega) (by omega) ?_
  intro h1 tk1 t9 v0 nw0 t8 t6 t7 j hj F9 N9 hap0 hcls0 R0'
  subst hj
  (try simp only [List.append_assoc, List.cons_append, List.nil_append] at N9)
  obtain ⟨r0, nr0, rfl, hr0⟩ := R0'
  k_steps
  rename Fr _ _ _ _ => F9; rename News _ _ _ _ => N9
  refine stop_out ?_
  refine For_invV g' rfl rfl ?_
  k_steps
  rename Fr _ _ _ _ => F9; rename News _ _ _ _ => N9
  refine stop_out ?_
  obtain ⟨n9, hvl⟩ : ∃ n, g'.get? lad = some (tpO vsl n) := ⟨_, hGg _ _ _ hlad⟩
  refine loop_tuple1 (fun i nx => ∃ ws nw t9 nc', nx = (im, instObj 185 dx) :: (dx, dictOf [⟨q1, .str (nm "slots") u1, .int (sl + nslL (l.take i) : Nat) t9⟩, ⟨q2, .str (nm "code") u2, .ref cl⟩] 2) :: (cl, lsO ((vs ++ [Value.ref r0]) ++ ws) nc') :: nw ∧ RwsG (orG G nw) ws (compL (l.take i) (vs.length + 1) sl) ∧ (∀ p ∈ nw, p.2.cls = .type "tuple") ∧ (r0, tpO [.str (nm "enter") t8, .int k t6, .int (-1) t7] nr0) ∈ nw ∧ Ap nw [(im, lsO [] 0), (dx, lsO [] 0), (cl, lsO [] 0)]) rfl ⟨n9, hvl⟩ F9 N9 ⟨[], nw0, t, nc + 1, by simp only [List.take_zero, nslL, Nat.add_zero, List.append_nil], by simp only [List.take_zero, compL]; exact trivial, hcls0, hr0, Ap.of3 (by k_all) (by k_all) (by k_all)⟩ ?_ ?_
  · intro i v nx h tk I io hi hJ hnI hio F9 N9
    (try k_fold)
    obtain ⟨ws, nw, t9, nc', rfl, RW, hcl, hr0, hap⟩ := hJ
    change Fr g' L' h _ at F9
    change News g' L' h _ at N9
    obtain ⟨d, hd, rd⟩ := rl.get i hi
    have hdl : d ∈ l := List.mem_of_getElem? hd
    have hi1 := neN (hnI _ (.head _)); have hi2 := neN (hnI _ (.tail _ (.head _))); have hi3 := neN (hnI _ (.tail _ (.tail _ (.head _))))
    dsimp only at hi1 hi2 hi3
    have hws : ws.length = szL (l.take i) := RW.length.trans (compL_length _ _ _)
    have hsz := szL_take' hd
    have hhg := hgtL_mem hdl
    k_steps
    rename Fr _ _ _ _ => F9; rename News _ _ _ _ => N9
    refine stop_out ?_
    refine m_call (H d hdl) F9 N9 X' T' (by walk_at "MINE out") (by walk_at "MINE out") (by walk_at "MINE out") rfl (by simp only [depth_deeper]; omega) (by simp only [Around.deeper_units]; omega) (by simp only [List.length_append, List.length_cons, List.length_nil, hws]; omega) hGg rd ?_
    intro h1 tk' wa nwa t9a nca F9 N9 hapA hclsA RA
    (try simp only [List.append_assoc, List.cons_append, List.nil_append] at N9)
    simp only [List.length_append, List.length_cons, List.length_nil, Nat.zero_add] at RA
    rw [hws] at RA
    k_steps
    rename Fr _ _ _ _ => F9; rename News _ _ _ _ => N9
    refine LpEnd.intro (nx := (im, instObj 185 dx) :: (dx, dictOf [⟨q1, .str (nm "slots") u1, .int (sl + nslL (l.take i) + nsl d : Nat) t9a⟩, ⟨q2, .str (nm "code") u2, .ref cl⟩] 2) :: (cl, lsO (vs ++ Value.ref r0 :: (ws ++ wa)) nca) :: (nw ++ nwa)) F9 N9 (by walk_at "MINE sub") ?_ ⟨fun z hz => if_neg hz, ws ++ wa, nw ++ nwa, t9a, nca, by simp [take_snoc' hd, nslL_snoc, Nat.add_assoc], ?_, all_app hcl hclsA, List.mem_append_left _ hr0, ?_⟩
    · exact List.forall_mem_cons.mpr ⟨hi1, List.forall_mem_cons.mpr ⟨hi2, List.forall_mem_cons.mpr ⟨hi3, all_app (fun p hp => hnI p (.tail _ (.tail _ (.tail _ hp)))) (hapA.ne (o := io) (by k_mem))⟩⟩⟩
    · rw [take_snoc' hd, compL_snoc]
      exact RwsG.append (RW.mono (orG_mono (by walk_at "MINE sub"))) (RA.mono (orG_mono (by walk_at "MINE sub")))
    · exact Ap.of3 (by k_all) (by k_all) (by k_all)
  · intro u nx h tk hJ F9 N9
    (try k_fold)
    obtain ⟨ws, nw, t9, nc', rfl, RW, hcl, hr0, hap⟩ := hJ
    change Fr g' L' h _ at F9
    change News g' L' h _ at N9
    have hlen : vsl.length = l.length := rl.length
    rw [hlen, List.take_length] at RW N9
    have hws : ws.length = szL l := RW.length.trans (compL_length _ _ _)
    (try simp only [List.append_assoc, List.cons_append, List.nil_append] at N9)
    k_steps
    rename Fr _ _ _ _ => F9; rename News _ _ _ _ => N9
    refine stop_out ?_
    refine close_call F9 N9 X' T' (by walk_at "MINE out") (by walk_at "MINE out") (by walk_at "MINE out") rfl (by simp only [depth_deeper]; omega) (by simp only [Around.deeper_units]; omega) (by simp only [List.length_append, List.length_cons, List.length_nil, hws]; omega) (get_mid _ _ _) (N9.get (List.mem_cons_of_mem _ (List.mem_cons_of_mem _ (List.mem_cons_of_mem _ hr0)))) ?_
    intro h2 tk2 v8 v9 nw2 t9' t6' t8' t7' nc2 F9 N9 hap2 hcls2 R9 R8
    (try simp only [List.append_assoc, List.cons_append, List.nil_append] at N9)
    rw [set_mid] at N9
    simp only [List.length_append, List.length_cons, List.length_nil, Nat.zero_add] at R9
    rw [hws, show vs.length + (szL l + 1) + 1 = vs.length + 1 + szL l + 1 from by omega] at R9
    k_steps
    rename Fr _ _ _ _ => F9; rename News _ _ _ _ => N9
    (try simp only [List.append_assoc, List.cons_append, List.nil_append] at N9)
    show Q Value.none _
    refine hQ _ _ (v9 :: (ws ++ [v8])) (tups _) _ _ (kept_of eg F9) (cells_get N9 (by walk_at "MINE sub")) (fresh_tups eg N9 (cells3 (by k_mem) (by k_mem) (by k_mem))) ⟨⟨_, _, _, R9.mono (orG_new (by walk_at "MINE sub"))⟩, RwsG.append (RW.mono (orG_tups (by walk_at "MINE sub"))) ⟨⟨_, _, R8.mono (orG_new (by walk_at "MINE sub"))⟩, trivial⟩⟩

set_option maxHeartbeats 1600000 in
theorem make_blk (l : List Sm) (k : Nat) (H : ∀ d ∈ l, MSpec 182 (8 * hgt d) d) : MSpec 182 (8 * hgt (.blk l k)) (.blk l k) := by
  intro prog w p loose mean mg mb b0 A s Q E M sl t vs nc v G X0 T0 hb hc hh hdp hun hz hGs R hQ
  have hne := Mk.ne hc
  have hch := cells_hide hc
  obtain ⟨im, dx, cl, q1, q2, u1, u2⟩ := M
  dsimp only at hne hc hQ hch ⊢
  obtain ⟨n1, n2, n3⟩ := hne
  replace n1 := neN n1; replace n2 := neN n2; replace n3 := neN n3
  obtain ⟨hA, dp, fr, gd, un⟩ := A
  cases hh
  dsimp only at hdp hun
  first | have hd1 : dp + 1 ≤ _ := Nat.add_le_add_right hdp 1 | have hd1 : dp + 1 ≤ 850 := by omega | skip
  first | have hu3 : un + 3 ≤ _ := Nat.add_le_add_right hun 3 | have hu3 : un + 3 ≤ 7990 := by omega | skip
  have R0 := R
  simp only [StG] at R
  obtain ⟨t1, t2, vl, vsl, ⟨ad, na, rfl, had⟩, hvl, rl⟩ := R
  refine wpAny_call (enterH (binds := [(nm "self", Value.ref im), (nm "s", Value.ref ad)]) (Mk.cells ⟨im, dx, cl, q1, q2, u1, u2⟩ sl t vs nc) X0 T0 hb hc (by k_is) (by k_is) (by show dp < 1000; omega) (by exact BindsTo.of_eq rfl) (by exact locs rfl) ?_ (by exact rfl) (by exact rfl) (by exact rfl) (by decide))
  intro g' L' h' eg FG' N' X' T'
  have hGg : G.sub (Mine.hG g') := fun a its n x => eg ▸ hide_sub hch a its n (hGs a its n x)
  have ht := isTup_base (hGg _ _ _ had)
  simp only [hgt, sz] at hdp hun hz
  first | have hd1 : dp + 1 ≤ 850 := u_one hdp (by omega) | skip
  first | have hu3 : un + 3 ≤ 7990 := Nat.le_of_add_le_add_right (b := 10) (u_one hun (by omega) : un + 13 ≤ 8000) | skip
  dsimp only [Mk.cells, Mk.dict] at N'
  (try dsimp only)
  (try k_fold)
  k_steps
  rename Fr _ _ _ _ => F9; rename News _ _ _ _ => N9
  refine stop_out ?_
  refine m_call (block_blk l k H) F9 N9 X' T' (by walk_at "MINE out") (by walk_at "MINE out") (by walk_at "MINE out") rfl (by simp only [depth_deeper, hgt]; omega) (by simp only [Around.deeper_units, hgt]; omega) (by (try simp only [List.length_append, List.length_cons, List.length_nil]); (try simp only [sz]); omega) hGg R0 ?_
  intro h1 tk' ws nw t9 nc' F9 N9 hap hcls R9
  simp only [List.nil_append] at N9
  k_steps
  rename Fr _ _ _ _ => F9; rename News _ _ _ _ => N9
  show Q Value.none _
  refine hQ _ _ ws (tups _) _ _ (kept_of eg F9) (cells_get N9 (by walk_at "MINE sub")) (fresh_tups eg N9 (cells3 (by k_mem) (by k_mem) (by k_mem))) (R9.mono (orG_tups (by walk_at "MINE sub")))

set_option maxHeartbeats 1600000 in
theorem block_seq (l : List Sm) (H : ∀ d ∈ l, MSpec 182 (8 * hgt d) d) : MSpec 154 (8 * hgt (.seq l) - 3) (.seq l) := by
  intro prog w p loose mean mg mb b0 A s Q E M sl t vs nc v G X0 T0 hb hc hh hdp hun hz hGs R hQ
  have hne := Mk.ne hc
  have hch := cells_hide hc
  obtain ⟨im, dx, cl, q1, q2, u1, u2⟩ := M
  dsimp only at hne hc hQ hch ⊢
  obtain ⟨n1, n2, n3⟩ := hne
  replace n1 := neN n1; replace n2 := neN n2; replace n3 := neN n3
  obtain ⟨hA, dp, fr, gd, un⟩ := A
  cases hh
  dsimp only at hdp hun
  first | have hd1 : dp + 1 ≤ _ := Nat.add_le_add_right hdp 1 | have hd1 : dp + 1 ≤ 850 := by omega | skip
  first | have hu3 : un + 3 ≤ _ := Nat.add_le_add_right hun 3 | have hu3 : un + 3 ≤ 7990 := by omega | skip
  have R0 := R
  simp only [StG] at R
  obtain ⟨t1, t2, vl, vsl, ⟨ad, na, rfl, had⟩, ⟨lad, nl, rfl, hlad⟩, rl⟩ := R
  refine wpAny_call (enterH (binds := [(nm "self", Value.ref im), (nm "s", Value.ref ad)]) (Mk.cells ⟨im, dx, cl, q1, q2, u1, u2⟩ sl t vs nc) X0 T0 hb hc (by k_is) (by k_is) (by show dp < 1000; omega) (by exact BindsTo.of_eq rfl) (by exact locs rfl) ?_ (by exact rfl) (by exact rfl) (by exact rfl) (by decide))
  intro g' L' h' eg FG' N' X' T'
  have hGg : G.sub (Mine.hG g') := fun a its n x => eg ▸ hide_sub hch a its n (hGs a its n x)
  have ht := isTup_base (hGg _ _ _ had)
  simp only [hgt, sz] at hdp hun hz
  first | have hd1 : dp + 1 ≤ 850 := u_one hdp (by omega) | skip
  first | have hu3 : un + 3 ≤ 7990 := Nat.le_of_add_le_add_right (b := 10) (u_one hun (by omega) : un + 13 ≤ 8000) | skip
  dsimp only [Mk.cells, Mk.dict] at N'
  (try dsimp only)
  (try k_fold)
  simp only [comp, nsl] at hQ
  k_steps
  rename Fr _ _ _ _ => F9; rename News _ _ _ _ => N9
  refine stop_out ?_
  refine scopedn_call F9 N9 X' T' (by walk_at "MINE out") (by walk_at "MINE out") (by walk_at "MINE out") rfl (by simp only [depth_deeper]; omega) (by simp only [Around.deeper_units]; omega) (by omega) ?_
  intro h1 tk1 t9 F9 N9
  k_steps
  rename Fr _ _ _ _ => F9; rename News _ _ _ _ => N9
  refine stop_out ?_
  refine For_invV g' rfl rfl ?_
  k_steps
  rename Fr _ _ _ _ => F9; rename News _ _ _ _ => N9
  refine stop_out ?_
  obtain ⟨n9, hvl⟩ : ∃ n, g'.get? lad = some (tpO vsl n) := ⟨_, hGg _ _ _ hlad⟩
  refine loop_tuple1 (fun i nx => ∃ ws nw t9 nc', nx = (im, instObj 185 dx) :: (dx, dictOf [⟨q1, .str (nm "slots") u1, .int (sl + nslL (l.take i) : Nat) t9⟩, ⟨q2, .str (nm "code") u2, .ref cl⟩] 2) :: (cl, lsO (vs ++ ws) nc') :: nw ∧ RwsG (orG G nw) ws (compL (l.take i) (vs.length) sl) ∧ (∀ p ∈ nw, p.2.cls = .type "tuple") ∧ Ap nw [(im, lsO [] 0), (dx, lsO [] 0), (cl, lsO [] 0)]) rfl ⟨n9, hvl⟩ F9 N9 ⟨[], [], t, nc, by simp only [List.take_zero, nslL, Nat.add_zero, List.append_nil], by simp only [List.take_zero, compL]; exact trivial, fun _ h => (nomatch h), fun _ h => (nomatch h)⟩ ?_ ?_
  · intro i v nx h tk I io hi hJ hnI hio F9 N9
    (try k_fold)
    obtain ⟨ws, nw, t9, nc', rfl, RW, hcl, hap⟩ := hJ
    change Fr g' L' h _ at F9
    change News g' L' h _ at N9
    obtain ⟨d, hd, rd⟩ := rl.get i hi
    have hdl : d ∈ l := List.mem_of_getElem? hd
    have hi1 := neN (hnI _ (.head _)); have hi2 := neN (hnI _ (.tail _ (.head _))); have hi3 := neN (hnI _ (.tail _ (.tail _ (.head _))))
    dsimp only at hi1 hi2 hi3
    have hws : ws.length = szL (l.take i) := RW.length.trans (compL_length _ _ _)
    have hsz := szL_take' hd
    have hhg := hgtL_mem hdl
    k_steps
    rename Fr _ _ _ _ => F9; rename News _ _ _ _ => N9
    refine stop_out ?_
    refine m_call (H d hdl) F9 N9 X' T' (by walk_at "MINE out") (by walk_at "MINE out") (by walk_at "MINE out") rfl (by simp only [depth_deeper]; omega) (by simp only [Around.deeper_units]; omega) (by simp only [List.length_append, List.length_cons, List.length_nil, hws]; omega) hGg rd ?_
    intro h1 tk' wa nwa t9a nca F9 N9 hapA hclsA RA
    (try simp only [List.append_assoc, List.cons_append, List.nil_append] at N9)
    simp only [List.length_append, List.length_cons, List.length_nil, Nat.zero_add] at RA
    rw [hws] at RA
    k_steps
    rename Fr _ _ _ _ => F9; rename News _ _ _ _ => N9
    refine LpEnd.intro (nx := (im, instObj 185 dx) :: (dx, dictOf [⟨q1, .str (nm "slots") u1, .int (sl + nslL (l.take i) + nsl d : Nat) t9a⟩, ⟨q2, .str (nm "code") u2, .ref cl⟩] 2) :: (cl, lsO (vs ++ (ws ++ wa)) nca) :: (nw ++ nwa)) F9 N9 (by walk_at "MINE sub") ?_ ⟨fun z hz => if_neg hz, ws ++ wa, nw ++ nwa, t9a, nca, by simp [take_snoc' hd, nslL_snoc, Nat.add_assoc], ?_, all_app hcl hclsA, ?_⟩
    · exact List.forall_mem_cons.mpr ⟨hi1, List.forall_mem_cons.mpr ⟨hi2, List.forall_mem_cons.mpr ⟨hi3, all_app (fun p hp => hnI p (.tail _ (.tail _ (.tail _ hp)))) (hapA.ne (o := io) (by k_mem))⟩⟩⟩
    · rw [take_snoc' hd, compL_snoc]
      exact RwsG.append (RW.mono (orG_mono (by walk_at "MINE sub"))) (RA.mono (orG_mono (by walk_at "MINE sub")))
    · exact Ap.of3 (by k_all) (by k_all) (by k_all)
  · intro u nx h tk hJ F9 N9
    (try k_fold)
    obtain ⟨ws, nw, t9, nc', rfl, RW, hcl, hap⟩ := hJ
    change Fr g' L' h _ at F9
    change News g' L' h _ at N9
    have hlen : vsl.length = l.length := rl.length
    rw [hlen, List.take_length] at RW N9
    have hws : ws.length = szL l := RW.length.trans (compL_length _ _ _)
    (try simp only [List.append_assoc, List.cons_append, List.nil_append] at N9)
    k_steps
    rename Fr _ _ _ _ => F9; rename News _ _ _ _ => N9
    refine stop_out ?_
    refine closen_call F9 N9 X' T' (by walk_at "MINE out") (by walk_at "MINE out") (by walk_at "MINE out") rfl (by simp only [depth_deeper]; omega) (by simp only [Around.deeper_units]; omega) (by simp only [List.length_append, List.length_cons, List.length_nil, hws]; omega) ?_
    intro h2 tk2 F9 N9
    k_steps
    rename Fr _ _ _ _ => F9; rename News _ _ _ _ => N9
    show Q Value.none _
    refine hQ _ _ ws (tups _) _ _ (kept_of eg F9) (cells_get N9 (by walk_at "MINE sub")) (fresh_tups eg N9 (cells3 (by k_mem) (by k_mem) (by k_mem))) (RW.mono (orG_tups (by walk_at "MINE sub")))

set_option maxHeartbeats 1600000 in
theorem make_seq (l : List Sm) (H : ∀ d ∈ l, MSpec 182 (8 * hgt d) d) : MSpec 182 (8 * hgt (.seq l)) (.seq l) := by
  intro prog w p loose mean mg mb b0 A s Q E M sl t vs nc v G X0 T0 hb hc hh hdp hun hz hGs R hQ
  have hne := Mk.ne hc
  have hch := cells_hide hc
  obtain ⟨im, dx, cl, q1, q2, u1, u2⟩ := M
  dsimp only at hne hc hQ hch ⊢
  obtain ⟨n1, n2, n3⟩ := hne
  replace n1 := neN n1; replace n2 := neN n2; replace n3 := neN n3
  obtain ⟨hA, dp, fr, gd, un⟩ := A
  cases hh
  dsimp only at hdp hun
  first | have hd1 : dp + 1 ≤ _ := Nat.add_le_add_right hdp 1 | have hd1 : dp + 1 ≤ 850 := by omega | skip
  first | have hu3 : un + 3 ≤ _ := Nat.add_le_add_right hun 3 | have hu3 : un + 3 ≤ 7990 := by omega | skip
  have R0 := R
  simp only [StG] at R
  obtain ⟨t1, t2, vl, vsl, ⟨ad, na, rfl, had⟩, hvl, rl⟩ := R
  refine wpAny_call (enterH (binds := [(nm "self", Value.ref im), (nm "s", Value.ref ad)]) (Mk.cells ⟨im, dx, cl, q1, q2, u1, u2⟩ sl t vs nc) X0 T0 hb hc (by k_is) (by k_is) (by show dp < 1000; omega) (by exact BindsTo.of_eq rfl) (by exact locs rfl) ?_ (by exact rfl) (by exact rfl) (by exact rfl) (by decide))
  intro g' L' h' eg FG' N' X' T'
  have hGg : G.sub (Mine.hG g') := fun a its n x => eg ▸ hide_sub hch a its n (hGs a its n x)
  have ht := isTup_base (hGg _ _ _ had)
  simp only [hgt, sz] at hdp hun hz
  first | have hd1 : dp + 1 ≤ 850 := u_one hdp (by omega) | skip
  first | have hu3 : un + 3 ≤ 7990 := Nat.le_of_add_le_add_right (b := 10) (u_one hun (by omega) : un + 13 ≤ 8000) | skip
  dsimp only [Mk.cells, Mk.dict] at N'
  (try dsimp only)
  (try k_fold)
  k_steps
  rename Fr _ _ _ _ => F9; rename News _ _ _ _ => N9
  refine stop_out ?_
  refine m_call (block_seq l H) F9 N9 X' T' (by walk_at "MINE out") (by walk_at "MINE out") (by walk_at "MINE out") rfl (by simp only [depth_deeper, hgt]; omega) (by simp only [Around.deeper_units, hgt]; omega) (by (try simp only [List.length_append, List.length_cons, List.length_nil]); (try simp only [sz]); omega) hGg R0 ?_
  intro h1 tk' ws nw t9 nc' F9 N9 hap hcls R9
  simp only [List.nil_append] at N9
  k_steps
  rename Fr _ _ _ _ => F9; rename News _ _ _ _ => N9
  show Q Value.none _
  refine hQ _ _ ws (tups _) _ _ (kept_of eg F9) (cells_get N9 (by walk_at "MINE sub")) (fresh_tups eg N9 (cells3 (by k_mem) (by k_mem) (by k_mem))) (R9.mono (orG_tups (by walk_at "MINE sub")))

mutual
theorem make_all : ∀ d : Sm, MSpec 182 (8 * hgt d) d
  | .set n => make_set n
  | .dis k => make_dis k
  | .ite1 t a => make_ite1 t a (make_all a)
  | .ite2 t a b => make_ite2 t a b (make_all a) (make_all b)
  | .rep c b => make_rep c b (make_all b)
  | .blk l k => make_blk l k (make_allL l)
  | .seq l => make_seq l (make_allL l)
theorem make_allL : ∀ (l : List Sm), ∀ d ∈ l, MSpec 182 (8 * hgt d) d
  | [], _, h => nomatch h
  | e :: l, d, h => by
    rcases List.mem_cons.mp h with e9 | h
    · rw [e9]; exact make_all e
    · exact make_allL l d h
end
end maker2
end Mine
namespace Mine
set_option maxHeartbeats 8000000 in
theorem fill5 (P : Params) : PySem.Challenge.rw_on0120_01 = PySem.Challenge.rw_on0120_01 ∧ Mine.hd.heap_1 P = Mine.hd.heap_1 P := by
  w_top off
  k_fill
  exact ⟨rfl, rfl⟩
section newmaker
variable {prog : Program} {w : World} {p : Program} {loose : List Str} {mean : ExcName → Option Value} {mg mb : Str → Option Value} {A : Around} {s : Shared} {Q : Value → Shared → Prop} {E : Value → Shared → Prop} {h₀ : Heap} {L : Addr} {m : Str → Option Value} {news : List (Addr × Obj)}

theorem initBack {M : Model} {A : Around} {c : Code} {x : Addr} {s : Shared} {Q : Value → Shared → Prop} {E : Value → Shared → Prop}
    (h : codeAny M A c (fun r s' => match r with | .ok (.ret v) => v = .none ∧ Q (.ref x) s' | .ok _ => False | .error _ => False) s) :
    codeAny M A c (InitBack x fun r s' => match r with | .ok (.ret v) => Q v s' | .ok _ => False | .error e => E e s') s :=
  codeAny_mono h fun r s' hr => by
    cases r with
    | ok f => cases f with
      | ret v => exact hr
      | _ => exact hr.elim
    | error e => exact hr.elim

set_option maxHeartbeats 1600000 in
theorem maker_new {k : Nat} {t : Tok} (F : Fr h₀ L s.heap m) (N : News h₀ L s.heap news) (X0 : (Mine.hd.heap_1 w.params).In h₀) (T0 : Top p loose mean mg mb h₀)
    (hh : A.handled = none) (hdp : A.depth ≤ 880) (hun : A.units ≤ 7990)
    (hQ : ∀ h' im dx cl q1 q2 t1 t2 t9 tk, Fr h₀ L h' m → News h₀ L h' ((im, instObj 185 dx) :: (dx, dictOf [⟨q1, .str (nm "slots") t1, .int k t9⟩, ⟨q2, .str (nm "code") t2, .ref cl⟩] 2) :: (cl, lsO [] 0) :: news) →
      (∀ p ∈ news, p.1 < dx) → (∀ p ∈ news, p.1 < im) → (∀ p ∈ news, p.1 ≠ cl) → (@LT.lt Nat _ dx im) → (@Ne Nat im cl) → (@Ne Nat dx cl) → Q (.ref im) { s with heap := h', toks := tk }) :
    wpAny (model prog w) A (call (.ref 185) [.int k t]) Q E s := by
  obtain ⟨hA, dp, fr, gd, un⟩ := A
  cases hh
  dsimp only at hdp hun
  first | have hd1 : dp + 1 ≤ _ := Nat.add_le_add_right hdp 1 | have hd1 : dp + 1 ≤ 850 := by omega | skip
  first | have hu3 : un + 3 ≤ _ := Nat.add_le_add_right hun 3 | have hu3 : un + 3 ≤ 7990 := by omega | skip
  refine call_cls (K := Mine.hd.heap_1 w.params) (fI := 56) F X0 N (by k_is) (by k_is) (by k_is) ?_
  intro im dx h1 F1 N1 l1 l2
  refine initBack ?_
  have hc : ∀ c ∈ [(im, instObj 185 dx), (dx, dictOf [] 0)], ({ s with heap := h1 } : Shared).heap.get? c.1 = some c.2 ∧ h₀.get? c.1 = none := fun c hc => by
    have h9 := N1 c (by rcases List.mem_cons.mp hc with rfl | hc; exact .head _; cases List.mem_singleton.mp hc; exact .tail _ (.head _))
    exact ⟨h9.1, h9.2.2⟩
  refine enterH (binds := [(nm "self", Value.ref im), (nm "slots", Value.int k t)]) [(im, instObj 185 dx), (dx, dictOf [] 0)] X0 T0 F1.keep hc (by k_is) (by k_is) (by show dp + 1 < 1000; omega) (by exact BindsTo.of_eq rfl) (by exact locs rfl) ?_ (by exact rfl) (by exact rfl) (by exact rfl) (by decide)
  intro g' L' h' eg FG' N' X' T'
  replace l2 := ltN l2
  (try dsimp only)
  (try k_fold)
  k_steps
  · trivial
  rename Fr _ _ _ _ => F9; rename News _ _ _ _ => N9
  rename_i cl _ l9 _
  have K := kept_of eg F9
  have hS : ∀ a ∈ [(im, instObj 185 dx), (dx, dictOf [] 0)].map (·.1), ∃ o, (a, o) ∈ (im, instObj 185 dx) :: (dx, dictOf [] 0) :: news := fun a ha => by
    rcases List.mem_cons.mp ha with rfl | ha
    · exact ⟨_, .head _⟩
    · cases List.mem_singleton.mp ha; exact ⟨_, .tail _ (.head _)⟩
  have hcl : cl ∉ [(im, instObj 185 dx), (dx, dictOf [] 0)].map (·.1) := fun hm => by
    rcases List.mem_cons.mp hm with e | hm
    · have e' := eqN e
      dsimp only at e'
      omega
    · have e' := eqN (List.mem_singleton.mp hm)
      dsimp only at e'
      omega
  have hclN : h1.get? cl = none := none_of eg N9 (o := lsO [] 0) (by k_mem) hcl
  obtain ⟨q1, q2, t1, t2, t9, hdx⟩ : ∃ q1 q2 t1 t2 t9, Heap.get? _ dx = some (dictOf [⟨q1, .str (nm "slots") t1, .int k t9⟩, ⟨q2, .str (nm "code") t2, .ref cl⟩] 2) := ⟨_, _, _, _, _, N9.get (by k_mem)⟩
  refine hQ _ im dx cl q1 q2 t1 t2 t9 _ (K.fr F1 N1 hS) (K.news (nw := [(cl, lsO [] 0)]) F1 N1 (fun p hp => ?_) fun p hp => ?_) l1 (fun p hp => ?_) (fun p hp e => ?_) l2 (by omega) (by omega)
  · rcases List.mem_cons.mp hp with rfl | hp
    · exact .inr (.inl ⟨N9.get (by k_mem), _, .head _⟩)
    rcases List.mem_cons.mp hp with rfl | hp
    · exact .inr (.inl ⟨hdx, _, .tail _ (.head _)⟩)
    rcases List.mem_cons.mp hp with rfl | hp
    · exact .inr (.inr (.head _))
    · refine .inl ⟨.tail _ (.tail _ hp), fun hm => ?_⟩
      have h5 := ltN (l1 p hp)
      rcases List.mem_cons.mp hm with e | hm
      · have e' := eqN e
        dsimp only at e'
        omega
      · have e' := eqN (List.mem_singleton.mp hm)
        dsimp only at e'
        omega
  · cases List.mem_singleton.mp hp
    exact ⟨N9.get (by k_mem), hclN⟩
  · have h5 := ltN (l1 p hp)
    exact ltN (by omega)
  · have h6 := (N1 p (.tail _ (.tail _ hp))).1
    rw [e, hclN] at h6; cases h6
end newmaker
section compile
local macro_rules | `(tactic| walk_at "call builtin:list.append") => `(tactic| walk_at "MINE append")
local macro_rules | `(tactic| walk_at "call builtin:len") => `(tactic| walk_at "MINE len")
local macro_rules | `(tactic| walk_at "call ref") => `(tactic| (((k_dflt refine' emit_call _ _ _ _ _ _ _ _ _ _ _ _) <;> walk_at "MINE S"); intro h' tk' t9 k' hk' F' N'; (try simp only [List.length_append, List.length_cons, List.length_nil, List.length_set] at hk')))
local macro_rules | `(tactic| walk_at "call ref") => `(tactic| (((k_dflt refine' here_call _ _ _ _ _ _ _ _ _ _ _ _) <;> walk_at "MINE S"); intro h' tk' t9 F' N'))
local macro_rules | `(tactic| walk_at "call ref") => `(tactic| (((k_dflt refine' new_slot_call _ _ _ _ _ _ _ _ _ _ _) <;> walk_at "MINE S"); intro h' tk' t9 t8 F' N'))
local macro_rules | `(tactic| walk_at "subscriptTail Attribute Name Name ref int") => `(tactic| (((with_reducible refine' item_L _ _ _ _ _ _) <;> walk_at "MINE S")))
local macro_rules | `(tactic| walk_at "subscriptTail Name Slice ref ref") => `(tactic| walk_at "MINE neg1")
local macro_rules | `(tactic| walk_at "subscriptTail Name Constant ref int") => `(tactic| walk_at "MINE item")
local macro_rules | `(tactic| walk_at "setItem ref int") => `(tactic| ((with_reducible show wpAny _ _ (setItem (Value.ref _) (Value.int (Nat.cast _) _) _) _ _ _); k_dflt ((refine' setItem_L _ _ _ _ _ _) <;> walk_at "MINE S"); intro h' F' N'))
local macro_rules | `(tactic| walk_at "call ref") => `(tactic| with_reducible refine stop_ref 98 ?_)
local macro_rules | `(tactic| walk_at "call ref") => `(tactic| with_reducible refine stop_ref 112 ?_)
local macro_rules | `(tactic| walk_at "call ref") => `(tactic| with_reducible refine stop_ref 133 ?_)
local macro_rules | `(tactic| walk_at "call ref") => `(tactic| with_reducible refine stop_ref 154 ?_)
local macro_rules | `(tactic| walk_at "call ref") => `(tactic| with_reducible refine stop_ref 175 ?_)
local macro_rules | `(tactic| walk_at "call ref") => `(tactic| with_reducible refine stop_ref 182 ?_)
local macro_rules | `(tactic| walk_at "call ref") => `(tactic| with_reducible refine stop_ref 84 ?_)
local macro_rules | `(tactic| walk_at "call ref") => `(tactic| with_reducible refine stop_ref 140 ?_)
local macro_rules | `(tactic| walk_at "call ref") => `(tactic| with_reducible refine stop_ref 147 ?_)
local macro_rules | `(tactic| walk_at "pyIter ref") => `(tactic| (with_reducible refine stop_here ?_))
local macro_rules | `(tactic| walk_at "exec For Name Subscript cons nil") => `(tactic| (with_reducible refine stop_here ?_))
local macro_rules | `(tactic| walk_at "call ref") => `(tactic| with_reducible refine stop_ref 185 ?_)
local macro_rules | `(tactic| walk_at "getAttr ref") => `(tactic| (k_dflt (refine' get_own ?F ?X ?I ?g ?h ?a ?n ?l ?v ?_; (case F => k_asm); (case X => assumption); (case I => exact InstAt.of_news (by k_asm) (by k_mem) (by k_mem)); (case l => assumption); (case g => k_is); (case h => k_is); (case a => k_is); (case n => k_is); (case v => exact rfl))))
variable {prog : Program} {w : World} {p : Program} {loose : List Str} {mean : ExcName → Option Value} {mg mb : Str → Option Value} {b0 : Heap} {A : Around} {s : Shared} {Q : Value → Shared → Prop} {E : Value → Shared → Prop}

theorem not2 {a b c : Addr} {o1 o2 : Obj} (h1 : c ≠ a) (h2 : c ≠ b) : c ∉ [(a, o1), (b, o2)].map (·.1) := fun hm => by
  rcases List.mem_cons.mp hm with e | hm
  · exact h1 e
  · exact h2 (List.mem_singleton.mp hm)
theorem cells2i {a b dx : Addr} {p1 p2 : Obj} {C : Addr} {es : List DictEntry} {n : Nat} {news : List (Addr × Obj)} (h1 : (a, instObj C dx) ∈ news) (h2 : (b, dictOf es n) ∈ news) :
    ∀ x ∈ [(a, p1), (b, p2)].map (·.1), ∃ o, (x, o) ∈ news ∧ o.cls ≠ .type "tuple" := fun x hx => by
  rcases List.mem_cons.mp hx with e | hx
  · have e' : x = a := e
    rw [e']; exact ⟨_, h1, by intro h; cases h⟩
  · have e' : x = b := List.mem_singleton.mp hx
    rw [e']; exact ⟨_, h2, di_ne⟩
theorem off2 {a b c : Addr} {h : Heap} {o1 o2 o : Obj} (h1 : h.get? a = some o1) (h2 : h.get? b = some o2) (hc : h.get? c = some o) (n1 : o.cls ≠ o1.cls) (n2 : o.cls ≠ o2.cls) : c ∉ [(a, o1), (b, o2)].map (·.1) := fun hm => by
  rcases List.mem_cons.mp hm with e | hm
  · have e' : c = a := e
    rw [e', h1] at hc; exact n1 (congrArg Obj.cls (Option.some.inj hc)).symm
  · have e' : c = b := List.mem_singleton.mp hm
    rw [e', h2] at hc; exact n2 (congrArg Obj.cls (Option.some.inj hc)).symm

set_option maxHeartbeats 1600000 in
theorem compile_spec {ro dr sla ba : Addr} {es : List DictEntry} {ne n0 : Nat} {k : Nat} {kk : Int} {tk : Tok} {l : List Sm} {G : Says} (X0 : (Mine.hd.heap_1 w.params).In b0) (T0 : Top p loose mean mg mb b0) (hb : b0.StaysIn s.heap)
    (hr : s.heap.get? ro = some (instObj 263 dr)) (hr0 : b0.get? ro = none) (hd : s.heap.get? dr = some (dictOf es ne)) (hd0 : b0.get? dr = none) (hs1 : getL (nm "slots") es = some (some (.ref sla))) (hs2 : getL (nm "body") es = some (some (.ref ba)))
    (hsl : s.heap.get? sla = some (lsO [] n0)) (hk : kk = (k : Nat)) (hsz : szL l ≤ 3900)
    (hh : A.handled = none) (hdp : A.depth + 8 * hgt (.seq l) + 10 ≤ 850) (hun : A.units + 40 * hgt (.seq l) + 50 ≤ 7990) (hGs : G.sub (hG s.heap)) (R : StG G (.ref ba) (.seq l))
    (hQ : ∀ h' D cl ws nw t9 z n9 nc tk', Kept [ro, dr] s.heap h' → h'.get? D = some (tpO [.ref cl, .int z t9] n9) → s.heap.get? D = none → h'.get? cl = some (lsO ws nc) → s.heap.get? cl = none → Fresh s.heap h' nw → RwsG (orG G nw) ws (comp (.blk l k) 0 0 ++ [.ret]) → Q (.ref D) { s with heap := h', toks := tk' }) :
    wpAny (model prog w) A (call (.ref 197) [.ref ro, .int kk tk]) Q E s := by
  subst hk
  have hne : ro ≠ dr := fun e => by rw [e, hd] at hr; cases hr
  replace hne := neN hne
  obtain ⟨hA, dp, fr, gd, un⟩ := A
  cases hh
  dsimp only at hdp hun
  first | have hd1 : dp + 1 ≤ _ := Nat.add_le_add_right hdp 1 | have hd1 : dp + 1 ≤ 850 := by omega | skip
  first | have hu3 : un + 3 ≤ _ := Nat.add_le_add_right hun 3 | have hu3 : un + 3 ≤ 7990 := by omega | skip
  have hc : ∀ c ∈ [(ro, instObj 263 dr), (dr, dictOf es ne)], s.heap.get? c.1 = some c.2 ∧ b0.get? c.1 = none := fun c hc => by
    rcases List.mem_cons.mp hc with rfl | hc
    · exact ⟨hr, hr0⟩
    · cases List.mem_singleton.mp hc; exact ⟨hd, hd0⟩
  have hch : ∀ a ∈ [(ro, instObj 263 dr), (dr, dictOf es ne)].map (·.1), ∀ o, s.heap.get? a = some o → o.cls ≠ .type "tuple" := fun a ha o ho => by
    rcases List.mem_cons.mp ha with e | ha
    · have e' : a = ro := e
      rw [e', hr] at ho; cases ho; intro h; cases h
    · have e' : a = dr := List.mem_singleton.mp ha
      rw [e', hd] at ho; cases ho; exact di_ne
  refine wpAny_call (enterH (binds := [(nm "routine", Value.ref ro), (nm "scope", Value.int k tk)]) [(ro, instObj 263 dr), (dr, dictOf es ne)] X0 T0 hb hc (by k_is) (by k_is) (by show dp < 1000; omega) (by exact BindsTo.of_defaults (T := 190) rfl ((X0.keeps hb) 190 _ (by k_is)) (by exact rfl) rfl (by exact rfl)) (by exact locs rfl) ?_ (by exact rfl) (by exact rfl) (by exact rfl) (by decide))
  intro g' L' h' eg FG' N' X' T'
  have hGg : G.sub (Mine.hG g') := fun a its n x => eg ▸ hide_sub hch a its n (hGs a its n x)
  have hsl' : g'.IsList sla (([] : List Value).toArray) := ⟨_, (by rw [eg]; exact hideAll_get _ hsl (off2 hr hd hsl (by intro h; cases h) (show (Value.type "list") ≠ .type "dict" by decide)) : g'.get? sla = some (lsO [] n0)), rfl, n0, rfl⟩
  (try dsimp only)
  (try k_fold)
  k_steps
  rename Fr _ _ _ _ => F9; rename News _ _ _ _ => N9
  refine stop_out ?_
  refine maker_new (k := 0) F9 N9 X' T' rfl (by simp only [depth_deeper]; omega) (by simp only [Around.deeper_units]; omega) ?_
  intro h1 im dx cl q1 q2 u1 u2 t9 tk1 F9 N9 l1 l2 l3 l4 l5 l6
  have a1 := ltN (l1 _ (.head _)); have a2 := ltN (l1 _ (.tail _ (.head _))); have a3 := ltN (l2 _ (.head _)); have a4 := ltN (l2 _ (.tail _ (.head _)))
  have a5 := neN (l3 _ (.head _)); have a6 := neN (l3 _ (.tail _ (.head _)))
  dsimp only at a1 a2 a3 a4 a5 a6
  k_steps
  rename Fr _ _ _ _ => F9; rename News _ _ _ _ => N9
  refine stop_out ?_
  refine scoped_call F9 N9 X' T' (by walk_at "MINE out") (by walk_at "MINE out") (by walk_at "MINE out") rfl (by simp only [depth_deeper]; omega) (by simp only [Around.deeper_units]; omega) (by simp) ?_
  intro h2 tk2 t10 v0 nw0 t8 t6 t7 j hj F9 N9 hap0 hcls0 R0'
  subst hj
  (try simp only [List.append_assoc, List.cons_append, List.nil_append] at N9)
  obtain ⟨r0, nr0, rfl, hr0⟩ := R0'
  k_steps
  rename Fr _ _ _ _ => F9; rename News _ _ _ _ => N9
  refine stop_out ?_
  refine m_call (make_all (.seq l)) F9 N9 X' T' (by walk_at "MINE out") (by walk_at "MINE out") (by walk_at "MINE out") rfl (by simp only [depth_deeper]; omega) (by simp only [Around.deeper_units]; omega) (by simp only [List.length_cons, List.length_nil, sz]; omega) hGg R ?_
  intro h3 tk3 wa nwa t11 nca F9 N9 hapA hclsA RA
  (try simp only [List.append_assoc, List.cons_append, List.nil_append] at N9)
  simp only [comp, List.length_cons, List.length_nil, Nat.zero_add] at RA
  have hwa : wa.length = szL l := RA.length.trans (compL_length _ _ _)
  k_steps
  rename Fr _ _ _ _ => F9; rename News _ _ _ _ => N9
  refine stop_out ?_
  refine close_call F9 N9 X' T' (by walk_at "MINE out") (by walk_at "MINE out") (by walk_at "MINE out") rfl (by simp only [depth_deeper]; omega) (by simp only [Around.deeper_units]; omega) (by simp only [List.length_cons, hwa]; omega) (show (Value.ref r0 :: wa)[0]? = some (Value.ref r0) from rfl) (N9.get ((by walk_at "MINE sub" : ∀ q ∈ nw0, q ∈ _) _ hr0)) ?_
  intro h4 tk4 v8 v9 nw2 t12 t6' t8' t7' nc2 F9 N9 hap2 hcls2 R9 R8
  (try simp only [List.append_assoc, List.cons_append, List.nil_append] at N9)
  simp only [List.length_cons, List.length_nil, hwa, List.set_cons_zero] at R9 N9
  k_steps
  rename Fr _ _ _ _ => F9; rename News _ _ _ _ => N9
  rename_i r9 _ m1 _ _ _ _ _ D _ m2
  (try simp only [List.append_assoc, List.cons_append, List.nil_append] at N9)
  simp only [comp, Nat.zero_add] at hQ
  rw [show szL l + 1 + 1 = 1 + szL l + 1 from by omega] at R9
  refine hQ _ D cl (v9 :: (wa ++ [v8, Value.ref r9])) (tups _) _ _ _ _ _ (kept_of eg F9) (N9.get (by k_mem)) (none_of eg N9 (by k_mem) (not2 (neN (by omega)) (neN (by omega)))) (N9.get (by k_mem)) (none_of eg N9 (o := lsO _ _) (by k_mem) (not2 (neN (by omega)) (neN (by omega)))) (fresh_tups eg N9 (cells2i (by k_mem) (by k_mem))) ?_
  exact ⟨⟨_, _, _, R9.mono (orG_new (by walk_at "MINE sub"))⟩, by
    show RwsG _ _ ((compL l 1 0 ++ [Row.lea k]) ++ [Row.ret])
    rw [List.append_assoc]
    exact RwsG.append (RA.mono (orG_tups (by walk_at "MINE sub"))) ⟨⟨_, _, R8.mono (orG_new (by walk_at "MINE sub"))⟩, ⟨_, _, _, rfl, .inr (tups_mem.mpr ⟨by k_mem, rfl⟩)⟩, trivial⟩⟩
end compile
end Mine
namespace Mine
set_option maxHeartbeats 8000000 in
theorem fill6 (P : Params) : PySem.Challenge.rw_on0120_01 = PySem.Challenge.rw_on0120_01 ∧ Mine.hd.heap_1 P = Mine.hd.heap_1 P := by
  w_top off
  k_fill
  exact ⟨rfl, rfl⟩
section checks
local macro_rules | `(tactic| walk_at "subscriptTail Name Constant ref int") => `(tactic| walk_at "MINE item")
variable {prog : Program} {w : World} {p : Program} {loose : List Str} {mean : ExcName → Option Value} {mg mb : Str → Option Value} {b0 : Heap} {A : Around} {s : Shared} {Q : Value → Shared → Prop} {E : Value → Shared → Prop}
theorem last_split {os : List Nat} {k : Nat} (h : os.getLast? = some k) : os = os.dropLast ++ [k] := by
  obtain ⟨ys, rfl⟩ := List.getLast?_eq_some_iff.mp h
  simp
theorem isTup_base' {g : Heap} {a : Addr} {l : List Value} {n : Nat} (h : g.get? a = some (tpO l n)) : IsTup g a l.toArray := ⟨_, h, rfl, n, rfl⟩
theorem hide_nil {h : Heap} : hideAll h (([] : List (Addr × Obj)).map (·.1)) = h := rfl
theorem fresh_none {g h₁ : Heap} {L : Addr} {news : List (Addr × Obj)} (N : News g L h₁ news) : Fresh g h₁ (tups news) := fun p hp => ⟨(N p (tups_mem.mp hp).1).1, (N p (tups_mem.mp hp).1).2.2, (tups_mem.mp hp).2⟩
theorem kept_nil {g h₁ : Heap} {L : Addr} {m : Str → Option Value} (F : Fr g L h₁ m) : Kept [] g h₁ := fun b o e _ => F.keep b o e
noncomputable def asI (l : List Nat) : List Int := l.map fun k : Nat => (k : Int)

set_option maxHeartbeats 3200000 in
theorem row_targets_spec {v : Value} {r : Row} (X0 : (Mine.hd.heap_1 w.params).In b0) (T0 : Top p loose mean mg mb b0) (hb : b0.StaysIn s.heap)
    (hh : A.handled = none) (hdp : A.depth ≤ 880) (hun : A.units ≤ 7990) (R : RwG (hG s.heap) v r)
    (hQ : ∀ h' v' nw its tk', Kept [] s.heap h' → Fresh s.heap h' nw → TpG (lG nw) v' its → IntsAre its (asI (tg r)) → Q v' { s with heap := h', toks := tk' }) :
    wpAny (model prog w) A (call (.ref 204) [v]) Q E s := by
  obtain ⟨hA, dp, fr, gd, un⟩ := A
  cases hh
  dsimp only at hdp hun
  first | have hd1 : dp + 1 ≤ _ := Nat.add_le_add_right hdp 1 | have hd1 : dp + 1 ≤ 850 := by omega | skip
  first | have hu3 : un + 3 ≤ _ := Nat.add_le_add_right hun 3 | have hu3 : un + 3 ≤ 7990 := by omega | skip
  obtain ⟨sh, sg1, sd, stk, sos⟩ := s
  refine wpAny_call (enterH (binds := [(nm "row", v)]) [] X0 T0 hb (fun _ h => nomatch h) (by k_is) (by k_is) (by show dp < 1000; omega) (by exact BindsTo.of_eq rfl) (by exact locs rfl) ?_ (by exact rfl) (by exact rfl) (by exact rfl) (by decide))
  intro g' L' h' eg FG' N' X' T'
  have eg2 : g' = sh := eg
  subst eg2
  (try dsimp only)
  cases r
  case set => obtain ⟨_, _, _, ⟨ad, na, rfl, had⟩, _⟩ := R; (
    have ht := isTup_base' had
    (try dsimp only)
    (try k_fold)
    k_steps
    rename Fr _ _ _ _ => F9; rename News _ _ _ _ => N9
    show Q _ _; exact hQ _ _ (tups _) _ _ (kept_nil F9) (fresh_none N9) (TpG.mono tups_sub ⟨_, _, rfl, by k_mem⟩) (by simp only [tg, asI, List.map]; first | exact IntsAre.nil | exact IntsAre.cons _ _ IntsAre.nil))
  case dis => obtain ⟨_, _, ad, na, rfl, had⟩ := R; (
    have ht := isTup_base' had
    (try dsimp only)
    (try k_fold)
    k_steps
    rename Fr _ _ _ _ => F9; rename News _ _ _ _ => N9
    show Q _ _; exact hQ _ _ (tups _) _ _ (kept_nil F9) (fresh_none N9) (TpG.mono tups_sub ⟨_, _, rfl, by k_mem⟩) (by simp only [tg, asI, List.map]; first | exact IntsAre.nil | exact IntsAre.cons _ _ IntsAre.nil))
  case unl => obtain ⟨_, _, _, ⟨ad, na, rfl, had⟩, _⟩ := R; (
    have ht := isTup_base' had
    (try dsimp only)
    (try k_fold)
    k_steps
    rename Fr _ _ _ _ => F9; rename News _ _ _ _ => N9
    show Q _ _; exact hQ _ _ (tups _) _ _ (kept_nil F9) (fresh_none N9) (TpG.mono tups_sub ⟨_, _, rfl, by k_mem⟩) (by simp only [tg, asI, List.map]; first | exact IntsAre.nil | exact IntsAre.cons _ _ IntsAre.nil))
  case jmp => obtain ⟨_, _, ad, na, rfl, had⟩ := R; (
    have ht := isTup_base' had
    (try dsimp only)
    (try k_fold)
    k_steps
    rename Fr _ _ _ _ => F9; rename News _ _ _ _ => N9
    show Q _ _; exact hQ _ _ (tups _) _ _ (kept_nil F9) (fresh_none N9) (TpG.mono tups_sub ⟨_, _, rfl, by k_mem⟩) (by simp only [tg, asI, List.map]; first | exact IntsAre.nil | exact IntsAre.cons _ _ IntsAre.nil))
  case tim => obtain ⟨_, _, _, ⟨ad, na, rfl, had⟩, _⟩ := R; (
    have ht := isTup_base' had
    (try dsimp only)
    (try k_fold)
    k_steps
    rename Fr _ _ _ _ => F9; rename News _ _ _ _ => N9
    show Q _ _; exact hQ _ _ (tups _) _ _ (kept_nil F9) (fresh_none N9) (TpG.mono tups_sub ⟨_, _, rfl, by k_mem⟩) (by simp only [tg, asI, List.map]; first | exact IntsAre.nil | exact IntsAre.cons _ _ IntsAre.nil))
  case agn => obtain ⟨_, _, _, ad, na, rfl, had⟩ := R; (
    have ht := isTup_base' had
    (try dsimp only)
    (try k_fold)
    k_steps
    rename Fr _ _ _ _ => F9; rename News _ _ _ _ => N9
    show Q _ _; exact hQ _ _ (tups _) _ _ (kept_nil F9) (fresh_none N9) (TpG.mono tups_sub ⟨_, _, rfl, by k_mem⟩) (by simp only [tg, asI, List.map]; first | exact IntsAre.nil | exact IntsAre.cons _ _ IntsAre.nil))
  case ent => obtain ⟨_, _, _, ad, na, rfl, had⟩ := R; (
    have ht := isTup_base' had
    (try dsimp only)
    (try k_fold)
    k_steps
    rename Fr _ _ _ _ => F9; rename News _ _ _ _ => N9
    show Q _ _; exact hQ _ _ (tups _) _ _ (kept_nil F9) (fresh_none N9) (TpG.mono tups_sub ⟨_, _, rfl, by k_mem⟩) (by simp only [tg, asI, List.map]; first | exact IntsAre.nil | exact IntsAre.cons _ _ IntsAre.nil))
  case lea => obtain ⟨_, _, ad, na, rfl, had⟩ := R; (
    have ht := isTup_base' had
    (try dsimp only)
    (try k_fold)
    k_steps
    rename Fr _ _ _ _ => F9; rename News _ _ _ _ => N9
    show Q _ _; exact hQ _ _ (tups _) _ _ (kept_nil F9) (fresh_none N9) (TpG.mono tups_sub ⟨_, _, rfl, by k_mem⟩) (by simp only [tg, asI, List.map]; first | exact IntsAre.nil | exact IntsAre.cons _ _ IntsAre.nil))
  case ret => obtain ⟨_, ad, na, rfl, had⟩ := R; (
    have ht := isTup_base' had
    (try dsimp only)
    (try k_fold)
    k_steps
    rename Fr _ _ _ _ => F9; rename News _ _ _ _ => N9
    show Q _ _; exact hQ _ _ (tups _) _ _ (kept_nil F9) (fresh_none N9) (TpG.mono tups_sub ⟨_, _, rfl, by k_mem⟩) (by simp only [tg, asI, List.map]; first | exact IntsAre.nil | exact IntsAre.cons _ _ IntsAre.nil))

set_option maxHeartbeats 3200000 in
theorem falls_spec {v : Value} {r : Row} (X0 : (Mine.hd.heap_1 w.params).In b0) (T0 : Top p loose mean mg mb b0) (hb : b0.StaysIn s.heap)
    (hh : A.handled = none) (hdp : A.depth ≤ 880) (hun : A.units ≤ 7990) (R : RwG (hG s.heap) v r)
    (hQ : ∀ h' tk', Kept [] s.heap h' → Q (.bool (ft r)) { s with heap := h', toks := tk' }) :
    wpAny (model prog w) A (call (.ref 211) [v]) Q E s := by
  obtain ⟨hA, dp, fr, gd, un⟩ := A
  cases hh
  dsimp only at hdp hun
  first | have hd1 : dp + 1 ≤ _ := Nat.add_le_add_right hdp 1 | have hd1 : dp + 1 ≤ 850 := by omega | skip
  first | have hu3 : un + 3 ≤ _ := Nat.add_le_add_right hun 3 | have hu3 : un + 3 ≤ 7990 := by omega | skip
  obtain ⟨sh, sg1, sd, stk, sos⟩ := s
  refine wpAny_call (enterH (binds := [(nm "row", v)]) [] X0 T0 hb (fun _ h => nomatch h) (by k_is) (by k_is) (by show dp < 1000; omega) (by exact BindsTo.of_eq rfl) (by exact locs rfl) ?_ (by exact rfl) (by exact rfl) (by exact rfl) (by decide))
  intro g' L' h' eg FG' N' X' T'
  have eg2 : g' = sh := eg
  subst eg2
  (try dsimp only)
  cases r
  case set => obtain ⟨_, _, _, ⟨ad, na, rfl, had⟩, _⟩ := R; (
    have ht := isTup_base' had
    (try dsimp only)
    (try k_fold)
    k_steps
    rename Fr _ _ _ _ => F9; rename News _ _ _ _ => N9
    exact hQ _ _ (kept_nil F9))
  case dis => obtain ⟨_, _, ad, na, rfl, had⟩ := R; (
    have ht := isTup_base' had
    (try dsimp only)
    (try k_fold)
    k_steps
    rename Fr _ _ _ _ => F9; rename News _ _ _ _ => N9
    exact hQ _ _ (kept_nil F9))
  case unl => obtain ⟨_, _, _, ⟨ad, na, rfl, had⟩, _⟩ := R; (
    have ht := isTup_base' had
    (try dsimp only)
    (try k_fold)
    k_steps
    rename Fr _ _ _ _ => F9; rename News _ _ _ _ => N9
    exact hQ _ _ (kept_nil F9))
  case jmp => obtain ⟨_, _, ad, na, rfl, had⟩ := R; (
    have ht := isTup_base' had
    (try dsimp only)
    (try k_fold)
    k_steps
    rename Fr _ _ _ _ => F9; rename News _ _ _ _ => N9
    exact hQ _ _ (kept_nil F9))
  case tim => obtain ⟨_, _, _, ⟨ad, na, rfl, had⟩, _⟩ := R; (
    have ht := isTup_base' had
    (try dsimp only)
    (try k_fold)
    k_steps
    rename Fr _ _ _ _ => F9; rename News _ _ _ _ => N9
    exact hQ _ _ (kept_nil F9))
  case agn => obtain ⟨_, _, _, ad, na, rfl, had⟩ := R; (
    have ht := isTup_base' had
    (try dsimp only)
    (try k_fold)
    k_steps
    rename Fr _ _ _ _ => F9; rename News _ _ _ _ => N9
    exact hQ _ _ (kept_nil F9))
  case ent => obtain ⟨_, _, _, ad, na, rfl, had⟩ := R; (
    have ht := isTup_base' had
    (try dsimp only)
    (try k_fold)
    k_steps
    rename Fr _ _ _ _ => F9; rename News _ _ _ _ => N9
    exact hQ _ _ (kept_nil F9))
  case lea k9 => obtain ⟨_, _, ad, na, rfl, had⟩ := R; (
    have ht := isTup_base' had
    (try dsimp only)
    (try k_fold)
    k_steps
    rename Fr _ _ _ _ => F9; rename News _ _ _ _ => N9
    exact hQ _ _ (kept_nil F9))
  case ret => obtain ⟨_, ad, na, rfl, had⟩ := R; (
    have ht := isTup_base' had
    (try dsimp only)
    (try k_fold)
    k_steps
    rename Fr _ _ _ _ => F9; rename News _ _ _ _ => N9
    exact hQ _ _ (kept_nil F9))

local macro_rules | `(tactic| walk_at "call builtin:len") => `(tactic| (((with_reducible refine' len_TB _ _ _ _) <;> walk_at "MINE S")))
local macro_rules | `(tactic| walk_at "binaryOp Add ref ref") => `(tactic| (k_dflt (refine' add_TT ?F ?N ?t ?b ?v ?w ?z ?_; (case F => k_asm); (case N => k_asm); (case t => exact stays_tup (Fr.keep (by k_asm)) (by assumption)); (case b => exact News.isTup (by k_asm) (by k_mem)); (case v => assumption); (case w => exact List.cons_ne_nil _ _); (case z => (simp only [List.length_cons, List.length_nil]; omega))); intro D' h' F' N' l1))
local macro_rules | `(tactic| walk_at "binaryOp Add ref ref") => `(tactic| (k_dflt (refine' kde_addT0 ?F ?N ?t ?b ?v ?z ?_; (case F => k_asm); (case N => k_asm); (case t => exact stays_tup (Fr.keep (by k_asm)) (by assumption)); (case b => exact News.isTup (by k_asm) (by k_mem)); (case v => exact rfl); (case z => exact Nat.le_of_ble_eq_true rfl))))
local macro_rules | `(tactic| walk_at "subscriptTail Name UnaryOp ref int") => `(tactic| (((with_reducible refine' last_TB _ _ _ _) <;> walk_at "MINE S")))
local macro_rules | `(tactic| walk_at "subscriptTail Name Slice ref ref") => `(tactic| walk_at "MINE neg1")
set_option maxHeartbeats 3200000 in
theorem behind_spec {G : Says} {v ov : Value} {r : Row} {os os' : List Nat} {oits : List Value} (X0 : (Mine.hd.heap_1 w.params).In b0) (T0 : Top p loose mean mg mb b0) (hb : b0.StaysIn s.heap)
    (hh : A.handled = none) (hdp : A.depth ≤ 880) (hun : A.units ≤ 7990) (R : RwG (hG s.heap) v r) (hGs : Says.sub G (hG s.heap)) (hov : TpG G ov oits) (hoi : IntsAre oits (asI os)) (hol : oits.length ≤ 100) (hbh : bh r os = some os')
    (hQ : ∀ h' v' nw its tk', Kept [] s.heap h' → Fresh s.heap h' nw → TpG (orG G nw) v' its → IntsAre its (asI os') → Q v' { s with heap := h', toks := tk' }) :
    wpAny (model prog w) A (call (.ref 218) [v, ov]) Q E s := by
  obtain ⟨hA, dp, fr, gd, un⟩ := A
  cases hh
  dsimp only at hdp hun
  first | have hd1 : dp + 1 ≤ _ := Nat.add_le_add_right hdp 1 | have hd1 : dp + 1 ≤ 850 := by omega | skip
  first | have hu3 : un + 3 ≤ _ := Nat.add_le_add_right hun 3 | have hu3 : un + 3 ≤ 7990 := by omega | skip
  obtain ⟨sh, sg1, sd, stk, sos⟩ := s
  obtain ⟨oa, noa, rfl, hoaG⟩ := hov
  have hoa : sh.get? oa = some (tpO oits noa) := hGs _ _ _ hoaG
  refine wpAny_call (enterH (binds := [(nm "row", v), (nm "open_scopes", Value.ref oa)]) [] X0 T0 hb (fun _ h => nomatch h) (by k_is) (by k_is) (by show dp < 1000; omega) (by exact BindsTo.of_eq rfl) (by exact locs rfl) ?_ (by exact rfl) (by exact rfl) (by exact rfl) (by decide))
  intro g' L' h' eg FG' N' X' T'
  have eg2 : g' = sh := eg
  subst eg2
  (try dsimp only)
  cases r
  case set => obtain ⟨_, _, _, ⟨ad, na, rfl, had⟩, _⟩ := R; (
    have ht := isTup_base' had
    (try dsimp only)
    (try k_fold)
    k_steps
    rename Fr _ _ _ _ => F9; rename News _ _ _ _ => N9
    cases hbh; exact hQ _ _ [] _ _ (kept_nil F9) (fun _ h => nomatch h) ⟨_, _, rfl, .inl hoaG⟩ hoi)
  case dis => obtain ⟨_, _, ad, na, rfl, had⟩ := R; (
    have ht := isTup_base' had
    (try dsimp only)
    (try k_fold)
    k_steps
    rename Fr _ _ _ _ => F9; rename News _ _ _ _ => N9
    cases hbh; exact hQ _ _ [] _ _ (kept_nil F9) (fun _ h => nomatch h) ⟨_, _, rfl, .inl hoaG⟩ hoi)
  case unl => obtain ⟨_, _, _, ⟨ad, na, rfl, had⟩, _⟩ := R; (
    have ht := isTup_base' had
    (try dsimp only)
    (try k_fold)
    k_steps
    rename Fr _ _ _ _ => F9; rename News _ _ _ _ => N9
    cases hbh; exact hQ _ _ [] _ _ (kept_nil F9) (fun _ h => nomatch h) ⟨_, _, rfl, .inl hoaG⟩ hoi)
  case jmp => obtain ⟨_, _, ad, na, rfl, had⟩ := R; (
    have ht := isTup_base' had
    (try dsimp only)
    (try k_fold)
    k_steps
    rename Fr _ _ _ _ => F9; rename News _ _ _ _ => N9
    cases hbh; exact hQ _ _ [] _ _ (kept_nil F9) (fun _ h => nomatch h) ⟨_, _, rfl, .inl hoaG⟩ hoi)
  case tim => obtain ⟨_, _, _, ⟨ad, na, rfl, had⟩, _⟩ := R; (
    have ht := isTup_base' had
    (try dsimp only)
    (try k_fold)
    k_steps
    rename Fr _ _ _ _ => F9; rename News _ _ _ _ => N9
    cases hbh; exact hQ _ _ [] _ _ (kept_nil F9) (fun _ h => nomatch h) ⟨_, _, rfl, .inl hoaG⟩ hoi)
  case agn => obtain ⟨_, _, _, ad, na, rfl, had⟩ := R; (
    have ht := isTup_base' had
    (try dsimp only)
    (try k_fold)
    k_steps
    rename Fr _ _ _ _ => F9; rename News _ _ _ _ => N9
    cases hbh; exact hQ _ _ [] _ _ (kept_nil F9) (fun _ h => nomatch h) ⟨_, _, rfl, .inl hoaG⟩ hoi)
  case ent => obtain ⟨_, _, _, ad, na, rfl, had⟩ := R; (
    have ht := isTup_base' had
    have ho := isTup_base' hoa
    cases hbh
    by_cases hnil : oits = []
    · subst hnil
      have hos : os = [] := by cases os with | nil => rfl | cons a b => cases hoi
      subst hos
      (try dsimp only)
      (try k_fold)
      k_steps
      rename Fr _ _ _ _ => F9; rename News _ _ _ _ => N9
      exact hQ _ _ (tups _) _ _ (kept_nil F9) (fresh_none N9) ⟨_, _, rfl, .inr (tups_mem.mpr ⟨by k_mem, rfl⟩)⟩ (IntsAre.cons _ _ IntsAre.nil)
    ·
      (try dsimp only)
      (try k_fold)
      k_steps
      rename Fr _ _ _ _ => F9; rename News _ _ _ _ => N9
      exact hQ _ _ (tups _) _ _ (kept_nil F9) (fresh_none N9) ⟨_, _, rfl, .inr (tups_mem.mpr ⟨by k_mem, rfl⟩)⟩ (by simp only [asI, List.map_append]; exact hoi.append (IntsAre.cons _ _ IntsAre.nil)))
  case lea k9 => obtain ⟨_, _, ad, na, rfl, had⟩ := R; (
    have hlast : os.getLast? = some k9 := by
      by_cases hq : os.getLast? = some k9
      · exact hq
      · simp only [bh, hq, if_false] at hbh; cases hbh
    have hos : os = os.dropLast ++ [k9] := last_split hlast
    have hbo : os' = os.dropLast := by simp only [bh, hlast, if_true] at hbh; exact (Option.some.inj hbh).symm
    rw [hos] at hoi
    simp only [asI, List.map_append, List.map_cons, List.map_nil] at hoi
    obtain ⟨i', t', rfl, hoi'⟩ := asI_snoc_inv hoi
    subst hbo

    have ht := isTup_base' had
    have ho := isTup_base' hoa
    have hlen : (i' ++ [Value.int (k9 : Int) t']).length = i'.length + 1 := by simp
    (try dsimp only)
    (try k_fold)
    k_steps
    all_goals (
    rename Fr _ _ _ _ => F9; rename News _ _ _ _ => N9
    try rw [hlen, Nat.add_sub_cancel, List.take_left] at N9
    first
      | (exfalso; omega)
      | exact hQ _ _ (tups _) _ _ (kept_nil F9) (fresh_none N9) ⟨_, _, rfl, .inr (tups_mem.mpr ⟨by k_mem, rfl⟩)⟩ hoi')
    )
  case ret => obtain ⟨_, ad, na, rfl, had⟩ := R; (
    have ht := isTup_base' had
    (try dsimp only)
    (try k_fold)
    k_steps
    rename Fr _ _ _ _ => F9; rename News _ _ _ _ => N9
    cases hbh; exact hQ _ _ [] _ _ (kept_nil F9) (fun _ h => nomatch h) ⟨_, _, rfl, .inl hoaG⟩ hoi)
end checks
end Mine
namespace Mine
set_option maxHeartbeats 8000000 in
theorem fill7 (P : Params) : PySem.Challenge.rw_on0120_01 = PySem.Challenge.rw_on0120_01 ∧ Mine.hd.heap_1 P = Mine.hd.heap_1 P := by
  w_top off
  k_fill
  exact ⟨rfl, rfl⟩
section targets
local macro_rules | `(tactic| walk_at "subscriptTail Name UnaryOp ref int") => `(tactic| (((with_reducible refine' last_LB _ _ _ _) <;> walk_at "MINE S")))
local macro_rules | `(tactic| walk_at "subscriptTail Name Name ref int") => `(tactic| (((with_reducible refine' item_LB _ _ _ _ _ _) <;> walk_at "MINE S")))
open PySem.Spec PyProof.V
local macro_rules | `(tactic| walk_at "call builtin:len") => `(tactic| (((with_reducible refine' len_LB _ _ _ _) <;> walk_at "MINE S")))
local macro_rules | `(tactic| walk_at "call type:range") => `(tactic| (((with_reducible refine' range_N _ _ _) <;> walk_at "MINE S"); intro h' r' a' b' c' tk' hr' F' N'))
local macro_rules | `(tactic| walk_at "pyIter ref") => `(tactic| refine stop_here ?_)
local macro_rules | `(tactic| walk_at "call ref") => `(tactic| (with_reducible refine stop_here ?_))
local macro_rules | `(tactic| walk_at "exec For") => `(tactic| refine stop_here ?_)
variable {prog : Program} {w : World} {p : Program} {loose : List Str} {mean : ExcName → Option Value} {mg mb : Str → Option Value} {b0 : Heap} {A : Around} {s : Shared} {Q : Value → Shared → Prop} {E : Value → Shared → Prop}
theorem last_row {G : Says} {ws : List Value} {rows : List Row} {r : Row} (R : RwsG G ws rows) (hlast : rows.getLast? = some r) : ∃ wi wl, ws = wi ++ [wl] ∧ RwG G wl r := by
  obtain ⟨rs', hrs⟩ := List.getLast?_eq_some_iff.mp hlast
  have h1 := R.length
  obtain ⟨v, hv, hw⟩ := R.get rs'.length (r := r) (by rw [hrs]; simp)
  have h2 : ws.length = rs'.length + 1 := by rw [h1, hrs]; simp
  have hne : ws ≠ [] := by intro e; rw [e] at h2; simp at h2
  refine ⟨ws.dropLast, v, ?_, hw⟩
  have h3 := List.dropLast_concat_getLast hne
  have h4 : ws.getLast hne = v := by
    rw [List.getLast_eq_getElem]
    have := (List.getElem?_eq_some_iff.mp hv).2
    simp only [h2, Nat.add_sub_cancel]
    exact this
  rw [← h4]; exact h3.symm
theorem hG_in {g h : Heap} {L : Addr} {m : Str → Option Value} (F : Fr g L h m) : Says.sub (hG g) (hG h) := fun _ _ _ x => F.keep _ _ x

set_option maxHeartbeats 3200000 in
theorem target_faults_spec {cl : Addr} {ws : List Value} {nc : Nat} {rows : List Row} (X0 : (Mine.hd.heap_1 w.params).In b0) (T0 : Top p loose mean mg mb b0) (hb : b0.StaysIn s.heap)
    (hh : A.handled = none) (hdp : A.depth ≤ 870) (hun : A.units ≤ 7980) (hcl : s.heap.get? cl = some (lsO ws nc)) (R : RwsG (hG s.heap) ws rows) (hlen : ws.length ≤ 4000)
    (htg : ∀ r ∈ rows, ∀ t ∈ tg r, t < ws.length) (hlast : rows.getLast? = some .ret)
    (hQ : ∀ h' D tk', Kept [] s.heap h' → h'.get? D = some (lsO [] 0) → s.heap.get? D = none → Q (.ref D) { s with heap := h', toks := tk' }) :
    wpAny (model prog w) A (call (.ref 225) [.ref cl]) Q E s := by
  obtain ⟨hA, dp, fr, gd, un⟩ := A
  cases hh
  dsimp only at hdp hun
  first | have hd1 : dp + 1 ≤ _ := Nat.add_le_add_right hdp 1 | have hd1 : dp + 1 ≤ 850 := by omega | skip
  first | have hu3 : un + 3 ≤ _ := Nat.add_le_add_right hun 3 | have hu3 : un + 3 ≤ 7990 := by omega | skip
  obtain ⟨sh, sg1, sd, stk, sos⟩ := s
  have hl : sh.IsList cl ws.toArray := ⟨_, hcl, rfl, nc, rfl⟩
  refine wpAny_call (enterH (binds := [(nm "code", Value.ref cl)]) [] X0 T0 hb (fun _ h => nomatch h) (by k_is) (by k_is) (by show dp < 1000; omega) (by exact BindsTo.of_eq rfl) (by exact locs rfl) ?_ (by exact rfl) (by exact rfl) (by exact rfl) (by decide))
  intro g' L' h' eg FG' N' X' T'
  have eg2 : g' = sh := eg
  subst eg2
  (try dsimp only)
  (try k_fold)
  k_steps
  rename IsRange _ _ _ _ _ _ _ _ => hrg
  rename Fr _ _ _ _ => F9; rename News _ _ _ _ => N9
  rename_i fa _ _ _ _ _ _ _ _ _ _ _
  refine stop_out ?_
  refine loop_rangeS [nm "target"] (n := ws.length) (fun i nx => nx = [(fa, lsO [] 0)]) rfl hrg (by omega) (by omega) F9 N9 rfl ?_ ?_
  · intro i t u nx h tk I io hi hJ hnI hio F9 N9
    (try k_fold)
    subst hJ
    rw [Int.zero_add] at F9
    change Fr g' L' h _ at F9
    change News g' L' h _ at N9
    obtain ⟨r, hr⟩ : ∃ r, rows[i]? = some r := ⟨_, List.getElem?_eq_getElem (R.length ▸ hi)⟩
    obtain ⟨v, hv, hrw⟩ := R.get i hr
    have hfi := neN (hnI _ (.head _))
    dsimp only at hfi
    k_steps
    rename Fr _ _ _ _ => F9
    refine stop_out ?_
    refine row_targets_spec X' T' F9.keep rfl (by simp only [depth_deeper]; omega) (by simp only [Around.deeper_units]; omega) (hrw.mono (hG_in F9)) ?_
    intro h1 v' nw its tk' K W TP IA
    have hap := W.ap N9
    obtain ⟨F9, N9⟩ := K.back0 F9 N9 (fun p hp => ⟨(W p hp).1, (W p hp).2.1⟩)
    obtain ⟨D, nD, rfl, hD⟩ := TP
    k_steps
    refine stop_out ?_
    refine loop_tupleLS [] (fun i nx => nx = [(I, io), (fa, lsO [] 0)] ++ nw) rfl (List.mem_append_right _ hD) F9 N9 rfl ?_ ?_
    · intro j v2 u2 nx h2 tk2 I2 io2 lo2 hj hJ hnI2 hio2 F9 N9
      subst hJ
      obtain ⟨tn, t2, rfl, htn⟩ := IA.at j _ hj
      have hlt : ∃ tn' : Nat, tn = tn' ∧ tn' < ws.length := by
        have h7 := List.mem_of_getElem? htn
        simp only [asI, List.mem_map] at h7
        obtain ⟨t', h8, rfl⟩ := h7
        exact ⟨t', rfl, htg r (List.mem_of_getElem? hr) t' h8⟩
      obtain ⟨tn, rfl, hlt⟩ := hlt
      change Fr g' L' h2 _ at F9
      change News g' L' h2 _ at N9
      k_steps
      rename Fr _ _ _ _ => F9; rename News _ _ _ _ => N9
      exact LlEnd.intro F9 N9 (fun _ hp => hp) hnI2 ⟨by walk_at "MINE lps", rfl⟩
    · intro u2 nx h2 tk2 hJ F9 N9
      (try k_fold)
      subst hJ
      change Fr g' L' h2 _ at F9
      change News g' L' h2 _ at N9
      k_steps
      rename Fr _ _ _ _ => F9; rename News _ _ _ _ => N9
      exact LpEnd.intro F9 N9 (nx := [(fa, lsO [] 0)]) (by walk_at "MINE sub") hnI ⟨by walk_at "MINE lps", rfl⟩
  · intro u2 nx h2 tk2 hJ F9 N9
    (try k_fold)
    subst hJ
    change Fr g' L' h2 _ at F9
    change News g' L' h2 _ at N9
    obtain ⟨wi, wl, hws, hwl⟩ := last_row R hlast
    subst hws
    have hpos : 0 < (wi ++ [wl]).length := by simp
    k_steps
    · exfalso; omega
    rename Fr _ _ _ _ => F9; rename News _ _ _ _ => N9
    refine stop_out ?_
    refine falls_spec X' T' F9.keep rfl (by simp only [depth_deeper]; omega) (by simp only [Around.deeper_units]; omega) (hwl.mono (hG_in F9)) ?_
    intro h3 tk3 K3
    obtain ⟨F9, N9⟩ := K3.back0 (nw := []) F9 N9 (fun _ h => nomatch h)
    k_steps
    rename Fr _ _ _ _ => F9; rename News _ _ _ _ => N9
    show Q _ _
    exact hQ _ _ _ (kept_nil F9) (N9 _ (.head _)).1 (N9 _ (.head _)).2.2
end targets
end Mine
namespace Mine
set_option maxHeartbeats 8000000 in
theorem fill8 (P : Params) : PySem.Challenge.rw_on0120_01 = PySem.Challenge.rw_on0120_01 ∧ Mine.hd.heap_1 P = Mine.hd.heap_1 P := by
  w_top off
  k_fill
  exact ⟨rfl, rfl⟩
noncomputable def OV (G : Says) (sc : Nat → List Nat) (a : Nat) (ov : Value) : Prop := ∃ its, TpG G ov its ∧ IntsAre its (asI (sc a))
noncomputable def PV (G : Says) (sc : Nat → List Nat) (len : Nat) (v : Value) : Prop := ∃ D n t a ov, v = .ref D ∧ G D (tpO [.int (a : Nat) t, ov] n) ∧ a < len ∧ OV G sc a ov
theorem OV.mono {G G' : Says} (h : G.sub G') {sc : Nat → List Nat} {a : Nat} {ov : Value} : OV G sc a ov → OV G' sc a ov := fun ⟨i, x, y⟩ => ⟨i, x.mono h, y⟩
theorem PV.mono {G G' : Says} (h : G.sub G') {sc : Nat → List Nat} {n : Nat} {v : Value} : PV G sc n v → PV G' sc n v := fun ⟨D, k, t, a, ov, e, x, y, z⟩ => ⟨D, k, t, a, ov, e, h _ _ _ x, y, z.mono h⟩
noncomputable def KV (G : Says) (sc : Nat → List Nat) (len : Nat) (kvs : List (Int × Value)) : Prop := ∀ a v, valueAt kvs a = some v → ∃ k : Nat, a = k ∧ k < len ∧ OV G sc k v
theorem KV.mono {G G' : Says} (h : G.sub G') {sc : Nat → List Nat} {n : Nat} {kvs : List (Int × Value)} (k : KV G sc n kvs) : KV G' sc n kvs := fun a v e => let ⟨j, x, y, z⟩ := k a v e; ⟨j, x, y, z.mono h⟩
theorem KV.set {G : Says} {sc : Nat → List Nat} {n a : Nat} {v : Value} {kvs : List (Int × Value)} (k : KV G sc n kvs) (ha : a < n) (hv : OV G sc a v) : KV G sc n (stored kvs (a : Int) v) := fun b u e => by
  rw [valueAt_stored] at e
  by_cases h : b = a
  · rw [if_pos h] at e; cases e; exact ⟨a, h, ha, hv⟩
  · rw [if_neg h] at e; exact k b u e
theorem RwG.tag {G : Says} {v : Value} : ∀ {r : Row}, RwG G v r → ∃ ad n x t rest, v = .ref ad ∧ G ad (tpO (.str x t :: rest) n) ∧ x ≠ nm "fork" ∧ (ft r = false → x = nm "jump" ∨ r = .ret)
  | .set _, ⟨_, _, _, ⟨a, n, e, h⟩, _⟩ => ⟨a, n, _, _, _, e, h, by decide, fun h => nomatch h⟩
  | .dis _, ⟨_, _, a, n, e, h⟩ => ⟨a, n, _, _, _, e, h, by decide, fun h => nomatch h⟩
  | .unl _ _, ⟨_, _, _, ⟨a, n, e, h⟩, _⟩ => ⟨a, n, _, _, _, e, h, by decide, fun h => nomatch h⟩
  | .jmp _, ⟨_, _, a, n, e, h⟩ => ⟨a, n, _, _, _, e, h, by decide, fun _ => .inl rfl⟩
  | .tim _ _, ⟨_, _, _, ⟨a, n, e, h⟩, _⟩ => ⟨a, n, _, _, _, e, h, by decide, fun h => nomatch h⟩
  | .agn _ _, ⟨_, _, _, a, n, e, h⟩ => ⟨a, n, _, _, _, e, h, by decide, fun h => nomatch h⟩
  | .ent _ _, ⟨_, _, _, a, n, e, h⟩ => ⟨a, n, _, _, _, e, h, by decide, fun h => nomatch h⟩
  | .lea _, ⟨_, _, a, n, e, h⟩ => ⟨a, n, _, _, _, e, h, by decide, fun h => nomatch h⟩
  | .ret, ⟨_, a, n, e, h⟩ => ⟨a, n, _, _, _, e, h, by decide, fun _ => .inr rfl⟩
inductive SfJ (prog : Program) (w : World) (sc : Nat → List Nat) (len : Nat) (fa kd pl : Addr) (n : Nat) (nx : List (Addr × Obj)) : Prop where
  | mk (pvs : List Value) (pn : Nat) (kvs : List (Int × Value)) (od : Obj) (nw : List (Addr × Obj)) (e : nx = (fa, lsO [] 0) :: (kd, od) :: (pl, lsO pvs pn) :: nw) (h1 : od.IsDictOf (intKind prog w) kvs) (h2 : ∀ p ∈ nw, p.2.cls = .type "tuple")
    (h3 : ∀ v ∈ pvs, PV (lG nw) sc len v) (h4 : KV (lG nw) sc len kvs) (h5 : kvs.length + unk kvs len ≤ len) (h6 : n = pvs.length + 2 * unk kvs len) (h7 : n ≤ 2 * len + 1) (h8 : Ap nw [(fa, lsO [] 0), (kd, lsO [] 0), (pl, lsO [] 0)]) : SfJ prog w sc len fa kd pl n nx
inductive StJ (sc : Nat → List Nat) (len : Nat) (fa kd pl : Addr) (od2 : Obj) (l : List Value) (nw5 : List (Addr × Obj)) (i : Nat) (nx : List (Addr × Obj)) : Prop where
  | mk (ps : List Value) (pm : Nat) (nwx : List (Addr × Obj)) (e : nx = (kd, od2) :: (pl, lsO (l ++ ps) pm) :: (fa, lsO [] 0) :: nwx) (h1 : ∀ p ∈ nw5, p ∈ nwx) (h2 : ∀ p ∈ nwx, p.2.cls = .type "tuple")
    (h3 : ∀ v ∈ ps, PV (lG nwx) sc len v) (h4 : ps.length = i) (h5 : Ap nwx [(fa, lsO [] 0), (kd, lsO [] 0), (pl, lsO [] 0)]) : StJ sc len fa kd pl od2 l nw5 i nx
section scopes
open PySem.Spec PyProof.V
local macro_rules | `(tactic| walk_at "subscriptTail Name Name ref int") => `(tactic| (((with_reducible refine' item_LB _ _ _ _ _ _) <;> walk_at "MINE S")))
local macro_rules | `(tactic| walk_at "call builtin:list.pop") => `(tactic| (k_dflt ((refine' pop_L _ _ _ _ _) <;> walk_at "MINE S"); intro h' F' N'))
local macro_rules | `(tactic| walk_at "call builtin:len") => `(tactic| walk_at "MINE len")
local macro_rules | `(tactic| walk_at "assign Tuple cons ref") => `(tactic| walk_at "MINE unpack")
local macro_rules | `(tactic| walk_at "compareOp In int ref") => `(tactic| walk_at "MINE in")
local macro_rules | `(tactic| walk_at "setItem ref int") => `(tactic| walk_at "MINE dset")
local macro_rules | `(tactic| walk_at "subscriptTail Name Name ref int") => `(tactic| walk_at "MINE ditem")
local macro_rules | `(tactic| walk_at "call builtin:len") => `(tactic| (k_dflt ((refine' len_TLS ?hm _ _ _ _; (case hm => with_reducible assumption)) <;> walk_at "MINE S")))
local macro_rules | `(tactic| walk_at "subscriptTail Name Constant ref int") => `(tactic| walk_at "MINE item")
local macro_rules | `(tactic| walk_at "compareOp NotEq ref ref") => `(tactic| (k_dflt ((refine' ne_TTS _ _ _ _ _ _ _ _) <;> walk_at "MINE S")))
local macro_rules | `(tactic| walk_at "call builtin:list.append") => `(tactic| walk_at "MINE append")
local macro_rules | `(tactic| walk_at "pyIter ref") => `(tactic| refine stop_here ?_)
local macro_rules | `(tactic| walk_at "call ref") => `(tactic| (with_reducible refine stop_here ?_))
local macro_rules | `(tactic| walk_at "exec While Compare") => `(tactic| refine stop_here ?_)
variable {prog : Program} {w : World} {p : Program} {loose : List Str} {mean : ExcName → Option Value} {mg mb : Str → Option Value} {b0 : Heap} {A : Around} {s : Shared} {Q : Value → Shared → Prop} {E : Value → Shared → Prop}
set_option maxHeartbeats 3200000 in
theorem scope_faults_spec {cl : Addr} {ws : List Value} {nc : Nat} {rows : List Row} {sc : Nat → List Nat} (X0 : (Mine.hd.heap_1 w.params).In b0) (T0 : Top p loose mean mg mb b0) (hb : b0.StaysIn s.heap)
    (hh : A.handled = none) (hdp : A.depth ≤ 870) (hun : A.units ≤ 7900) (hcl : s.heap.get? cl = some (lsO ws nc)) (R : RwsG (hG s.heap) ws rows) (hlen : ws.length ≤ 4000) (hpos : 0 < ws.length)
    (hty : Ty rows sc)
    (hQ : ∀ h' D tk' n, Kept [] s.heap h' → h'.get? D = some (lsO [] n) → s.heap.get? D = none → Q (.ref D) { s with heap := h', toks := tk' }) :
    wpAny (model prog w) A (call (.ref 232) [.ref cl]) Q E s := by
  obtain ⟨hA, dp, fr, gd, un⟩ := A
  cases hh
  dsimp only at hdp hun
  first | have hd1 : dp + 1 ≤ _ := Nat.add_le_add_right hdp 1 | have hd1 : dp + 1 ≤ 850 := by omega | skip
  first | have hu3 : un + 3 ≤ _ := Nat.add_le_add_right hun 3 | have hu3 : un + 3 ≤ 7990 := by omega | skip
  obtain ⟨sh, sg1, sd, stk, sos⟩ := s
  have hl : sh.IsList cl ws.toArray := ⟨_, hcl, rfl, nc, rfl⟩
  refine wpAny_call (enterH (binds := [(nm "code", Value.ref cl)]) [] X0 T0 hb (fun _ h => nomatch h) (by k_is) (by k_is) (by show dp < 1000; omega) (by exact BindsTo.of_eq rfl) (by exact locs rfl) ?_ (by exact rfl) (by exact rfl) (by exact rfl) (by decide))
  intro g' L' h' eg FG' N' X' T'
  have eg2 : g' = sh := eg
  subst eg2
  (try dsimp only)
  (try k_fold)
  k_steps
  rename Fr _ _ _ _ => F9; rename News _ _ _ _ => N9
  rename Obj.IsDictOf (intKind _ _) _ _ => hd0
  rename (_ == sysModules) = false => lo
  rename _ < _ => l1; rename _ < _ ∧ _ < _ => l2; rename _ < _ ∧ _ < _ ∧ _ < _ => l3; rename _ < _ ∧ _ < _ ∧ _ < _ ∧ _ < _ => l4
  rename FlatPairs _ _ _ => xx; clear xx
  rename FlatPairs _ _ _ => xx; clear xx
  rename_i fa _ _ _ _ kd _ od _ _ _ D0 _ D1 _ pl _ _
  have hfk : fa ≠ kd := neN (by omega)
  have hfp : fa ≠ pl := neN (by omega)
  have hkp : kd ≠ pl := neN (by omega)
  refine stop_out ?_
  refine whileS (nm "address") [nm "open_scopes", nm "row", nm "behind", nm "target"] (n₀ := 1 + 2 * ws.length) (SfJ prog w sc ws.length fa kd pl)
    F9 (Mine.News.sub N9 (l' := (fa, lsO [] 0) :: (kd, od) :: (pl, lsO [.ref D1] _) :: [(D1, tpO [.int (0 : Nat) _, .ref D0] _), (D0, tpO [] _)]) (by walk_at "MINE sub"))
    ⟨[.ref D1], _, [], od, _, rfl, hd0, by simp, fun v hv => by cases List.mem_singleton.mp hv; exact ⟨D1, _, _, 0, _, rfl, .head _, hpos, [], ⟨_, _, rfl, .tail _ (.head _)⟩, by rw [hty.zero]; exact IntsAre.nil⟩, fun a v e => by simp [valueAt] at e, by rw [unk_nil]; simp, by rw [unk_nil]; simp, by omega, Ap.of3 (by k_all) (by k_all) (by k_all)⟩ ?_
  intro n u nx h tk F9 N9 hJ
  (try k_fold)
  obtain ⟨pvs, pn, kvs, od, nw, rfl, hdk, hcls, hpv, hkv, hku, hn, hnm, hap⟩ := hJ
  rcases List.eq_nil_or_concat pvs with rfl | ⟨l, v, rfl⟩
  · k_steps
    rename Fr _ _ _ _ => F9; rename News _ _ _ _ => N9
    rename IntsAre _ _ => hI; rename List.Perm _ _ => hp
    have e1 := hp.length_eq
    cases hI with
    | cons _ _ _ => simp at e1
    | nil =>
      show Q _ _
      exact hQ _ _ _ _ (kept_nil F9) (N9 _ (.head _)).1 (N9 _ (.head _)).2.2
  · rw [List.concat_eq_append] at hpv hn N9
    obtain ⟨D, Dn, t, a, ov, rfl, hD, ha, hov⟩ := hpv _ (List.mem_append_right _ (.head _))
    replace hD : (D, tpO [Value.int (a : Nat) t, ov] Dn) ∈ nw := hD
    have hlp : 0 < (l ++ [Value.ref D]).length := by simp
    have hlm : (l ++ [Value.ref D]).length ≤ 10000 := by omega
    obtain ⟨r, hr⟩ : ∃ r, rows[a]? = some r := ⟨_, List.getElem?_eq_getElem (R.length ▸ ha)⟩
    obtain ⟨vr, hv, hrw⟩ := R.get a hr
    have hkl : kvs.length ≤ 4000 := by omega
    obtain ⟨oits, ⟨oa, noa, rfl, hoa⟩, hoi⟩ := hov
    replace hoa : (oa, tpO oits noa) ∈ nw := hoa
    obtain ⟨os', hbh, htg, hft, hret⟩ := hty.step a r hr
    have hol : oits.length ≤ 90 := by have h1 := hoi.length; simp only [asI, List.length_map] at h1; have h2 := hty.len a; omega
    rcases hval : valueAt kvs (a : Int) with _ | u0
    · have hin : (valueAt kvs (a : Int)).isSome = false := by rw [hval]; rfl
      have hunk := unk_stored (v := .ref oa) hval ws.length
      rw [if_pos ha] at hunk
      have hsl := stored_length_le kvs (a : Int) (.ref oa)
      k_steps
      rename Fr _ _ _ _ => F9; rename News _ _ _ _ => N9; rename Obj.IsDictOf (intKind _ _) _ _ => hdk2
      rename PySem.Obj => od2
      refine stop_out ?_
      refine behind_spec X' T' F9.keep rfl (by simp only [depth_deeper]; omega) (by simp only [Around.deeper_units]; omega) (hrw.mono (hG_in F9)) (G := lG nw) (fun b its n hm => (N9 _ (.tail _ (.tail _ (.tail _ hm)))).1) ⟨oa, noa, rfl, hoa⟩ hoi (by omega) hbh ?_
      intro h2 v' nw2 its2 tk2 K W TP IA
      have hap2 := W.ap N9
      obtain ⟨F9, N9⟩ := K.back0 F9 N9 (fun p hp => ⟨(W p hp).1, (W p hp).2.1⟩)
      obtain ⟨ob, nob, rfl, hob⟩ := TP
      simp only [List.cons_append] at N9
      obtain ⟨nw3, e3⟩ : ∃ x, x = nw ++ nw2 := ⟨_, rfl⟩
      rw [← e3] at N9
      have s3 : ∀ p ∈ nw, p ∈ nw3 := fun p hp => e3 ▸ List.mem_append_left _ hp
      replace hob : (ob, tpO its2 nob) ∈ nw3 := e3 ▸ List.mem_append.mpr hob
      replace hoa : (oa, tpO oits noa) ∈ nw3 := s3 _ hoa
      have hcl3 : ∀ p ∈ nw3, p.2.cls = .type "tuple" := e3 ▸ all_app hcls (fun p hp => (W p hp).2.2)
      have hap3 : Ap nw3 [(fa, lsO [] 0), (kd, lsO [] 0), (pl, lsO [] 0)] := by
        rw [e3]; exact Ap.of3 (all_app (hap.ne (by k_mem)) (hap2.ne (by k_mem))) (all_app (hap.ne (by k_mem)) (hap2.ne (by k_mem))) (all_app (hap.ne (by k_mem)) (hap2.ne (by k_mem)))
      obtain ⟨ad, an, tgx, tgt, tgr, rfl, had, hnf, hjr⟩ := hrw.tag
      have htp := isTup_base' had
      have hov3 : OV (lG nw3) sc a (.ref oa) := ⟨oits, ⟨oa, noa, rfl, hoa⟩, hoi⟩
      have hrl := R.length
      have hz : ft r = false → tgx ≠ nm "jump" → oits.length = 0 := fun h1 h2 => by
        rcases hjr h1 with h3 | h3
        · exact absurd h3 h2
        · have h4 := hoi.length; rw [hret h3] at h4; simpa [asI] using h4
      k_steps
      rename Fr _ _ _ _ => F9; rename News _ _ _ _ => N9
      refine stop_out ?_
      refine falls_spec X' T' F9.keep rfl (by simp only [depth_deeper]; omega) (by simp only [Around.deeper_units]; omega) (hrw.mono (hG_in F9)) ?_
      intro h3 tk3 K3
      obtain ⟨F9, N9⟩ := K3.back0 (nw := []) F9 N9 (fun _ h => nomatch h)
      rw [List.append_nil] at N9
      refine join2 (P := fun h tk => qk .next ⟨h, sg1, sd, tk, sos⟩) F9 N9 ?_ ?_
      · intro h tk F9 N9
        k_steps
        rename Fr _ _ _ _ => F9; rename News _ _ _ _ => N9
        refine stop_out ?_
        refine row_targets_spec X' T' F9.keep rfl (by simp only [depth_deeper]; omega) (by simp only [Around.deeper_units]; omega) (hrw.mono (hG_in F9)) ?_
        intro h4 v4 nw4 its4 tk4 K4 W4 TP4 IA4
        have hap4 := W4.ap N9
        obtain ⟨F9, N9⟩ := K4.back0 F9 N9 (fun p hp => ⟨(W4 p hp).1, (W4 p hp).2.1⟩)
        obtain ⟨tD, tDn, rfl, htD⟩ := TP4
        simp only [List.cons_append] at N9
        obtain ⟨nw5, e5⟩ : ∃ x, x = nw3 ++ nw4 := ⟨_, rfl⟩
        rw [← e5] at N9
        have s5 : ∀ p ∈ nw3, p ∈ nw5 := fun p hp => e5 ▸ List.mem_append_left _ hp
        replace htD : (tD, tpO its4 tDn) ∈ nw5 := e5 ▸ List.mem_append_right _ htD
        have hcl5 : ∀ p ∈ nw5, p.2.cls = .type "tuple" := e5 ▸ all_app hcl3 (fun p hp => (W4 p hp).2.2)
        have hap5 : Ap nw5 [(fa, lsO [] 0), (kd, lsO [] 0), (pl, lsO [] 0)] := by
          rw [e5]; exact Ap.of3 (all_app (hap3.ne (by k_mem)) (hap4.ne (by k_mem))) (all_app (hap3.ne (by k_mem)) (hap4.ne (by k_mem))) (all_app (hap3.ne (by k_mem)) (hap4.ne (by k_mem)))
        have htl : its4.length ≤ 1 := by have h1 := IA4.length; simp only [asI, List.length_map] at h1; have h2 := tg_le r; omega
        have hne1 : tD ≠ pl := hap5 _ htD (pl, lsO [] 0) (by k_mem)
        k_steps
        refine stop_out ?_
        refine loop_tupleLS [] (StJ sc ws.length fa kd pl od2 l nw5) rfl (.tail _ (.tail _ (.tail _ htD))) F9 N9 ⟨[], pn + 1, nw5, by rw [List.append_nil], fun _ h => h, hcl5, fun _ h => (nomatch h), rfl, hap5⟩ ?_ ?_
        · intro j v5 u5 nx h5 tk5 I io lo5 hj hJ hnI hio F9 N9
          (try k_fold)
          obtain ⟨ps, pm, nwx, rfl, sx, hclx, hpx, hpl, hapx⟩ := hJ
          change Fr g' L' h5 _ at F9
          change News g' L' h5 _ at N9
          obtain ⟨tn, t5, rfl, htn⟩ := IA4.at j _ hj
          obtain ⟨t', ht', rfl⟩ : ∃ t' ∈ tg r, (t' : Int) = tn := by
            have h7 := List.mem_of_getElem? htn
            simp only [asI, List.mem_map] at h7
            exact h7
          obtain ⟨hlt, hsc⟩ := htg t' ht'
          have hi1 := neN (hnI _ (.head _)); have hi2 := neN (hnI _ (.tail _ (.head _))); have hi3 := neN (hnI _ (.tail _ (.tail _ (.head _))))
          dsimp only at hi1 hi2 hi3
          have hjl : j < its4.length := (List.getElem?_eq_some_iff.mp hj).1
          have hapl : (l ++ ps).length ≤ 9990 := by simp only [List.length_append, List.length_cons, List.length_nil] at hlm hn ⊢; omega
          k_steps
          · rename (_ == _) = true => a9
            exact absurd (by simpa using a9) hnf
          · rename Fr _ _ _ _ => F9; rename News _ _ _ _ => N9; rename _ < _ ∧ _ => l9; rename_i D9 _ _ _ _
            obtain ⟨l91, l92, l93, l94, l95, l96⟩ := l9
            refine LlEnd.intro F9 N9 (nx := (kd, od2) :: (pl, lsO ((l ++ ps) ++ [.ref D9]) (pm + 1)) :: (fa, lsO [] 0) :: (D9, tpO [.int (t' : Nat) t5, .ref oa] 0) :: nwx) (by walk_at "MINE sub") ?_ ⟨by walk_at "MINE lps", ps ++ [.ref D9], pm + 1, (D9, tpO [.int (t' : Nat) t5, .ref oa] 0) :: nwx, by rw [List.append_assoc], fun p hp => .tail _ (sx p hp), ?_, ?_, ?_, ?_⟩
            · exact List.forall_mem_cons.mpr ⟨hi1, List.forall_mem_cons.mpr ⟨hi2, List.forall_mem_cons.mpr ⟨hi3, List.forall_mem_cons.mpr ⟨Nat.ne_of_gt l91, fun p hp => hnI p (.tail _ (.tail _ (.tail _ hp)))⟩⟩⟩⟩
            · exact List.forall_mem_cons.mpr ⟨rfl, hclx⟩
            · intro v hv
              rcases List.mem_append.mp hv with hv | hv
              · exact (hpx v hv).mono (lG_sub fun p hp => .tail _ hp)
              · cases List.mem_singleton.mp hv
                exact ⟨D9, _, t5, t', _, rfl, .head _, by omega, by unfold OV; rw [hsc]; exact OV.mono (lG_sub fun p hp => .tail _ (sx _ (s5 _ hp))) hov3⟩
            · rw [List.length_append, hpl]; rfl
            · exact Ap.of3 (List.forall_mem_cons.mpr ⟨Nat.ne_of_gt l95, hapx.ne (by k_mem)⟩) (List.forall_mem_cons.mpr ⟨Nat.ne_of_gt l93, hapx.ne (by k_mem)⟩) (List.forall_mem_cons.mpr ⟨Nat.ne_of_gt l94, hapx.ne (by k_mem)⟩)
        · intro u5 nx h5 tk5 hJ F9 N9
          (try k_fold)
          obtain ⟨ps, pm, nwx, rfl, sx, hclx, hpx, hpl, hapx⟩ := hJ
          change Fr g' L' h5 _ at F9
          change News g' L' h5 _ at N9
          have hapl : (l ++ ps).length ≤ 9990 := by simp only [List.length_append, List.length_cons, List.length_nil] at hlm hn ⊢; omega
          k_steps
          rename Fr _ _ _ _ => F9; rename News _ _ _ _ => N9
          refine stop_out ?_
          refine falls_spec X' T' F9.keep rfl (by simp only [depth_deeper]; omega) (by simp only [Around.deeper_units]; omega) (hrw.mono (hG_in F9)) ?_
          intro h6 tk6 K6
          obtain ⟨F9, N9⟩ := K6.back0 (nw := []) F9 N9 (fun _ h => nomatch h)
          rw [List.append_nil] at N9
          have sx3 : ∀ p ∈ nw3, p ∈ nwx := fun p hp => sx _ (s5 _ hp)
          have sx0 : ∀ p ∈ nw, p ∈ nwx := fun p hp => sx3 _ (s3 _ hp)
          have hpall : ∀ v ∈ l ++ ps, PV (lG nwx) sc ws.length v := fun v hv => (List.mem_append.mp hv).elim (fun hv => (hpv v (List.mem_append_left _ hv)).mono (lG_sub sx0)) (hpx v)
          have hkv2 : KV (lG nwx) sc ws.length (stored kvs (a : Int) (.ref oa)) := (hkv.mono (lG_sub sx0)).set ha (hov3.mono (lG_sub sx3))
          k_steps
          all_goals first
          | rename ft r = true => a1
            rename Fr _ _ _ _ => F9; rename News _ _ _ _ => N9; rename _ < _ ∧ _ => l9; rename_i D9 _ _ _ _
            obtain ⟨l93, l94, l95, l96⟩ := l9
            obtain ⟨hlt1, hsc1⟩ := hft a1
            rw [show ((a : Int) + 1) = ((a + 1 : Nat) : Int) from rfl] at N9
            refine WhileStep2.intro F9 (Mine.News.sub N9 (l' := (fa, lsO [] 0) :: (kd, od2) :: (pl, lsO (l ++ ps ++ [.ref D9]) (pm + 1)) :: (D9, tpO [.int (a + 1 : Nat) _, .ref ob] 0) :: nwx) (by walk_at "MINE sub")) (n' := (l ++ ps ++ [Value.ref D9]).length + 2 * unk (stored kvs (a : Int) (.ref oa)) ws.length) (by simp only [List.length_append, List.length_cons, List.length_nil] at hn ⊢; omega) (by walk_at "MINE lps")
              ⟨_, _, _, od2, _, rfl, hdk2, List.forall_mem_cons.mpr ⟨rfl, hclx⟩, fun v hv => ?_, hkv2.mono (lG_sub fun p hp => .tail _ hp), by omega, rfl, by simp only [List.length_append, List.length_cons, List.length_nil] at hn ⊢; omega, Ap.of3 (List.forall_mem_cons.mpr ⟨Nat.ne_of_gt l95, hapx.ne (by k_mem)⟩) (List.forall_mem_cons.mpr ⟨Nat.ne_of_gt l93, hapx.ne (by k_mem)⟩) (List.forall_mem_cons.mpr ⟨Nat.ne_of_gt l94, hapx.ne (by k_mem)⟩)⟩
            rcases List.mem_append.mp hv with hv | hv
            · exact (hpall v hv).mono (lG_sub fun p hp => .tail _ hp)
            · cases List.mem_singleton.mp hv
              exact ⟨D9, _, _, a + 1, _, rfl, .head _, by omega, its2, ⟨ob, nob, rfl, .tail _ (sx3 _ hob)⟩, by rw [hsc1]; exact IA⟩
          | rename Fr _ _ _ _ => F9; rename News _ _ _ _ => N9
            exact WhileStep2.intro F9 (Mine.News.sub N9 (l' := (fa, lsO [] 0) :: (kd, od2) :: (pl, lsO (l ++ ps) pm) :: nwx) (by walk_at "MINE sub")) (n' := (l ++ ps).length + 2 * unk (stored kvs (a : Int) (.ref oa)) ws.length) (by simp only [List.length_append, List.length_cons, List.length_nil] at hn ⊢; omega) (by walk_at "MINE lps")
              ⟨_, _, _, od2, _, rfl, hdk2, hclx, hpall, hkv2, by omega, rfl, by simp only [List.length_append, List.length_cons, List.length_nil] at hn ⊢; omega, hapx⟩
      · intro key
        clear_value qk
        k_steps
        all_goals first
          | exact key _ _ (by assumption) (by assumption)
          | (exfalso; rename ft r = false => a1; rename (_ != _) = true => a2; rename (0 : Int) < _ => a3; have a4 := hz a1 (by rintro rfl; simp at a2); omega)
    · have hin : (valueAt kvs (a : Int)).isSome = true := by rw [hval]; rfl
      obtain ⟨k9, e9, hk9, uits, ⟨ua, nua, rfl, hua⟩, hui⟩ := hkv _ _ hval
      replace hua : (ua, tpO uits nua) ∈ nw := hua
      have e9 : a = k9 := by omega
      subst e9
      k_steps
      rename Fr _ _ _ _ => F9; rename News _ _ _ _ => N9
      refine WhileStep2.introC F9 (Mine.News.sub N9 (l' := (fa, lsO [] 0) :: (kd, od) :: (pl, lsO l (pn + 1)) :: nw) (by walk_at "MINE sub")) (n' := l.length + 2 * unk kvs ws.length) (by simp only [List.length_append, List.length_cons, List.length_nil] at hn; omega) (by walk_at "MINE lps") ⟨l, _, kvs, od, nw, rfl, hdk, hcls, fun v hv => hpv v (List.mem_append_left _ hv), hkv, hku, rfl, ?_, hap⟩
      simp only [List.length_append, List.length_cons, List.length_nil] at hn; omega
end scopes
end Mine
namespace Mine
set_option maxHeartbeats 8000000 in
theorem fill9 (P : Params) : PySem.Challenge.rw_on0120_01 = PySem.Challenge.rw_on0120_01 ∧ Mine.hd.heap_1 P = Mine.hd.heap_1 P := by
  w_top off
  k_fill
  exact ⟨rfl, rfl⟩
section check
open PySem.Spec PyProof.V
local macro_rules | `(tactic| walk_at "call ref") => `(tactic| refine stop_here ?_)
variable {prog : Program} {w : World} {p : Program} {loose : List Str} {mean : ExcName → Option Value} {mg mb : Str → Option Value} {b0 : Heap} {A : Around} {s : Shared} {Q : Value → Shared → Prop} {E : Value → Shared → Prop}
set_option maxHeartbeats 3200000 in
theorem check_code_spec {cl : Addr} {ws : List Value} {nc : Nat} {rows : List Row} {sc : Nat → List Nat} (X0 : (Mine.hd.heap_1 w.params).In b0) (T0 : Top p loose mean mg mb b0) (hb : b0.StaysIn s.heap)
    (hh : A.handled = none) (hdp : A.depth ≤ 860) (hun : A.units ≤ 7890) (hcl : s.heap.get? cl = some (lsO ws nc)) (R : RwsG (hG s.heap) ws rows) (hlen : ws.length ≤ 4000) (hpos : 0 < ws.length)
    (hty : Ty rows sc) (hlast : rows.getLast? = some .ret)
    (hQ : ∀ h' D tk' n, Kept [] s.heap h' → h'.get? D = some (lsO [] n) → s.heap.get? D = none → Q (.ref D) { s with heap := h', toks := tk' }) :
    wpAny (model prog w) A (call (.ref 239) [.ref cl]) Q E s := by
  obtain ⟨hA, dp, fr, gd, un⟩ := A
  cases hh
  dsimp only at hdp hun
  first | have hd1 : dp + 1 ≤ _ := Nat.add_le_add_right hdp 1 | have hd1 : dp + 1 ≤ 850 := by omega | skip
  first | have hu3 : un + 3 ≤ _ := Nat.add_le_add_right hun 3 | have hu3 : un + 3 ≤ 7990 := by omega | skip
  obtain ⟨sh, sg1, sd, stk, sos⟩ := s
  refine wpAny_call (enterH (binds := [(nm "code", Value.ref cl)]) [] X0 T0 hb (fun _ h => nomatch h) (by k_is) (by k_is) (by show dp < 1000; omega) (by exact BindsTo.of_eq rfl) (by exact locs rfl) ?_ (by exact rfl) (by exact rfl) (by exact rfl) (by decide))
  intro g' L' h' eg FG' N' X' T'
  have eg2 : g' = sh := eg
  subst eg2
  (try dsimp only)
  (try k_fold)
  k_steps
  rename Fr _ _ _ _ => F9; rename News _ _ _ _ => N9
  refine stop_out ?_
  refine target_faults_spec X' T' F9.keep rfl (by simp only [depth_deeper]; omega) (by simp only [Around.deeper_units]; omega) (F9.keep _ _ hcl) (R.mono (hG_in F9)) hlen (fun r hr t ht => ?_) hlast ?_
  · obtain ⟨i, hi⟩ := List.getElem?_of_mem hr
    obtain ⟨_, _, h1, _⟩ := hty.step i r hi
    have := (h1 t ht).1
    rw [R.length]; exact this
  intro h1 D tk1 K hD hDn
  obtain ⟨F9, N9⟩ := K.back0 (nw := [(D, lsO [] 0)]) F9 N9 (fun p hp => by cases List.mem_singleton.mp hp; exact ⟨hD, hDn⟩)
  rw [List.nil_append] at N9
  k_steps
  rename Fr _ _ _ _ => F9; rename News _ _ _ _ => N9
  refine stop_out ?_
  refine scope_faults_spec X' T' F9.keep rfl (by simp only [depth_deeper]; omega) (by simp only [Around.deeper_units]; omega) (F9.keep _ _ hcl) (R.mono (hG_in F9)) hlen hpos hty ?_
  intro h2 D2 tk2 n2 K2 hD2 hDn2
  obtain ⟨F9, N9⟩ := K2.back0 (nw := [(D2, lsO [] n2)]) F9 N9 (fun p hp => by cases List.mem_singleton.mp hp; exact ⟨hD2, hDn2⟩)
  simp only [List.cons_append, List.nil_append] at N9
  k_steps
  rename Fr _ _ _ _ => F9; rename News _ _ _ _ => N9
  show Q _ _
  exact hQ _ _ _ _ (kept_nil F9) (N9 _ (.tail _ (.head _))).1 (N9 _ (.tail _ (.head _))).2.2
end check
end Mine
namespace Mine
set_option maxHeartbeats 8000000 in
theorem fill10 (P : Params) : PySem.Challenge.rw_on0120_01 = PySem.Challenge.rw_on0120_01 ∧ Mine.hd.heap_1 P = Mine.hd.heap_1 P := by
  w_top off
  k_fill
  exact ⟨rfl, rfl⟩
section read
open PySem.Spec PyProof.V
local macro_rules | `(tactic| walk_at "call ref") => `(tactic| refine stop_here ?_)
local macro_rules | `(tactic| walk_at "call builtin:list.append") => `(tactic| walk_at "MINE append")
local macro_rules | `(tactic| walk_at "subscriptTail Name Constant ref int") => `(tactic| walk_at "MINE item")
local macro_rules | `(tactic| walk_at "subscriptTail Subscript Constant ref int") => `(tactic| walk_at "MINE item")
local macro_rules | `(tactic| walk_at "subscriptTail Subscript Name Constant Constant ref int") => `(tactic| walk_at "MINE item")
local macro_rules | `(tactic| walk_at "exec For Name Subscript cons nil") => `(tactic| (with_reducible refine stop_here ?_))
local macro_rules | `(tactic| walk_at "pyIter ref") => `(tactic| refine stop_here ?_)
local macro_rules | `(tactic| walk_at "call type:range") => `(tactic| (((with_reducible refine' range_N _ _ _) <;> walk_at "MINE S"); intro h' r' a' b' c' tk' hr' F' N'))
variable {prog : Program} {w : World} {p : Program} {loose : List Str} {mean : ExcName → Option Value} {mg mb : Str → Option Value} {b0 : Heap} {A : Around} {s : Shared} {Q : Value → Shared → Prop} {E : Value → Shared → Prop}
noncomputable def RdSpec (n : Nat) : Prop := ∀ ⦃prog : Program⦄ ⦃w : World⦄ ⦃p : Program⦄ ⦃loose : List Str⦄ ⦃mean : ExcName → Option Value⦄ ⦃mg mb : Str → Option Value⦄ ⦃b0 : Heap⦄ ⦃A : Around⦄ ⦃s : Shared⦄ ⦃Q : Value → Shared → Prop⦄ ⦃E : Value → Shared → Prop⦄
    (d : Sm) ⦃v : Value⦄ ⦃sn : Addr⦄ ⦃vs : List Value⦄ ⦃nc : Nat⦄, hgt d ≤ n → (Mine.hd.heap_1 w.params).In b0 → Top p loose mean mg mb b0 → b0.StaysIn s.heap →
    A.handled = none → A.depth + 2 * n ≤ 880 → A.units + 20 * n ≤ 7900 → s.heap.get? sn = some (lsO vs nc) → b0.get? sn = none → StG (hG s.heap) v d → vs.length + ob d ≤ 9000 →
    (∀ h' tk' t' us nc', Kept [sn] s.heap h' → h'.get? sn = some (lsO (vs ++ us) nc') → IntsAre us (asI (rd d).1) → Q (.int (lv (rd d).2) t') { s with heap := h', toks := tk' }) →
    wpAny (model prog w) A (call (.ref 288) [v, .ref sn]) Q E s
theorem read_call {n : Nat} (H : RdSpec n) {d : Sm} {v : Value} {sn : Addr} {vs : List Value} {nc : Nat} {g : Heap} {L : Addr} {m : Str → Option Value} {news rest : List (Addr × Obj)} (hd : hgt d ≤ n)
    (F : Fr g L s.heap m) (N : News g L s.heap news) (X : (Mine.hd.heap_1 w.params).In g) (T : Top p loose mean mg mb g) (U : Out sn (lsO vs nc) news rest) (hh : A.handled = none) (hdp : A.depth + 2 * n ≤ 880) (hun : A.units + 20 * n ≤ 7900)
    (R : StG (hG g) v d) (hz : vs.length + ob d ≤ 9000)
    (h : ∀ h' tk' t' us nc', Fr g L h' m → News g L h' ((sn, lsO (vs ++ us) nc') :: rest) → IntsAre us (asI (rd d).1) → us.length ≤ ob d → Q (.int (lv (rd d).2) t') { s with heap := h', toks := tk' }) :
    wpAny (model prog w) A (call (.ref 288) [v, .ref sn]) Q E s := by
  have z := N _ U.mem
  refine H d hd X T F.keep hh hdp hun z.1 z.2.2 (StG.mono (hG_in F) _ _ R) hz fun h' tk' t' us nc' K hsn IA => ?_
  have hS : ∀ a ∈ [sn], ∃ o, (a, o) ∈ news := fun a ha => by cases List.mem_singleton.mp ha; exact ⟨_, U.mem⟩
  refine h h' tk' t' us nc' (K.fr F N hS) (K.news (nw := []) F N (fun q hq => ?_) fun _ h => nomatch h) IA (by have h1 := IA.length; simp only [asI, List.length_map] at h1; have h2 := rd_ob d; omega)
  rcases List.mem_cons.mp hq with rfl | hq
  · exact .inr (.inl ⟨hsn, _, U.mem⟩)
  · exact .inl ⟨(U.rest _ hq).1, fun e => (U.rest _ hq).2 (List.mem_singleton.mp e)⟩
theorem one_sub {h : Heap} {sn : Addr} {vs : List Value} {nc : Nat} (hsn : h.get? sn = some (lsO vs nc)) : Says.sub (Mine.hG h) (Mine.hG (hideAll h ([(sn, lsO vs nc)].map (·.1)))) := hide_sub fun a ha o ho hc => by
  cases List.mem_singleton.mp ha
  rw [hsn] at ho; cases ho; exact absurd hc (by show ¬ ((Value.type "list") = .type "tuple"); decide)
set_option maxHeartbeats 3200000 in
theorem read_none {sn : Addr} {vs : List Value} {nc : Nat} (X0 : (Mine.hd.heap_1 w.params).In b0) (T0 : Top p loose mean mg mb b0) (hb : b0.StaysIn s.heap) (hh : A.handled = none) (hdp : A.depth ≤ 880) (hun : A.units ≤ 7900) (hsn : s.heap.get? sn = some (lsO vs nc)) (hsb : b0.get? sn = none)
    (hQ : ∀ h' tk' t', Kept [sn] s.heap h' → h'.get? sn = some (lsO vs nc) → Q (.int (-1) t') { s with heap := h', toks := tk' }) :
    wpAny (model prog w) A (call (.ref 288) [.none, .ref sn]) Q E s := by
  obtain ⟨hA, dp, fr, gd, un⟩ := A
  cases hh
  dsimp only at hdp hun
  first | have hd1 : dp + 1 ≤ _ := Nat.add_le_add_right hdp 1 | have hd1 : dp + 1 ≤ 850 := by omega | skip
  first | have hu3 : un + 3 ≤ _ := Nat.add_le_add_right hun 3 | have hu3 : un + 3 ≤ 7990 := by omega | skip
  have hcel : ∀ c ∈ [(sn, lsO vs nc)], s.heap.get? c.1 = some c.2 ∧ b0.get? c.1 = none := fun c hc => by cases List.mem_singleton.mp hc; exact ⟨hsn, hsb⟩
  refine wpAny_call (enterH (binds := [(nm "s", Value.none), (nm "seen", Value.ref sn)]) [(sn, lsO vs nc)] X0 T0 hb hcel (by k_is) (by k_is) (by show dp < 1000; omega) (by exact BindsTo.of_eq rfl) (by exact locs rfl) ?_ (by exact rfl) (by exact rfl) (by exact rfl) (by decide))
  intro g' L' h' eg FG' N' X' T'
  (try dsimp only)
  (try k_fold)
  k_steps
  show Q _ _
  exact hQ _ _ _ (kept_of eg FG') (N' _ (.head _)).1
theorem none_call {sn : Addr} {vs : List Value} {nc : Nat} {g : Heap} {L : Addr} {m : Str → Option Value} {news rest : List (Addr × Obj)}
    (F : Fr g L s.heap m) (N : News g L s.heap news) (X : (Mine.hd.heap_1 w.params).In g) (T : Top p loose mean mg mb g) (U : Out sn (lsO vs nc) news rest) (hh : A.handled = none) (hdp : A.depth ≤ 880) (hun : A.units ≤ 7900)
    (h : ∀ h' tk' t', Fr g L h' m → News g L h' ((sn, lsO vs nc) :: rest) → Q (.int (-1) t') { s with heap := h', toks := tk' }) :
    wpAny (model prog w) A (call (.ref 288) [.none, .ref sn]) Q E s := by
  have z := N _ U.mem
  refine read_none X T F.keep hh hdp hun z.1 z.2.2 fun h' tk' t' K hsn => ?_
  have hS : ∀ a ∈ [sn], ∃ o, (a, o) ∈ news := fun a ha => by cases List.mem_singleton.mp ha; exact ⟨_, U.mem⟩
  refine h h' tk' t' (K.fr F N hS) (K.news (nw := []) F N (fun q hq => ?_) fun _ h => nomatch h)
  rcases List.mem_cons.mp hq with rfl | hq
  · exact .inr (.inl ⟨hsn, _, U.mem⟩)
  · exact .inl ⟨(U.rest _ hq).1, fun e => (U.rest _ hq).2 (List.mem_singleton.mp e)⟩
theorem read_zero : RdSpec 0 := by
    intro prog w p loose mean mg mb b0 A s Q E d v sn vs nc hd
    exfalso
    cases d <;> simp only [hgt] at hd <;> omega
set_option maxHeartbeats 3200000 in
theorem read_succ (n : Nat) (H : RdSpec n) : RdSpec (n + 1) := by
    intro prog w p loose mean mg mb b0 A s Q E d v sn vs nc hd X0 T0 hb hh hdp hun hsn hsb R hz hQ
    obtain ⟨hA, dp, fr, gd, un⟩ := A
    cases hh
    dsimp only at hdp hun
    first | have hd1 : dp + 1 ≤ _ := Nat.add_le_add_right hdp 1 | have hd1 : dp + 1 ≤ 850 := by omega | skip
    first | have hu3 : un + 3 ≤ _ := Nat.add_le_add_right hun 3 | have hu3 : un + 3 ≤ 7990 := by omega | skip
    have hsub := one_sub hsn
    have hcel : ∀ c ∈ [(sn, lsO vs nc)], s.heap.get? c.1 = some c.2 ∧ b0.get? c.1 = none := fun c hc => by cases List.mem_singleton.mp hc; exact ⟨hsn, hsb⟩
    refine wpAny_call (enterH (binds := [(nm "s", v), (nm "seen", Value.ref sn)]) [(sn, lsO vs nc)] X0 T0 hb hcel (by k_is) (by k_is) (by show dp < 1000; omega) (by exact BindsTo.of_eq rfl) (by exact locs rfl) ?_ (by exact rfl) (by exact rfl) (by exact rfl) (by decide))
    intro g' L' h' eg FG' N' X' T'
    cases d with
    | set k =>
      simp only [StG] at R
      obtain ⟨t1, lvv, c, ⟨ad, na, rfl, had⟩, t2, t3, t4, t5, cd, nd, rfl, hcd⟩ := R
      have ht := isTup_base' (eg ▸ hsub _ _ _ had)
      have ht2 := isTup_base' (eg ▸ hsub _ _ _ hcd)
      simp only [ob] at hz
      (try dsimp only)
      (try k_fold)
      k_steps
      rename Fr _ _ _ _ => F9; rename News _ _ _ _ => N9
      show Q _ _
      exact hQ _ _ _ [.int k t4] _ (kept_of eg F9) (N9 _ (.head _)).1 (IntsAre.cons _ _ IntsAre.nil)
    | dis k =>
      simp only [StG] at R
      obtain ⟨t1, t2, ad, na, rfl, had⟩ := R
      have ht := isTup_base' (eg ▸ hsub _ _ _ had)
      (try dsimp only)
      (try k_fold)
      k_steps
      show Q _ _
      exact hQ _ _ _ [] _ (kept_of eg FG') (by rw [List.append_nil]; exact (N' _ (.head _)).1) IntsAre.nil
    | ite1 t a =>
      simp only [StG] at R
      obtain ⟨t1, c, va, ⟨ad, na, rfl, had⟩, ⟨t2, t3, t4, t5, cd, nd, rfl, hcd⟩, Ra⟩ := R
      have ht := isTup_base' (eg ▸ hsub _ _ _ had)
      have ht2 := isTup_base' (eg ▸ hsub _ _ _ hcd)
      have Ra' : StG (Mine.hG g') va a := eg ▸ StG.mono hsub _ _ Ra
      simp only [ob] at hz
      simp only [hgt] at hd
      simp only [rd] at hQ
      (try dsimp only)
      (try k_fold)
      k_steps
      · rename (t : Int) = 1 => e1
        have e1 : t = 1 := by omega
        refine stop_out ?_
        refine read_call H (by omega) FG' N' X' T' (by walk_at "MINE out") rfl (by simp only [depth_deeper]; omega) (by simp only [Around.deeper_units]; omega) Ra' hz ?_
        intro h1 tk1 t1 us nc1 F9 N9 IA _
        k_steps
        show Q _ _
        rw [if_pos e1] at hQ
        exact hQ _ _ _ us _ (kept_of eg F9) (N9 _ (.head _)).1 IA
      · rename ¬ (t : Int) = 1 => e1
        have e1 : ¬ t = 1 := by omega
        refine stop_out ?_
        refine none_call FG' N' X' T' (by walk_at "MINE out") rfl (by simp only [depth_deeper]; omega) (by simp only [Around.deeper_units]; omega) ?_
        intro h1 tk1 t1 F9 N9
        k_steps
        show Q _ _
        rw [if_neg e1] at hQ
        exact hQ _ _ _ [] _ (kept_of eg F9) (by rw [List.append_nil]; exact (N9 _ (.head _)).1) IntsAre.nil
    | ite2 t a b =>
      simp only [StG] at R
      obtain ⟨t1, c, va, vb, ⟨ad, na, rfl, had⟩, ⟨t2, t3, t4, t5, cd, nd, rfl, hcd⟩, Ra, Rb⟩ := R
      have ht := isTup_base' (eg ▸ hsub _ _ _ had)
      have ht2 := isTup_base' (eg ▸ hsub _ _ _ hcd)
      have Ra' : StG (Mine.hG g') va a := eg ▸ StG.mono hsub _ _ Ra
      have Rb' : StG (Mine.hG g') vb b := eg ▸ StG.mono hsub _ _ Rb
      simp only [ob] at hz
      simp only [hgt] at hd
      simp only [rd] at hQ
      (try dsimp only)
      (try k_fold)
      k_steps
      · rename (t : Int) = 1 => e1
        have e1 : t = 1 := by omega
        refine stop_out ?_
        refine read_call H (by omega) FG' N' X' T' (by walk_at "MINE out") rfl (by simp only [depth_deeper]; omega) (by simp only [Around.deeper_units]; omega) Ra' (by omega) ?_
        intro h1 tk1 t1 us nc1 F9 N9 IA _
        k_steps
        show Q _ _
        rw [if_pos e1] at hQ
        exact hQ _ _ _ us _ (kept_of eg F9) (N9 _ (.head _)).1 IA
      · rename ¬ (t : Int) = 1 => e1
        have e1 : ¬ t = 1 := by omega
        refine stop_out ?_
        refine read_call H (by omega) FG' N' X' T' (by walk_at "MINE out") rfl (by simp only [depth_deeper]; omega) (by simp only [Around.deeper_units]; omega) Rb' (by omega) ?_
        intro h1 tk1 t1 us nc1 F9 N9 IA _
        k_steps
        show Q _ _
        rw [if_neg e1] at hQ
        exact hQ _ _ _ us _ (kept_of eg F9) (N9 _ (.head _)).1 IA
    | blk l K =>
      simp only [StG] at R
      obtain ⟨t1, t2, vl, vsl, ⟨ad, na, rfl, had⟩, ⟨ld, nl, rfl, hld⟩, Rl⟩ := R
      have ht := isTup_base' (eg ▸ hsub _ _ _ had)
      have hld' : g'.get? ld = some (tpO vsl nl) := eg ▸ hsub _ _ _ hld
      have Rl' : SlG (Mine.hG g') vsl l := eg ▸ SlG.mono hsub _ _ Rl
      simp only [ob] at hz
      simp only [hgt] at hd
      simp only [rd] at hQ
      (try dsimp only)
      (try k_fold)
      k_steps
      refine stop_out ?_
      refine For_invV g' rfl rfl ?_
      k_steps
      rename Fr _ _ _ _ => F9; rename News _ _ _ _ => N9
      refine stop_out ?_
      refine loop_tupleS [nm "left"] (fun i nx => (rdL (l.take i)).2 = none ∧ ∃ us nc', nx = [(sn, lsO (vs ++ us) nc')] ∧ IntsAre us (asI (rdL (l.take i)).1)) rfl ⟨nl, hld'⟩ F9 N9 ⟨rfl, [], nc, by rw [List.append_nil], IntsAre.nil⟩ ?_ ?_
      · intro i v u nx h tk I io hi hJ hnI hio F9 N9
        (try k_fold)
        obtain ⟨hnone, us, nc', rfl, IA⟩ := hJ
        change Fr g' L' h _ at F9
        change News g' L' h _ at N9
        have hi1 := neN (hnI _ (.head _))
        dsimp only at hi1
        obtain ⟨d, hdl, Rd⟩ := Rl'.get i hi
        have hdm : d ∈ l := List.mem_of_getElem? hdl
        have hhg := hgtL_mem hdm
        have hob := obL_take hdl
        have hus : us.length ≤ obL (l.take i) := by have h1 := IA.length; simp only [asI, List.length_map] at h1; have h2 := rdL_ob (l.take i); omega
        k_steps
        rename Fr _ _ _ _ => F9
        refine stop_out ?_
        refine read_call H (d := d) (by omega) F9 N9 X' T' (by walk_at "MINE out") rfl (by simp only [depth_deeper]; omega) (by simp only [Around.deeper_units]; omega) Rd (by simp only [List.length_append]; omega) ?_
        intro h1 tk1 t1 us2 nc2 F9 N9 IA2 _
        have IA3 : IntsAre (us ++ us2) (asI ((rdL (l.take i)).1 ++ (rd d).1)) := by simp only [asI, List.map_append]; exact IA.append IA2
        rcases hrd : (rd d).2 with _ | j
        · have hrn := rdL_next hdl hnone
          rw [hrd] at hrn
          simp only [lv]
          k_steps
          rename Fr _ _ _ _ => F9; rename News _ _ _ _ => N9
          exact LpEnd.intro F9 N9 (nx := [(sn, lsO ((vs ++ us) ++ us2) nc2)]) (by walk_at "MINE sub") (fun p hp => by cases List.mem_singleton.mp hp; exact hi1) ⟨by walk_at "MINE lps", by rw [hrn], us ++ us2, nc2, by rw [List.append_assoc], by rw [hrn]; exact IA3⟩
        · have hrn := rdL_stop hdl hnone hrd
          rw [hrn] at hQ
          simp only [lv]
          simp only [Option.some.injEq] at hQ
          k_steps
          · rename (j : Int) = (K : Int) => e1
            rename Fr _ _ _ _ => F9; rename News _ _ _ _ => N9
            rw [if_pos (by omega : j = K)] at hQ
            show Q _ _
            exact hQ _ _ _ (us ++ us2) _ (kept_of eg F9) (by rw [← List.append_assoc]; exact (N9 _ (.head _)).1) IA3
          · rename (j : Int) ≠ (K : Int) => e1
            rename Fr _ _ _ _ => F9; rename News _ _ _ _ => N9
            rw [if_neg (by omega : ¬ j = K)] at hQ
            show Q _ _
            exact hQ _ _ _ (us ++ us2) _ (kept_of eg F9) (by rw [← List.append_assoc]; exact (N9 _ (.head _)).1) IA3
      · intro u nx h tk hJ F9 N9
        (try k_fold)
        obtain ⟨hnone, us, nc', rfl, IA⟩ := hJ
        change Fr g' L' h _ at F9
        change News g' L' h _ at N9
        have hll := Rl'.length
        rw [hll, List.take_length] at hnone IA
        simp only [hnone] at hQ
        k_steps
        rename Fr _ _ _ _ => F9; rename News _ _ _ _ => N9
        show Q _ _
        exact hQ _ _ _ us _ (kept_of eg F9) (N9 _ (.head _)).1 IA
    | rep c b =>
      simp only [StG] at R
      obtain ⟨t1, vc, vb, ⟨ad, na, rfl, had⟩, ⟨t2, t3, t4, t5, cd, nd, rfl, hcd⟩, Rb⟩ := R
      have ht := isTup_base' (eg ▸ hsub _ _ _ had)
      have ht2 := isTup_base' (eg ▸ hsub _ _ _ hcd)
      have Rb' : StG (Mine.hG g') vb b := eg ▸ StG.mono hsub _ _ Rb
      simp only [ob] at hz
      simp only [hgt] at hd
      simp only [rd] at hQ
      (try dsimp only)
      (try k_fold)
      k_steps
      rename IsRange _ _ _ _ _ _ _ _ => hrg
      rename Fr _ _ _ _ => F9; rename News _ _ _ _ => N9
      refine stop_out ?_
      have hcb : c ≤ c * (ob b + 1) := Nat.le_mul_of_pos_right _ (Nat.succ_pos _)
      refine loop_rangeS [nm "left"] (n := c) (fun i nx => (i = 0 ∨ (rd b).2 = none) ∧ ∃ us nc', nx = [(sn, lsO (vs ++ us) nc')] ∧ IntsAre us (asI (rdR (rd b) i).1)) rfl hrg (by omega) (by omega) F9 N9 ⟨.inl rfl, [], nc, by rw [List.append_nil], IntsAre.nil⟩ ?_ ?_
      · intro i tt u nx h tk I io hi hJ hnI hio F9 N9
        (try k_fold)
        obtain ⟨hnone, us, nc', rfl, IA⟩ := hJ
        change Fr g' L' h _ at F9
        change News g' L' h _ at N9
        have hi1 := neN (hnI _ (.head _))
        dsimp only at hi1
        have hm1 : (i + 1) * (ob b + 1) ≤ c * (ob b + 1) := Nat.mul_le_mul_right _ hi
        rw [Nat.succ_mul] at hm1
        have hus : us.length ≤ i * (ob b + 1) := by have h1 := IA.length; simp only [asI, List.length_map] at h1; have h2 := rdR_len (rd b) i; have h3 : i * (rd b).1.length ≤ i * (ob b + 1) := Nat.mul_le_mul_left _ (Nat.le_succ_of_le (rd_ob b)); omega
        k_steps
        rename Fr _ _ _ _ => F9
        refine stop_out ?_
        refine read_call H (d := b) (by omega) F9 N9 X' T' (by walk_at "MINE out") rfl (by simp only [depth_deeper]; omega) (by simp only [Around.deeper_units]; omega) Rb' (by simp only [List.length_append]; omega) ?_
        intro h1 tk1 t1 us2 nc2 F9 N9 IA2 _
        rcases hrd : (rd b).2 with _ | j
        · have IA3 : IntsAre (us ++ us2) (asI (rdR (rd b) (i + 1)).1) := by rw [rdR_none hrd]; simp only [asI, List.map_append]; exact IA.append IA2
          simp only [lv]
          k_steps
          rename Fr _ _ _ _ => F9; rename News _ _ _ _ => N9
          exact LpEnd.intro F9 N9 (nx := [(sn, lsO ((vs ++ us) ++ us2) nc2)]) (by walk_at "MINE sub") (fun p hp => by cases List.mem_singleton.mp hp; exact hi1) ⟨by walk_at "MINE lps", .inr (by first | exact hrd | trivial), us ++ us2, nc2, by rw [List.append_assoc], IA3⟩
        · have hi0 : i = 0 := hnone.elim id fun e => by rw [hrd] at e; cases e
          subst hi0
          have hus0 : us = [] := by cases IA; rfl
          subst hus0
          rw [List.append_nil] at N9
          rw [rdR_some hrd hi, hrd] at hQ
          simp only [lv]
          k_steps
          rename Fr _ _ _ _ => F9; rename News _ _ _ _ => N9
          show Q _ _
          exact hQ _ _ _ us2 _ (kept_of eg F9) (N9 _ (.head _)).1 IA2
      · intro u nx h tk hJ F9 N9
        (try k_fold)
        obtain ⟨hnone, us, nc', rfl, IA⟩ := hJ
        change Fr g' L' h _ at F9
        change News g' L' h _ at N9
        have h2 : (rdR (rd b) c).2 = none := hnone.elim (fun e => by rw [e]; rfl) fun e => rdR_none2 e c
        rw [h2] at hQ
        k_steps
        rename Fr _ _ _ _ => F9; rename News _ _ _ _ => N9
        show Q _ _
        exact hQ _ _ _ us _ (kept_of eg F9) (N9 _ (.head _)).1 IA
    | seq l =>
      simp only [StG] at R
      obtain ⟨t1, t2, vl, vsl, ⟨ad, na, rfl, had⟩, ⟨ld, nl, rfl, hld⟩, Rl⟩ := R
      have ht := isTup_base' (eg ▸ hsub _ _ _ had)
      have hld' : g'.get? ld = some (tpO vsl nl) := eg ▸ hsub _ _ _ hld
      have Rl' : SlG (Mine.hG g') vsl l := eg ▸ SlG.mono hsub _ _ Rl
      simp only [ob] at hz
      simp only [hgt] at hd
      simp only [rd] at hQ
      (try dsimp only)
      (try k_fold)
      k_steps
      refine stop_out ?_
      refine For_invV g' rfl rfl ?_
      k_steps
      rename Fr _ _ _ _ => F9; rename News _ _ _ _ => N9
      refine stop_out ?_
      refine loop_tupleS [nm "left"] (fun i nx => (rdL (l.take i)).2 = none ∧ ∃ us nc', nx = [(sn, lsO (vs ++ us) nc')] ∧ IntsAre us (asI (rdL (l.take i)).1)) rfl ⟨nl, hld'⟩ F9 N9 ⟨rfl, [], nc, by rw [List.append_nil], IntsAre.nil⟩ ?_ ?_
      · intro i v u nx h tk I io hi hJ hnI hio F9 N9
        (try k_fold)
        obtain ⟨hnone, us, nc', rfl, IA⟩ := hJ
        change Fr g' L' h _ at F9
        change News g' L' h _ at N9
        have hi1 := neN (hnI _ (.head _))
        dsimp only at hi1
        obtain ⟨d, hdl, Rd⟩ := Rl'.get i hi
        have hdm : d ∈ l := List.mem_of_getElem? hdl
        have hhg := hgtL_mem hdm
        have hob := obL_take hdl
        have hus : us.length ≤ obL (l.take i) := by have h1 := IA.length; simp only [asI, List.length_map] at h1; have h2 := rdL_ob (l.take i); omega
        k_steps
        rename Fr _ _ _ _ => F9
        refine stop_out ?_
        refine read_call H (d := d) (by omega) F9 N9 X' T' (by walk_at "MINE out") rfl (by simp only [depth_deeper]; omega) (by simp only [Around.deeper_units]; omega) Rd (by simp only [List.length_append]; omega) ?_
        intro h1 tk1 t1 us2 nc2 F9 N9 IA2 _
        have IA3 : IntsAre (us ++ us2) (asI ((rdL (l.take i)).1 ++ (rd d).1)) := by simp only [asI, List.map_append]; exact IA.append IA2
        rcases hrd : (rd d).2 with _ | j
        · have hrn := rdL_next hdl hnone
          rw [hrd] at hrn
          simp only [lv]
          k_steps
          rename Fr _ _ _ _ => F9; rename News _ _ _ _ => N9
          exact LpEnd.intro F9 N9 (nx := [(sn, lsO ((vs ++ us) ++ us2) nc2)]) (by walk_at "MINE sub") (fun p hp => by cases List.mem_singleton.mp hp; exact hi1) ⟨by walk_at "MINE lps", by rw [hrn], us ++ us2, nc2, by rw [List.append_assoc], by rw [hrn]; exact IA3⟩
        · have hrn := rdL_stop hdl hnone hrd
          rw [hrn] at hQ
          simp only [lv]
          k_steps
          all_goals first
            | (exfalso; omega)
            | (rename Fr _ _ _ _ => F9; rename News _ _ _ _ => N9
               show Q _ _
               exact hQ _ _ _ (us ++ us2) _ (kept_of eg F9) (by rw [← List.append_assoc]; exact (N9 _ (.head _)).1) IA3)
      · intro u nx h tk hJ F9 N9
        (try k_fold)
        obtain ⟨hnone, us, nc', rfl, IA⟩ := hJ
        change Fr g' L' h _ at F9
        change News g' L' h _ at N9
        have hll := Rl'.length
        rw [hll, List.take_length] at hnone IA
        simp only [hnone] at hQ
        k_steps
        rename Fr _ _ _ _ => F9; rename News _ _ _ _ => N9
        show Q _ _
        exact hQ _ _ _ us _ (kept_of eg F9) (N9 _ (.head _)).1 IA
theorem read_all (n : Nat) : RdSpec n := Nat.rec (motive := RdSpec) read_zero read_succ n
end read
end Mine
namespace Mine
set_option maxHeartbeats 8000000 in
theorem fill11 (P : Params) : PySem.Challenge.rw_on0120_01 = PySem.Challenge.rw_on0120_01 ∧ Mine.hd.heap_1 P = Mine.hd.heap_1 P := by
  w_top off
  k_fill
  exact ⟨rfl, rfl⟩
noncomputable def OpG (G : Says) : List Value → List (Nat × Nat) → Prop
  | [], [] => True
  | v :: vs, (k, a) :: l => (∃ D n t u, v = .ref D ∧ G D (tpO [.int k t, .int a u] n)) ∧ OpG G vs l
  | _, _ => False
noncomputable def CtG (kvs : List (Int × Value)) (ct : Nat → Option Int) : Prop := ∀ q x, ct q = some x → ∃ t, valueAt kvs (q : Int) = some (.int x t)
theorem CtG.set {kvs : List (Int × Value)} {ct : Nat → Option Int} (h : CtG kvs ct) (q : Nat) (x : Int) (t : Tok) : CtG (stored kvs (q : Int) (.int x t)) (upd ct q x) := fun k y e => by
  unfold upd at e
  rw [valueAt_stored]
  by_cases hk : k = q
  · rw [if_pos hk] at e; cases e; subst hk; exact ⟨t, if_pos rfl⟩
  · rw [if_neg hk] at e; rw [if_neg (by omega)]; exact h k y e
theorem OpG.mono {G G' : Says} (h : G.sub G') : ∀ {vs : List Value} {l : List (Nat × Nat)}, OpG G vs l → OpG G' vs l
  | [], [], _ => trivial
  | _ :: _, (_, _) :: _, ⟨⟨D, n, t, u, e, x⟩, y⟩ => ⟨⟨D, n, t, u, e, h _ _ _ x⟩, OpG.mono h y⟩
theorem OpG.snoc {G : Says} {D : Addr} {n k a : Nat} {t u : Tok} (x : G D (tpO [.int k t, .int a u] n)) : ∀ {vs : List Value} {l : List (Nat × Nat)}, OpG G vs l → OpG G (vs ++ [.ref D]) (l ++ [(k, a)])
  | [], [], _ => ⟨⟨D, n, t, u, rfl, x⟩, trivial⟩
  | _ :: _, (_, _) :: _, ⟨y, z⟩ => ⟨y, OpG.snoc x z⟩
theorem OpG.last {G : Says} {k a : Nat} : ∀ {vs : List Value} {l : List (Nat × Nat)}, OpG G vs (l ++ [(k, a)]) → ∃ us D n t u, vs = us ++ [.ref D] ∧ G D (tpO [.int k t, .int a u] n) ∧ OpG G us l
  | [_], [], ⟨⟨D, n, t, u, e, x⟩, _⟩ => ⟨[], D, n, t, u, by rw [e]; rfl, x, trivial⟩
  | v :: vs, (_, _) :: l, ⟨y, z⟩ => let ⟨us, D, n, t, u, e, x, w⟩ := OpG.last (l := l) z; ⟨v :: us, D, n, t, u, by rw [e]; rfl, x, y, w⟩
  | _ :: _ :: _, [], ⟨_, z⟩ => z.elim
  | [], [], z => z.elim
  | [], _ :: _, z => z.elim
inductive WkJ (prog : Program) (w : World) (L dc sn : Addr) (ms : MS) (i : Nat) (nx : List (Addr × Obj)) : Prop where
  | mk (od : Obj) (kvs : List (Int × Value)) (vs : List Value) (vk : Nat) (oc orw : Obj) (rv : Option Value) (oa : Addr) (ovs : List Value) (ok : Nat) (nw : List (Addr × Obj))
    (e : nx = (dc, od) :: (sn, lsO vs vk) :: (L + 1 + 1, orw) :: (L + 1, oc) :: (oa, lsO ovs ok) :: nw) (hd : od.IsDictOf (intKind prog w) kvs) (h1 : orw.data = .cell rv) (h2 : oc.data = .cell (some (.ref oa)))
    (h3 : IntsAre vs (asI ms.out)) (h4 : OpG (lG nw) ovs ms.op) (h5 : CtG kvs ms.ct) (k1 : kvs.length ≤ i) (k2 : vs.length ≤ i) (k3 : ovs.length ≤ i) (h6 : ∀ p ∈ nw, p.2.cls = .type "tuple")
    (h7 : Ap nw [(dc, lsO [] 0), (sn, lsO [] 0), (L + 1 + 1, lsO [] 0), (L + 1, lsO [] 0), (oa, lsO [] 0)]) (g1 : oa ≠ dc) (g2 : oa ≠ sn) (g3 : oa ≠ L + 1 + 1) (g4 : oa ≠ L + 1) : WkJ prog w L dc sn ms i nx
section eqnil
variable {prog : Program} {w : World} {A : Around} {E : Value → Shared → Prop} {s : Shared} {h₀ : Heap} {L a b : Addr} {news : List (Addr × Obj)} {vs : List Value} {n k : Nat}
theorem eq_some_nil {Q : Value → Shared → Prop} (N : News h₀ L s.heap news) (ha : (a, lsO vs n) ∈ news) (hb : (b, lsO [] k) ∈ news) (hz : 0 < vs.length) (hu : A.units ≤ 9000) (h : Q (.bool false) s) :
    wpAny (model prog w) A (compareOp .Eq (.ref a) (.ref b)) Q E s :=
  PySem.SeqAt.eq_list_lengthsAt (News.isList N ha) (News.isList N hb) (by rw [List.size_toArray]; simp; intro e; subst e; exact absurd hz (Nat.lt_irrefl _)) (Nat.lt_of_le_of_lt hu (by decide)) h
theorem eq_nil_nil {Q : Value → Shared → Prop} (N : News h₀ L s.heap news) (ha : (a, lsO [] n) ∈ news) (hb : (b, lsO [] k) ∈ news) (hu : A.units ≤ 9000) (h : Q (.bool true) s) :
    wpAny (model prog w) A (compareOp .Eq (.ref a) (.ref b)) Q E s :=
  PySem.SeqAt.eq_listAt (e := fun _ => true) (News.isList N ha) (News.isList N hb) rfl (Nat.lt_of_le_of_lt hu (by decide)) (fun _ h1 _ => absurd h1 (Nat.not_lt_zero _)) h
theorem item_TH {value slice : PySem.Expr} {t : Addr} {l : List Value} {k : Int} {u : Tok} {x : Value} {Q : Value → Shared → Prop} (ht : IsTup s.heap t l.toArray) (h0 : 0 ≤ k) (hhi : k < 2 ^ 63) (hx : l[k.toNat]? = some x) (h : Q x s)
    (hs : subscripted slice false (.ref t) (.int k u) = operate [.ref t, .int k u] (getItem (.ref t) (.int k u))) : wpAny (model prog w) A (subscriptTail value slice (.ref t) (.int k u)) Q E s :=
  item_tupleT (j := k.toNat) ht (by omega) hhi (by
    have hlt : k.toNat < l.length := (List.getElem?_eq_some_iff.mp hx).1
    unfold seqIndex?
    simp only [show ¬ k < 0 by omega, if_false]
    have e : (decide (0 ≤ k) && decide (k < (l.length : Int))) = true := by simp; omega
    rw [if_pos e]) hx h hs
theorem item_TLS {nw : List (Addr × Obj)} {value slice : PySem.Expr} {t : Addr} {l : List Value} {k : Int} {u : Tok} {x : Value} {Q : Value → Shared → Prop} (hm : (t, tpO l n) ∈ nw) (N : News h₀ L s.heap news) (hw : ∀ p ∈ nw, p ∈ news) (h0 : 0 ≤ k) (hhi : k < 2 ^ 63) (hx : l[k.toNat]? = some x) (h : Q x s)
    (hs : subscripted slice false (.ref t) (.int k u) = operate [.ref t, .int k u] (getItem (.ref t) (.int k u))) : wpAny (model prog w) A (subscriptTail value slice (.ref t) (.int k u)) Q E s :=
  item_TH (News.isTup N (hw _ hm)) h0 hhi hx h hs
theorem slice_upL {l : Addr} {value slice : PySem.Expr} {m : Str → Option Value} {q : Nat} {u : Tok} {Q : Value → Shared → Prop} (F : Fr h₀ L s.heap m) (N : News h₀ L s.heap news) (hm : (l, lsO vs n) ∈ news) (hz : vs.length ≤ 10000)
    (h : ∀ D h', Fr h₀ L h' m → News h₀ L h' ((D, lsO (vs.take q) 0) :: news) → (∀ p ∈ news, p.1 < D) → Q (.ref D) { s with heap := h' })
    (hs : subscripted slice false (.ref l) (.ref s.heap.objs.size) = operate [.ref s.heap.objs.size, .ref l] (getItem (.ref l) (.ref s.heap.objs.size))) (ht : ∀ r, letTemporaryGo value (.ref l) r = pure ()) :
    wpAny (model prog w) A (subscriptTail value slice (.ref l) (.ref s.heap.objs.size)) Q E { s with heap := s.heap.push { cls := .type "slice", data := .fields #[.none, .int (q : Nat) u, .none] } } :=
  kms_slice_lit (lo := none) (hi := some (q : Int)) F N (News.isList N hm) (by kmk_part) (by kmk_part) (by
    simp only [kms_pick, kms_lo, kms_hi, List.drop_zero, Nat.sub_zero, if_neg (show ¬ ((q : Int) < 0) by omega), Int.toNat_natCast]
    exact kmk_take_min vs q) h hs ht (by rw [List.size_toArray]; exact Nat.le_trans hz (by decide))
end eqnil
section compind
open LCg LCt
theorem compEnd_mono {h₀ : Heap} {L I C D : Addr} {m : Str → Option Value} {s₁ s₂ : Shared} {oI oC oD : Obj} {S : List (Addr × Obj) → Prop} {r r' : Value → List (Addr × Obj) → Prop} {y y' : Value} (h : CompEnd h₀ L m s₁ I oI C oC D oD S r y s₂) (hr : ∀ nw, r y nw → r' y' nw) : CompEnd h₀ L m s₁ I oI C oC D oD S r' y' s₂ :=
  let ⟨h', tk, nw, e, F, N, o, hS, x⟩ := h; ⟨h', tk, nw, e, F, N, o, hS, hr _ x⟩
theorem compInd {prog : Program} {w : World} {A : Around} {h₀ : Heap} {L : Addr} {m : Str → Option Value} {env : Env} {ct elt : Expr} {x : Str} {scope : Scope} {cl : List (Str × Addr)} {s : Shared} {S : List (Addr × Obj) → Prop} {P : Nat → Value → Prop}
    {Fin : List Value → List (Addr × Obj) → Prop} {news : List (Addr × Obj)} {n : Nat} (J : Nat → List Value → Prop) (hfin : ∀ ys, J n ys → Fin ys news)
    (hstep : ∀ i ys, i < n → J i ys → ∀ v I oI C oC D m₂ h tk (E' : Value → Shared → Prop), P i v → NsObj oC m₂ → m₂ x = some v → Fr h₀ L h m → News h₀ L h ((I, oI) :: (C, oC) :: (D, lst ys) :: news) → Off3 I C D news → ((@Ne Nat I C) ∧ (@Ne Nat I D) ∧ (@Ne Nat C D)) →
      wpAny (model prog w) A (isTrue ct (compEnvC scope cl C env) (eval ct (compEnvC scope cl C env))) (fun ok s' => if ok = true then
        wpAny (model prog w) A (eval elt (compEnvC scope cl C env)) (CompEnd h₀ L m { s with heap := h, toks := tk } I oI C oC D (lst ys) S (fun y news' => news' = news ∧ J (i + 1) (ys ++ [y]))) E' s'
        else CompEnd h₀ L m { s with heap := h, toks := tk } I oI C oC D (lst ys) S (fun _ news' => news' = news ∧ J (i + 1) ys) Value.none s') E' { s with heap := h, toks := tk }) :
    ∀ (k i : Nat) (ys : List Value), k + i = n → J i ys → CompRestT prog w A h₀ L m env ct elt x scope cl s S P Fin k i ys news  := by
  intro k
  induction k with
  | zero => exact fun i ys e hJ => hfin ys (by rw [Nat.zero_add] at e; exact e ▸ hJ)
  | succ k ih =>
    intro i ys e hJ v I oI C oC D m₂ h tk E' hv hC hx F N off ne
    refine wpAny_mono (hstep i ys (by omega) hJ v I oI C oC D m₂ h tk E' hv hC hx F N off ne) (fun ok s' h' => ?_) fun _ _ e => e
    have e' : k + (i + 1) = n := by rw [← e, Nat.succ_add]; rfl
    cases ok with
    | true =>
      simp only [if_true] at h' ⊢
      exact wpAny_mono h' (fun y s₂ h₂ => compEnd_mono h₂ fun nw q => by obtain ⟨rfl, q⟩ := q; exact ih (i + 1) (ys ++ [y]) e' q) fun _ _ e => e
    | false =>
      simp only [Bool.false_eq_true, if_false] at h' ⊢
      exact compEnd_mono h' fun nw q => by obtain ⟨rfl, q⟩ := q; exact ih (i + 1) ys e' q
end compind
noncomputable def fnd (op : List (Nat × Nat)) (k : Nat) : Nat → List Nat
  | 0 => []
  | i + 1 => fnd op k i ++ if (op[i]?).map (·.1) = some k then [i] else []
theorem fnd_low {l l' : List (Nat × Nat)} {k a : Nat} (h : k ∉ l.map (·.1)) : ∀ i, i ≤ l.length → fnd (l ++ (k, a) :: l') k i = []
  | 0, _ => rfl
  | i + 1, hi => by
    have e : (l ++ (k, a) :: l')[i]? = l[i]? := List.getElem?_append_left hi
    rw [fnd, fnd_low h i (by omega), e, List.nil_append, if_neg]
    intro e2
    obtain ⟨p, h1, h2⟩ := Option.map_eq_some_iff.mp e2
    exact h (h2 ▸ List.mem_map_of_mem (List.mem_of_getElem? h1))
theorem fnd_high {l l' : List (Nat × Nat)} {k a : Nat} (h : k ∉ l.map (·.1)) : ∀ j, ∃ r, fnd (l ++ (k, a) :: l') k (l.length + 1 + j) = l.length :: r
  | 0 => by
    refine ⟨[], ?_⟩
    rw [Nat.add_zero, fnd, fnd_low h _ (Nat.le_refl _), List.getElem?_append_right (Nat.le_refl _), Nat.sub_self]
    simp
  | j + 1 => by
    obtain ⟨r, e⟩ := fnd_high (l' := l') (a := a) h j
    rw [← Nat.add_assoc, fnd, e]
    exact ⟨_, rfl⟩
theorem fnd_all {l l' : List (Nat × Nat)} {k a : Nat} (h : k ∉ l.map (·.1)) : ∃ r, fnd (l ++ (k, a) :: l') k (l ++ (k, a) :: l').length = l.length :: r := by
  have := fnd_high (l' := l') (a := a) h l'.length
  rw [show l.length + 1 + l'.length = (l ++ (k, a) :: l').length by simp; omega] at this
  exact this
theorem Ap.swap5 {nw : List (Addr × Obj)} {a b c d e e' : Addr} {o : Obj} (h : Ap nw [(a, o), (b, o), (c, o), (d, o), (e, o)]) (h5 : ∀ p ∈ nw, p.1 ≠ e') : Ap nw [(a, o), (b, o), (c, o), (d, o), (e', o)] := fun p hp =>
  have h' := h p hp
  List.forall_mem_cons.mpr ⟨h' _ (.head _), List.forall_mem_cons.mpr ⟨h' _ (.tail _ (.head _)), List.forall_mem_cons.mpr ⟨h' _ (.tail _ (.tail _ (.head _))), List.forall_mem_cons.mpr ⟨h' _ (.tail _ (.tail _ (.tail _ (.head _)))), List.forall_mem_cons.mpr ⟨h5 p hp, fun _ h => (nomatch h)⟩⟩⟩⟩⟩
theorem OpG.length {G : Says} : ∀ {vs : List Value} {l : List (Nat × Nat)}, OpG G vs l → vs.length = l.length
  | [], [], _ => rfl
  | _ :: _, (_, _) :: _, ⟨_, y⟩ => by simp [OpG.length y]
theorem OpG.get {G : Says} {k a : Nat} : ∀ {vs : List Value} {l : List (Nat × Nat)} (_ : OpG G vs l) (i : Nat), l[i]? = some (k, a) → ∃ D n t u, vs[i]? = some (.ref D) ∧ G D (tpO [.int k t, .int a u] n)
  | [], [], _, _, e => by cases e
  | v :: _, (_, _) :: _, ⟨⟨D, n, t, u, e', x⟩, _⟩, 0, e => by cases e; exact ⟨D, n, t, u, by rw [e']; rfl, x⟩
  | _ :: _, (_, _) :: _, ⟨_, y⟩, i + 1, e => by simpa using OpG.get y i (by simpa using e)
theorem OpG.take {G : Says} : ∀ {vs : List Value} {l : List (Nat × Nat)} (_ : OpG G vs l) (i : Nat), OpG G (vs.take i) (l.take i)
  | [], [], _, i => by simp [OpG]
  | _ :: _, (_, _) :: _, _, 0 => by simp [OpG]
  | _ :: _, (_, _) :: _, ⟨x, y⟩, i + 1 => by simp only [List.take_succ_cons]; exact ⟨x, OpG.take y i⟩
section walked
open PySem.Spec PyProof.V
local macro_rules | `(tactic| walk_at "subscriptTail Name Constant ref int") => `(tactic| (k_dflt ((refine' item_TLS ?hm _ _ _ _ _ _ _; (case hm => with_reducible assumption)) <;> walk_at "MINE S")))
local macro_rules | `(tactic| walk_at "subscriptTail Call Constant ref int") => `(tactic| (k_dflt ((refine' item_TLS ?hm _ _ _ _ _ _ _; (case hm => with_reducible assumption)) <;> walk_at "MINE S")))
local macro_rules | `(tactic| walk_at "subscriptTail") => `(tactic| (k_dflt ((refine' item_TLS ?hm _ _ _ _ _ _ _; (case hm => with_reducible assumption)) <;> walk_at "MINE S")))
local macro_rules | `(tactic| walk_at "subscriptTail Name Subscript ref int") => `(tactic| (((with_reducible refine' item_L _ _ _ _ _ _) <;> walk_at "MINE S")))
local macro_rules | `(tactic| walk_at "subscriptTail Name Slice ref ref") => `(tactic| (k_dflt ((refine' slice_upL _ _ _ _ _ _ _) <;> walk_at "MINE S"); intro D' h' F' N' l1; (try k_lt l1)))
local macro_rules | `(tactic| walk_at "CompSrcT") => `(tactic| refine stop_here ?_)
local macro_rules | `(tactic| walk_at "exec Assign cons ListComp") => `(tactic| refine stop_here ?_)
local macro_rules | `(tactic| walk_at "call builtin:len") => `(tactic| walk_at "MINE len")
local macro_rules | `(tactic| walk_at "subscriptTail Name Name ref int") => `(tactic| (((with_reducible refine' item_L _ _ _ _ _ _) <;> walk_at "MINE S")))
local macro_rules | `(tactic| walk_at "subscriptTail Subscript Name Name Constant ref int") => `(tactic| (k_dflt ((refine' item_TLS ?hm _ _ _ _ _ _ _; (case hm => with_reducible assumption)) <;> walk_at "MINE S")))
local macro_rules | `(tactic| walk_at "compareOp Eq ref ref") => `(tactic| refine stop_here ?_)
local macro_rules | `(tactic| walk_at "compareOp Eq ref ref") => `(tactic| (k_dflt ((refine' eq_some_nil _ _ _ _ _ _) <;> walk_at "MINE S")))
local macro_rules | `(tactic| walk_at "compareOp Eq ref ref") => `(tactic| (k_dflt ((refine' eq_nil_nil _ _ _ _ _) <;> walk_at "MINE S")))
local macro_rules | `(tactic| walk_at "call builtin:list.pop") => `(tactic| (k_dflt ((refine' pop_L _ _ _ _ _) <;> walk_at "MINE S"); intro h' F' N'))
local macro_rules | `(tactic| walk_at "call ref") => `(tactic| refine stop_here ?_)
local macro_rules | `(tactic| walk_at "subscriptTail Name Name ref int") => `(tactic| (((with_reducible refine' item_LB _ _ _ _ _ _) <;> walk_at "MINE S")))
local macro_rules | `(tactic| walk_at "subscriptTail Name Constant ref int") => `(tactic| walk_at "MINE item")
local macro_rules | `(tactic| walk_at "subscriptTail Subscript Name Constant Constant ref int") => `(tactic| walk_at "MINE item")
local macro_rules | `(tactic| walk_at "call builtin:list.append") => `(tactic| walk_at "MINE append")
local macro_rules | `(tactic| walk_at "setItem ref int") => `(tactic| walk_at "MINE dset")
local macro_rules | `(tactic| walk_at "subscriptTail Name Subscript ref int") => `(tactic| ((with_reducible show wpAny _ _ (subscriptTail _ _ (Value.ref _) (Value.int _ _)) _ _ _); k_dflt (refine' kda_item ?N ?m ?d (intKind_is _ _ _ _) ?b ?_ ?s ?g; (case N => k_asm); (case d => with_reducible assumption); (case m => k_mem); (case b => first | with_reducible assumption | (rw [valueAt_stored, if_pos rfl])); (case s => with_unfolding_all rfl); (case g => intro _; with_unfolding_all rfl))))
local macro_rules | `(tactic| walk_at "pyIter ref") => `(tactic| refine stop_here ?_)
local macro_rules | `(tactic| walk_at "call type:range") => `(tactic| (((with_reducible refine' range_N _ _ _) <;> walk_at "MINE S"); intro h' r' a' b' c' tk' hr' F' N'))
variable {prog : Program} {w : World} {p : Program} {loose : List Str} {mean : ExcName → Option Value} {mg mb : Str → Option Value} {b0 : Heap} {A : Around} {s : Shared} {Q : Value → Shared → Prop} {E : Value → Shared → Prop}
set_option maxHeartbeats 16000000 in
theorem walked_spec {cl : Addr} {ws : List Value} {nc : Nat} {rows : List Row} {n : Nat} {mf : MS} (X0 : (Mine.hd.heap_1 w.params).In b0) (T0 : Top p loose mean mg mb b0) (hb : b0.StaysIn s.heap)
    (hh : A.handled = none) (hdp : A.depth ≤ 870) (hun : A.units ≤ 7900) (hcl : s.heap.get? cl = some (lsO ws nc)) (R : RwsG (hG s.heap) ws rows) (hlen : ws.length ≤ 4000)
    (hrun : Run rows n ⟨0, [], [], fun _ => none⟩ mf) (hn : n < 1900) (hend : rows[mf.pc]? = some .ret) (hop : mf.op = [])
    (hQ : ∀ h' D sn t tk' vs k, Kept [] s.heap h' → h'.get? D = some (tpO [.ref sn, .str (nm "return") t] 0) → h'.get? sn = some (lsO vs k) → IntsAre vs (asI mf.out) → s.heap.get? D = none → s.heap.get? sn = none → Q (.ref D) { s with heap := h', toks := tk' }) :
    wpAny (model prog w) A (call (.ref 293) [.ref cl]) Q E s := by
  obtain ⟨hA, dp, fr, gd, un⟩ := A
  cases hh
  dsimp only at hdp hun
  first | have hd1 : dp + 1 ≤ _ := Nat.add_le_add_right hdp 1 | have hd1 : dp + 1 ≤ 850 := by omega | skip
  first | have hu3 : un + 3 ≤ _ := Nat.add_le_add_right hun 3 | have hu3 : un + 3 ≤ 7990 := by omega | skip
  obtain ⟨sh, sg1, sd, stk, sos⟩ := s
  have hl : sh.IsList cl ws.toArray := ⟨_, hcl, rfl, nc, rfl⟩
  refine wpAny_call (enterHC (binds := [(nm "rows", Value.ref cl)]) [] X0 T0 hb (fun _ h => nomatch h) (by k_is) (by k_is) (by show dp < 1000; omega) (by exact BindsTo.of_eq rfl) (by exact rfl) (by decide +kernel) ?_ (by exact rfl) (by exact rfl) (by exact rfl))
  intro g' L' h' tk9 cells eg FG' N' Y' X' T'
  have eg2 : g' = sh := eg
  subst eg2
  k_cells Y'
  simp only [List.cons_append, List.nil_append, List.append_nil] at N'
  (try dsimp only)
  (try k_fold)
  k_steps
  rename IsRange _ _ _ _ _ _ _ _ => hrg
  rename Fr _ _ _ _ => F9; rename News _ _ _ _ => N9
  rename FlatPairs _ _ _ => xx; clear xx
  rename FlatPairs _ _ _ => xx; clear xx
  rename Obj.IsDictOf (intKind _ _) _ _ => hd0
  rename (_ == sysModules) = false => lo
  rename _ < _ ∧ _ < _ ∧ _ < _ ∧ _ < _ => l3; rename _ < _ ∧ _ < _ ∧ _ < _ => l2; rename _ < _ ∧ _ < _ => l1
  rename_i o1 o2 d1 d2 sn _ _ _ oa _ _ oc dcell dc _ od _ _ _ _ _ _ _ _ _ _ _ _
  obtain ⟨tr, tr0, trn, hst⟩ := hrun.tr
  have f1 : dc ≠ sn := neN (by omega)
  have f2 : dc ≠ L' + 1 + 1 := neN (by omega)
  have f3 : dc ≠ L' + 1 := neN (by omega)
  have f4 : sn ≠ L' + 1 + 1 := neN (by omega)
  have f5 : sn ≠ L' + 1 := neN (by omega)
  refine stop_out ?_
  refine loop_rangeA (nm "at") [nm "spots"] (by decide) (n := 2000) (fun i v nx => i ≤ n ∧ (∃ t, v = some (.int (tr i).pc t)) ∧ WkJ prog w L' dc sn (tr i) i nx) rfl hrg (by omega) (by omega) F9 (Mine.News.sub N9 (l' := (dc, od) :: (sn, lsO [] 0) :: (L' + 1 + 1, o1) :: (L' + 1, oc) :: (oa, lsO [] 0) :: []) (by walk_at "MINE sub")) ⟨Nat.zero_le _, ⟨_, by rw [tr0]; rfl⟩, ?_⟩ ?_ ?_
  · rw [tr0]
    exact ⟨od, [], [], 0, oc, _, _, oa, [], 0, [], rfl, hd0, by assumption, by assumption, IntsAre.nil, trivial, fun q x e => (nomatch e), Nat.le_refl _, Nat.le_refl _, Nat.le_refl _, fun _ h => (nomatch h), fun _ h => (nomatch h), neN (by omega), neN (by omega), neN (by omega), neN (by omega)⟩
  · intro i t u v nx h tk I io hi hJ hnI hio F9 N9
    obtain ⟨hin, ⟨ta, rfl⟩, ⟨od, kvs, vs, vk, oc, orw, rv, oa, ovs, ok, nw, rfl, hd, hrw, hoc, hI, hO, hC, hk1, hk2, hk3, hcls, hap, g1, g2, g3, g4⟩⟩ := hJ
    rcases Nat.lt_or_ge i n with hlt | hge
    · obtain ⟨r, hr, hs⟩ := hst i hlt
      obtain ⟨v, hv, hrw2⟩ := R.get _ hr
      generalize tr i = ma at *
      generalize tr (i + 1) = mb at *
      obtain ⟨pc, out, op, ct⟩ := ma
      dsimp only at hr hv hI hO hC F9
      change Fr g' L' h _ at F9
      change News g' L' h _ at N9
      rw [Int.zero_add] at F9
      have hi1 := neN (hnI _ (.head _)); have hi2 := neN (hnI _ (.tail _ (.head _))); have hi3 := neN (hnI _ (.tail _ (.tail _ (.head _)))); have hi4 := neN (hnI _ (.tail _ (.tail _ (.tail _ (.head _))))); have hi5 := neN (hnI _ (.tail _ (.tail _ (.tail _ (.tail _ (.head _))))))
      dsimp only at hi1 hi2 hi3 hi4 hi5
      have hni : ∀ o1 o2 o3 o4 o5, ∀ p ∈ (dc, o1) :: (sn, o2) :: (L' + 1 + 1, o3) :: (L' + 1, o4) :: (oa, o5) :: nw, p.1 ≠ I := fun o1 o2 o3 o4 o5 => List.forall_mem_cons.mpr ⟨hi1, List.forall_mem_cons.mpr ⟨hi2, List.forall_mem_cons.mpr ⟨hi3, List.forall_mem_cons.mpr ⟨hi4, List.forall_mem_cons.mpr ⟨hi5, fun p hp => hnI p (.tail _ (.tail _ (.tail _ (.tail _ (.tail _ hp)))))⟩⟩⟩⟩⟩
      have f6 : L' + 1 ≠ L' + 1 + 1 := neN (by omega)
      have hpc : pc < 4000 := by have := (List.getElem?_eq_some_iff.mp hv).1; omega
      (try k_fold)
      iterate 18 (first | (k_unfold; (try dsimp only)) | walk1 | (dsimp only; walk1))
      cases hs
      case set k =>
        obtain ⟨t1, lvv, cc, ⟨ad, na, rfl, had⟩, t2, t3, t4, t5, cd, nd, rfl, hcd⟩ := hrw2
        have ht := isTup_base' had
        have ht2 := isTup_base' hcd
        k_steps
        rename Fr _ _ _ _ => F9; rename News _ _ _ _ => N9
        rename PySem.Obj => o9
        refine LpEnd.intro F9 N9 (nx := (dc, od) :: (sn, lsO (vs ++ [.int k t4]) (vk + 1)) :: (L' + 1 + 1, o9) :: (L' + 1, oc) :: (oa, lsO ovs ok) :: nw) (by walk_at "MINE sub") (hni _ _ _ _ _) ⟨by walk_at "MINE lps", hlt, ⟨_, (if_pos rfl).trans rfl⟩, ⟨od, kvs, _, _, oc, _, _, oa, ovs, ok, nw, rfl, hd, by assumption, hoc, by simp only [asI, List.map_append]; exact hI.append (IntsAre.cons _ _ IntsAre.nil), hO, hC, by omega, by simp only [List.length_append, List.length_cons, List.length_nil]; omega, by omega, hcls, hap, g1, g2, g3, g4⟩⟩
      case jmp a =>
        obtain ⟨t1, t2, ad, na, rfl, had⟩ := hrw2
        have ht := isTup_base' had
        k_steps
        rename Fr _ _ _ _ => F9; rename News _ _ _ _ => N9
        rename PySem.Obj => o9
        exact LpEnd.intro F9 N9 (nx := (dc, od) :: (sn, lsO vs vk) :: (L' + 1 + 1, o9) :: (L' + 1, oc) :: (oa, lsO ovs ok) :: nw) (by walk_at "MINE sub") (hni _ _ _ _ _) ⟨by walk_at "MINE lps", hlt, ⟨_, (if_pos rfl).trans rfl⟩, ⟨od, kvs, _, _, oc, _, _, oa, ovs, ok, nw, rfl, hd, by assumption, hoc, hI, hO, hC, by omega, by omega, by omega, hcls, hap, g1, g2, g3, g4⟩⟩
      case unl t0 a =>
        obtain ⟨t1, cc, t6, ⟨ad, na, rfl, had⟩, t2, t3, t4, t5, cd, nd, rfl, hcd⟩ := hrw2
        have ht := isTup_base' had
        have ht2 := isTup_base' hcd
        k_steps
        · rename (t0 : Int) = 1 => e1
          have e1 : t0 = 1 := by omega
          rename Fr _ _ _ _ => F9; rename News _ _ _ _ => N9
          rename PySem.Obj => o9
          exact LpEnd.intro F9 N9 (nx := (dc, od) :: (sn, lsO vs vk) :: (L' + 1 + 1, o9) :: (L' + 1, oc) :: (oa, lsO ovs ok) :: nw) (by walk_at "MINE sub") (hni _ _ _ _ _) ⟨by walk_at "MINE lps", hlt, ⟨_, (if_pos rfl).trans (by rw [if_pos e1]; rfl)⟩, ⟨od, kvs, _, _, oc, _, _, oa, ovs, ok, nw, rfl, hd, by assumption, hoc, hI, hO, hC, by omega, by omega, by omega, hcls, hap, g1, g2, g3, g4⟩⟩
        · rename (t0 : Int) ≠ 1 => e1
          have e1 : ¬ t0 = 1 := by omega
          rename Fr _ _ _ _ => F9; rename News _ _ _ _ => N9
          rename PySem.Obj => o9
          exact LpEnd.intro F9 N9 (nx := (dc, od) :: (sn, lsO vs vk) :: (L' + 1 + 1, o9) :: (L' + 1, oc) :: (oa, lsO ovs ok) :: nw) (by walk_at "MINE sub") (hni _ _ _ _ _) ⟨by walk_at "MINE lps", hlt, ⟨_, (if_pos rfl).trans (by rw [if_neg e1])⟩, ⟨od, kvs, _, _, oc, _, _, oa, ovs, ok, nw, rfl, hd, by assumption, hoc, hI, hO, hC, by omega, by omega, by omega, hcls, hap, g1, g2, g3, g4⟩⟩
      case tim q c =>
        obtain ⟨t1, t2, vc, ⟨ad, na, rfl, had⟩, t3, t4, t5, t6, cd, nd, rfl, hcd⟩ := hrw2
        have ht := isTup_base' had
        have ht2 := isTup_base' hcd
        have hsl := fun v => stored_length_le kvs (q : Int) v
        k_steps
        rename Fr _ _ _ _ => F9; rename News _ _ _ _ => N9
        rename Obj.IsDictOf (intKind _ _) _ (stored _ _ _) => hd8; rename _ = Data.cell (some (Value.ref ad)) => dr
        exact LpEnd.intro F9 N9 (nx := (dc, _) :: (sn, lsO vs vk) :: (L' + 1 + 1, _) :: (L' + 1, oc) :: (oa, lsO ovs ok) :: nw) (by walk_at "MINE sub") (hni _ _ _ _ _) ⟨by walk_at "MINE lps", hlt, ⟨_, (if_pos rfl).trans rfl⟩, ⟨_, _, _, _, oc, _, _, oa, ovs, ok, nw, rfl, hd8, dr, hoc, hI, hO, hC.set q _ _, Nat.le_trans (hsl _) (by omega), by omega, by omega, hcls, hap, g1, g2, g3, g4⟩⟩
      case agn q a x hx =>
        obtain ⟨t1, t2, t3, ad, na, rfl, had⟩ := hrw2
        have ht := isTup_base' had
        obtain ⟨tx, hval⟩ := hC q x hx
        have hsl := fun v => stored_length_le kvs (q : Int) v
        k_steps
        · rename x - 1 < 0 => e1
          rename Fr _ _ _ _ => F9; rename News _ _ _ _ => N9
          rename Obj.IsDictOf (intKind _ _) _ (stored _ _ _) => hd8; rename _ = Data.cell (some (Value.ref ad)) => dr
          exact LpEnd.intro F9 N9 (nx := (dc, _) :: (sn, lsO vs vk) :: (L' + 1 + 1, _) :: (L' + 1, oc) :: (oa, lsO ovs ok) :: nw) (by walk_at "MINE sub") (hni _ _ _ _ _) ⟨by walk_at "MINE lps", hlt, ⟨_, (if_pos rfl).trans (by rw [if_pos e1])⟩, ⟨_, _, _, _, oc, _, _, oa, ovs, ok, nw, rfl, hd8, dr, hoc, hI, hO, hC.set q _ _, Nat.le_trans (hsl _) (by omega), by omega, by omega, hcls, hap, g1, g2, g3, g4⟩⟩
        · rename ¬ x - 1 < 0 => e1
          rename Fr _ _ _ _ => F9; rename News _ _ _ _ => N9
          rename Obj.IsDictOf (intKind _ _) _ (stored _ _ _) => hd8; rename _ = Data.cell (some (Value.ref ad)) => dr
          exact LpEnd.intro F9 N9 (nx := (dc, _) :: (sn, lsO vs vk) :: (L' + 1 + 1, _) :: (L' + 1, oc) :: (oa, lsO ovs ok) :: nw) (by walk_at "MINE sub") (hni _ _ _ _ _) ⟨by walk_at "MINE lps", hlt, ⟨_, (if_pos rfl).trans (by rw [if_neg e1]; rfl)⟩, ⟨_, _, _, _, oc, _, _, oa, ovs, ok, nw, rfl, hd8, dr, hoc, hI, hO, hC.set q _ _, Nat.le_trans (hsl _) (by omega), by omega, by omega, hcls, hap, g1, g2, g3, g4⟩⟩
      case ent k a =>
        obtain ⟨t1, t2, t3, ad, na, rfl, had⟩ := hrw2
        have ht := isTup_base' had
        replace g1 := neN g1; replace g2 := neN g2; replace g3 := neN g3; replace g4 := neN g4
        k_steps
        rename Fr _ _ _ _ => F9; rename News _ _ _ _ => N9
        rename _ = Data.cell (some (Value.ref ad)) => dr
        rename _ < _ ∧ _ => l9; rename_i D9 _ _ _ _
        obtain ⟨l91, l92, l93, l94, l95, l96, l97⟩ := l9
        exact LpEnd.intro F9 N9 (nx := (dc, od) :: (sn, lsO vs vk) :: (L' + 1 + 1, _) :: (L' + 1, oc) :: (oa, lsO (ovs ++ [.ref D9]) (ok + 1)) :: (D9, tpO [.int k t2, .int a t3] 0) :: nw) (by walk_at "MINE sub") (List.forall_mem_cons.mpr ⟨hi1, List.forall_mem_cons.mpr ⟨hi2, List.forall_mem_cons.mpr ⟨hi3, List.forall_mem_cons.mpr ⟨hi4, List.forall_mem_cons.mpr ⟨hi5, List.forall_mem_cons.mpr ⟨Nat.ne_of_gt l91, fun p hp => hnI p (.tail _ (.tail _ (.tail _ (.tail _ (.tail _ hp)))))⟩⟩⟩⟩⟩⟩) ⟨by walk_at "MINE lps", hlt, ⟨_, (if_pos rfl).trans rfl⟩, ⟨od, kvs, _, _, oc, _, _, oa, _, _, (D9, tpO [.int k t2, .int a t3] 0) :: nw, rfl, hd, dr, hoc, hI, OpG.snoc (.head _) (hO.mono (lG_sub fun p hp => .tail _ hp)), hC, by omega, by omega, by simp only [List.length_append, List.length_cons, List.length_nil]; omega, List.forall_mem_cons.mpr ⟨rfl, hcls⟩, List.forall_mem_cons.mpr ⟨by
          exact List.forall_mem_cons.mpr ⟨Nat.ne_of_gt l92, List.forall_mem_cons.mpr ⟨Nat.ne_of_gt l93, List.forall_mem_cons.mpr ⟨Nat.ne_of_gt l94, List.forall_mem_cons.mpr ⟨Nat.ne_of_gt l95, List.forall_mem_cons.mpr ⟨Nat.ne_of_gt l96, fun _ h => (nomatch h)⟩⟩⟩⟩⟩, hap⟩, g1, g2, g3, g4⟩⟩
      case lea k a l e1 =>
        obtain ⟨t1, t2, ad, na, rfl, had⟩ := hrw2
        have ht := isTup_base' had
        replace g1 := neN g1; replace g2 := neN g2; replace g3 := neN g3; replace g4 := neN g4
        dsimp only at e1
        subst e1
        obtain ⟨us, D2, n2, t3, t4, rfl, hD2, hO2⟩ := hO.last
        have hz9 : (us ++ [Value.ref D2]).length ≤ 10000 := by omega
        replace hD2 : (D2, tpO [Value.int k t3, Value.int a t4] n2) ∈ nw := hD2
        k_steps
        · exact absurd rfl (by assumption)
        rename Fr _ _ _ _ => F9; rename News _ _ _ _ => N9
        rename _ = Data.cell (some (Value.ref ad)) => dr
        exact LpEnd.intro F9 N9 (nx := (dc, od) :: (sn, lsO vs vk) :: (L' + 1 + 1, _) :: (L' + 1, oc) :: (oa, lsO us (ok + 1)) :: nw) (by walk_at "MINE sub") (hni _ _ _ _ _) ⟨by walk_at "MINE lps", hlt, ⟨_, (if_pos rfl).trans rfl⟩, ⟨od, kvs, _, _, oc, _, _, oa, _, _, nw, rfl, hd, dr, hoc, hI, hO2, hC, by omega, by omega, by simp only [List.length_append, List.length_cons, List.length_nil] at hk3; omega, hcls, hap, g1, g2, g3, g4⟩⟩
      case dis k a l l' e2 e1 =>
        obtain ⟨t1, t2, ad, na, rfl, had⟩ := hrw2
        have ht := isTup_base' had
        replace g1 := neN g1; replace g2 := neN g2; replace g3 := neN g3; replace g4 := neN g4
        dsimp only at e1 e2
        subst e1
        have hoz := hO.length
        k_steps
        refine stop_out ?_
        refine LCt.Assign_ListComp_T (F₀ := by k_asm) (by rfl) (by with_unfolding_all rfl) (by with_unfolding_all rfl) (by decide) (by rfl) (by decide) (by rfl) (by rfl) (by rfl) ?_
        k_steps
        refine stop_out ?_
        rename Fr _ _ _ _ => F9; rename News _ _ _ _ => N9; rename IsRange _ _ _ _ _ _ _ _ => hr9
        refine LCt.CompSrcT.range (n := ovs.length) rfl F9 N9 hr9 ?_ ?_ ?_ ?_
        · exact small_one (by omega) (by omega) (by omega) (by omega)
        · rw [rangeSize_one]; split <;> omega
        · exact Nat.le_trans (by omega : ovs.length ≤ 10000) (by decide)
        intro gg
        refine compInd (fun i ys => IntsAre ys (asI (fnd (l ++ (k, a) :: l') k i))) ?_ ?_ _ _ _ (Nat.add_zero _) IntsAre.nil
        · intro ys hys D9 h9 tk9 F9 N9 off9
          simp only [LCg.Off1] at off9
          obtain ⟨r9, er⟩ := fnd_all (l' := l') (a := a) e2
          rw [hoz, er] at hys
          simp only [asI, List.map_cons] at hys
          obtain ⟨t9, ys', rfl⟩ : ∃ t ys', ys = .int (l.length : Nat) t :: ys' := by cases hys with | cons n t r => exact ⟨t, _, rfl⟩
          obtain ⟨D8, n8, t8, u8, hov, hD8⟩ := hO.get (k := k) (a := a) l.length (by rw [List.getElem?_append_right (Nat.le_refl _), Nat.sub_self]; rfl)
          replace hD8 : (D8, tpO [Value.int k t8, Value.int a u8] n8) ∈ nw := hD8
          have hsp : (Value.int (l.length : Nat) t9 :: ys')[0]? = some (Value.int (l.length : Nat) t9) := rfl
          clear hys
          have hl9 : l.length < 2000 := by simp only [List.length_append, List.length_cons] at hoz; omega
          k_steps
          rename Fr _ _ _ _ => F9; rename News _ _ _ _ => N9
          rename _ = Data.cell (some (Value.ref ad)) => dr
          rename _ < _ ∧ _ => l9; rename_i D7 _ _ _ d7
          obtain ⟨m1, m2, m3, m4, m5, m6, m7, m8, m9⟩ := l9
          refine LpEnd.intro F9 N9 (nx := (dc, od) :: (sn, lsO vs vk) :: (L' + 1 + 1, _) :: (L' + 1, _) :: (D7, lsO (ovs.take l.length) 0) :: nw) (by walk_at "MINE sub") (List.forall_mem_cons.mpr ⟨hi1, List.forall_mem_cons.mpr ⟨hi2, List.forall_mem_cons.mpr ⟨hi3, List.forall_mem_cons.mpr ⟨hi4, List.forall_mem_cons.mpr ⟨Nat.ne_of_gt m3, fun p hp => hnI p (.tail _ (.tail _ (.tail _ (.tail _ (.tail _ hp)))))⟩⟩⟩⟩⟩) ⟨by walk_at "MINE lps", hlt, ⟨_, (if_pos rfl).trans rfl⟩, ⟨od, kvs, _, _, _, _, _, D7, _, _, nw, rfl, hd, dr, d7, hI, ?_, hC, by omega, by omega, by rw [List.length_take]; omega, hcls, hap.swap5 (fun p hp => Nat.ne_of_lt (kst_ltOf m9 p hp)), Nat.ne_of_gt m4, Nat.ne_of_gt m5, Nat.ne_of_gt m6, Nat.ne_of_gt m7⟩⟩
          have ht8 := hO.take l.length
          rw [List.take_left] at ht8
          exact ht8
        · intro i9 ys hi9 hys v9 I9 oI9 C9 oC9 D9 m9 h9 tk9 E9 hv9 hC9 hx9 F9 N9 off9 ne9
          obtain ⟨t9, rfl⟩ := hv9
          rw [Int.zero_add] at hx9
          have off8 := off9
          simp only [LCg.Off3] at off9
          obtain ⟨⟨k9, a9⟩, hka⟩ : ∃ q, (l ++ (k, a) :: l')[i9]? = some q := ⟨_, List.getElem?_eq_getElem (hoz ▸ hi9)⟩
          obtain ⟨D8, n8, t8, u8, hov, hD8⟩ := hO.get i9 hka
          replace hD8 : (D8, tpO [Value.int k9 t8, Value.int a9 u8] n8) ∈ nw := hD8
          k_steps
          · rename (k9 : Int) = (k : Int) => e9
            exact LCg.CompEnd.intro F9 N9 _ (by walk_at "MINE sub") off8 trivial ⟨rfl, by
              show IntsAre _ (asI (fnd (l ++ (k, a) :: l') k (i9 + 1)))
              rw [fnd, hka, show Option.map (fun x : Nat × Nat => x.1) (some (k9, a9)) = some k9 from rfl, if_pos (congrArg some (by omega : k9 = k))]
              simp only [asI, List.map_append]
              exact hys.append (IntsAre.cons _ _ IntsAre.nil)⟩
          · rename (k9 : Int) ≠ (k : Int) => e9
            exact LCg.CompEnd.intro F9 N9 _ (by walk_at "MINE sub") off8 trivial ⟨rfl, by
              show IntsAre _ (asI (fnd (l ++ (k, a) :: l') k (i9 + 1)))
              rw [fnd, hka, show Option.map (fun x : Nat × Nat => x.1) (some (k9, a9)) = some k9 from rfl, if_neg (fun h => e9 (by have := Option.some.inj h; omega)), List.append_nil]
              exact hys⟩
    · have e0 : i = n := by omega
      subst e0
      rw [trn] at hI hO hC F9
      rw [hop] at hO
      obtain ⟨v, hv, hrw2⟩ := R.get _ hend
      have ho0 : ovs = [] := List.eq_nil_of_length_eq_zero hO.length
      subst ho0
      change Fr g' L' h _ at F9
      change News g' L' h _ at N9
      rw [Int.zero_add] at F9
      have hi1 := neN (hnI _ (.head _)); have hi2 := neN (hnI _ (.tail _ (.head _))); have hi3 := neN (hnI _ (.tail _ (.tail _ (.head _)))); have hi4 := neN (hnI _ (.tail _ (.tail _ (.tail _ (.head _))))); have hi5 := neN (hnI _ (.tail _ (.tail _ (.tail _ (.tail _ (.head _))))))
      dsimp only at hi1 hi2 hi3 hi4 hi5
      have f6 : L' + 1 ≠ L' + 1 + 1 := neN (by omega)
      (try k_fold)
      have hpc : mf.pc < 4000 := by have := (List.getElem?_eq_some_iff.mp hv).1; omega
      replace g1 := neN g1; replace g2 := neN g2; replace g3 := neN g3; replace g4 := neN g4
      obtain ⟨t1, ad, na, rfl, had⟩ := hrw2
      have ht := isTup_base' had
      k_steps
      rename Fr _ _ _ _ => F9; rename News _ _ _ _ => N9
      show Q _ _
      exact hQ _ _ _ _ _ _ _ (kept_nil F9) (N9 _ (.head _)).1 (N9.get (by k_mem)) hI (N9 _ (.head _)).2.2 (N9 (sn, _) (by k_mem)).2.2
  · intro m v nx h tk hJ F9 N9
    (try k_fold)
    obtain ⟨hin, _⟩ := hJ
    exfalso; omega
end walked
end Mine
namespace Mine
set_option maxHeartbeats 8000000 in
theorem fill13 (P : Params) : PySem.Challenge.rw_on0120_01 = PySem.Challenge.rw_on0120_01 ∧ Mine.hd.heap_1 P = Mine.hd.heap_1 P := by
  w_top off
  k_fill
  exact ⟨rfl, rfl⟩
section newroutine
variable {prog : Program} {w : World} {p : Program} {loose : List Str} {mean : ExcName → Option Value} {mg mb : Str → Option Value} {A : Around} {s : Shared} {Q : Value → Shared → Prop} {E : Value → Shared → Prop} {h₀ : Heap} {L : Addr} {m : Str → Option Value} {news : List (Addr × Obj)}
noncomputable def RtD (sla : Addr) (es : List DictEntry) : Prop := (getL (nm "body") es).isSome = true ∧
  ∀ hsh key v, ∃ es', (putL (nm "body") hsh key v es, putN (nm "body") es 14) = (es', 14) ∧ es'.length ≤ 1000 ∧ getL (nm "slots") es' = some (some (.ref sla)) ∧ getL (nm "body") es' = some (some v)
theorem set_rt {im dx sla : Addr} {es : List DictEntry} {v : Value} {rest : List (Addr × Obj)} {Q : Unit → Shared → Prop} (F : Fr h₀ L s.heap m) (X0 : (Mine.hd.heap_1 w.params).In h₀) (N : News h₀ L s.heap news)
    (hi : (im, instObj 263 dx) ∈ news) (U : Out dx (dictOf es 14) news rest) (R : RtD sla es)
    (h : ∀ h' es', Fr h₀ L h' m → News h₀ L h' ((dx, dictOf es' 14) :: rest) → getL (nm "slots") es' = some (some (.ref sla)) → getL (nm "body") es' = some (some v) → Q () { s with heap := h', toks := s.toks + 2 }) :
    wpAny (model prog w) A (setAttr (.ref im) (nm "body") v) Q E s := by
  obtain ⟨es', e1, e2, e3, e4⟩ := R.2 (PyData.keyHash w.params (nm "body")) (.str (nm "body") (s.toks + 1)) v
  have N' : News h₀ L s.heap ((dx, dictOf es 14) :: rest) := fun p hp => by
    rcases List.mem_cons.mp hp with rfl | hp
    · exact N _ U.mem
    · exact N _ (U.rest p hp).1
  exact set_dict (K := Mine.hd.heap_1 w.params) F X0 N' (InstAt.of_news N hi U.mem) rfl (by k_is) (by k_is) (by k_is) (by k_is) R.1 e1 (.head fun p hp => (U.rest p hp).2) e2 fun h' F' N'' => h h' es' F' N'' e3 e4
set_option maxHeartbeats 3200000 in
theorem routine_new {ta tb tc : Tok} (F : Fr h₀ L s.heap m) (N : News h₀ L s.heap news) (X0 : (Mine.hd.heap_1 w.params).In h₀) (T0 : Top p loose mean mg mb h₀)
    (hh : A.handled = none) (hdp : A.depth ≤ 880) (hun : A.units ≤ 7990)
    (hQ : ∀ h' im dx sla es tk, Fr h₀ L h' m → News h₀ L h' ((im, instObj 263 dx) :: (dx, dictOf es 14) :: (sla, lsO [] 0) :: news) → RtD sla es →
      (∀ p ∈ news, p.1 < dx) → (∀ p ∈ news, p.1 < im) → (∀ p ∈ news, p.1 ≠ sla) → (@LT.lt Nat _ dx im) → (@Ne Nat im sla) → (@Ne Nat dx sla) → Q (.ref im) { s with heap := h', toks := tk }) :
    wpAny (model prog w) A (call (.ref 263) [.int 0 ta, .str (nm "top.t") tb, .bool false, .bool true, .int 0 tc]) Q E s := by
  obtain ⟨hA, dp, fr, gd, un⟩ := A
  cases hh
  dsimp only at hdp hun
  first | have hd1 : dp + 1 ≤ _ := Nat.add_le_add_right hdp 1 | have hd1 : dp + 1 ≤ 850 := by omega | skip
  first | have hu3 : un + 3 ≤ _ := Nat.add_le_add_right hun 3 | have hu3 : un + 3 ≤ 7990 := by omega | skip
  refine call_cls (K := Mine.hd.heap_1 w.params) (fI := 253) F X0 N (by k_is) (by k_is) (by k_is) ?_
  intro im dx h1 F1 N1 l1 l2
  refine initBack ?_
  have hc : ∀ c ∈ [(im, instObj 263 dx), (dx, dictOf [] 0)], ({ s with heap := h1 } : Shared).heap.get? c.1 = some c.2 ∧ h₀.get? c.1 = none := fun c hc => by
    have h9 := N1 c (by rcases List.mem_cons.mp hc with rfl | hc; exact .head _; cases List.mem_singleton.mp hc; exact .tail _ (.head _))
    exact ⟨h9.1, h9.2.2⟩
  refine enterH (binds := [(nm "self", Value.ref im), (nm "number", .int 0 ta), (nm "path", .str (nm "top.t") tb), (nm "is_function", .bool false), (nm "automatic", .bool true), (nm "at", .int 0 tc)]) [(im, instObj 263 dx), (dx, dictOf [] 0)] X0 T0 F1.keep hc (by k_is) (by k_is) (by show dp + 1 < 1000; omega) (by exact BindsTo.of_eq rfl) (by exact locs rfl) ?_ (by exact rfl) (by exact rfl) (by exact rfl) (by decide)
  intro g' L' h' eg FG' N' X' T'
  replace l2 := ltN l2
  (try dsimp only)
  (try k_fold)
  k_steps
  rename Fr _ _ _ _ => F9; rename News _ _ _ _ => N9
  rename _ < _ ∧ _ < _ ∧ _ < _ => o9
  rename_i sla _ _ _ _ _ _ _ _ _ _ _
  have K := kept_of eg F9
  have hS : ∀ a ∈ [(im, instObj 263 dx), (dx, dictOf [] 0)].map (·.1), ∃ o, (a, o) ∈ (im, instObj 263 dx) :: (dx, dictOf [] 0) :: news := fun a ha => by
    rcases List.mem_cons.mp ha with rfl | ha
    · exact ⟨_, .head _⟩
    · cases List.mem_singleton.mp ha; exact ⟨_, .tail _ (.head _)⟩
  have hcl : sla ∉ [(im, instObj 263 dx), (dx, dictOf [] 0)].map (·.1) := fun hm => by
    rcases List.mem_cons.mp hm with e | hm
    · have e' := eqN e
      dsimp only at e'
      omega
    · have e' := eqN (List.mem_singleton.mp hm)
      dsimp only at e'
      omega
  have hclN : h1.get? sla = none := none_of eg N9 (o := lsO [] 0) (by k_mem) hcl
  obtain ⟨es, hdx, hrt⟩ : ∃ es, Heap.get? _ dx = some (dictOf es 14) ∧ RtD sla es := ⟨_, N9.get (by k_mem), rfl, fun _ _ _ => ⟨_, rfl, Nat.le_of_ble_eq_true rfl, rfl, rfl⟩⟩
  refine hQ _ im dx sla es _ (K.fr F1 N1 hS) (K.news (nw := [(sla, lsO [] 0)]) F1 N1 (fun p hp => ?_) fun p hp => ?_) hrt l1 (fun p hp => ?_) (fun p hp e => ?_) l2 (by omega) (by omega)
  · rcases List.mem_cons.mp hp with rfl | hp
    · exact .inr (.inl ⟨N9.get (by k_mem), _, .head _⟩)
    rcases List.mem_cons.mp hp with rfl | hp
    · exact .inr (.inl ⟨hdx, _, .tail _ (.head _)⟩)
    rcases List.mem_cons.mp hp with rfl | hp
    · exact .inr (.inr (.head _))
    · refine .inl ⟨.tail _ (.tail _ hp), fun hm => ?_⟩
      have h5 := ltN (l1 p hp)
      rcases List.mem_cons.mp hm with e | hm
      · have e' := eqN e
        dsimp only at e'
        omega
      · have e' := eqN (List.mem_singleton.mp hm)
        dsimp only at e'
        omega
  · cases List.mem_singleton.mp hp
    exact ⟨N9.get (by k_mem), hclN⟩
  · have h5 := ltN (l1 p hp)
    exact ltN (by omega)
  · have h6 := (N1 p (.tail _ (.tail _ hp))).1
    rw [e, hclN] at h6; cases h6
end newroutine
end Mine
namespace Mine
section cmp
variable {prog : Program} {w : World} {A : Around} {E : Value → Shared → Prop} {s : Shared} {h₀ : Heap} {L a b : Addr} {news : List (Addr × Obj)} {vs us : List Value} {n k : Nat} {Q : Value → Shared → Prop}
theorem room64 {u : Nat} (h : u ≤ 9000) : u + 64 < cLine := Nat.lt_of_le_of_lt (Nat.add_le_add_right h 64) (by decide)
theorem ne_nil_nil (N : News h₀ L s.heap news) (ha : (a, lsO [] n) ∈ news) (hb : (b, lsO [] k) ∈ news) (hu : A.units ≤ 9000) (h : Q (.bool false) s) :
    wpAny (model prog w) A (compareOp .NotEq (.ref a) (.ref b)) Q E s :=
  ne_intsK (vs := []) (us := []) (News.isList N ha) IntsAre.nil (News.isList N hb) IntsAre.nil (room64 hu) (by simpa using h)
theorem ok_ret : PyData.strOk (nm "return") = true := by decide +kernel
theorem ok_ent : PyData.strOk (nm "enter") = true := by decide +kernel
theorem sh_ret : SeqAt.shaped (.tuple [.str (nm "return")]) = true := by
  simp [SeqAt.shaped, PyData.canLay0, PyData.canLayAll0, PyData.depth, PyData.depthAll, ok_ret]
theorem sh_ent : SeqAt.shaped (.tuple [.str (nm "enter"), .int 5]) = true := by
  simp [SeqAt.shaped, PyData.canLay0, PyData.canLayAll0, PyData.depth, PyData.depthAll, ok_ent]
theorem ne_ret {t u : Tok} (ha : s.heap.get? a = some (tpO [.str (nm "return") t] n)) (hb : s.heap.get? b = some (tpO [.str (nm "return") u] k)) (hu : A.units ≤ 9000) (h : Q (.bool false) s) :
    wpAny (model prog w) A (compareOp .NotEq (.ref a) (.ref b)) Q E s :=
  ne_dataH_same (da := .tuple [.str (nm "return")]) (db := .tuple [.str (nm "return")]) (reads_tuple_at ha rfl rfl (.cons (.str _ _) .nil)) (reads_tuple_at hb rfl rfl (.cons (.str _ _) .nil)) sh_ret sh_ret (room64 hu) (by decide) (by
    have e : PySem.Spec.same (.tuple [.str (nm "return")]) (.tuple [.str (nm "return")]) = true := by decide
    rw [e]; exact h)
theorem ne_ent {t u t' u' : Tok} (ha : s.heap.get? a = some (tpO [.str (nm "enter") t, .int (5 : Nat) t'] n)) (hb : s.heap.get? b = some (tpO [.str (nm "enter") u, .int 5 u'] k)) (hu : A.units ≤ 9000) (h : Q (.bool false) s) :
    wpAny (model prog w) A (compareOp .NotEq (.ref a) (.ref b)) Q E s :=
  ne_dataH_same (da := .tuple [.str (nm "enter"), .int 5]) (db := .tuple [.str (nm "enter"), .int 5]) (reads_tuple_at ha rfl rfl (.cons (.str _ _) (.cons (.int _ _) .nil))) (reads_tuple_at hb rfl rfl (.cons (.str _ _) (.cons (.int _ _) .nil))) sh_ent sh_ent (room64 hu) (by decide) (by
    have e : PySem.Spec.same (.tuple [.str (nm "enter"), .int 5]) (.tuple [.str (nm "enter"), .int 5]) = true := by decide
    rw [e]; exact h)
theorem sh_fin (ns : List Int) : SeqAt.shaped (.tuple [.list (ns.map PyData.int), .str (nm "return")]) = true := by
  have h := ke_shaped_ints ns
  simp [SeqAt.shaped, PyData.canLay0, PyData.canLayAll0, PyData.depth, PyData.depthAll, ke_canLayAll0, ke_depthAll, ok_ret] at h ⊢
theorem same_fin (ns : List Int) : PySem.Spec.same (.tuple [.list (ns.map PyData.int), .str (nm "return")]) (.tuple [.list (ns.map PyData.int), .str (nm "return")]) = true := by
  simp [PySem.Spec.same, PySem.Spec.sameAll, ke_sameAll]
theorem mix_fin (ns : List Int) : SeqAt.noMix (.tuple [.list (ns.map PyData.int), .str (nm "return")]) (.tuple [.list (ns.map PyData.int), .str (nm "return")]) = true := by
  simp [SeqAt.noMix, SeqAt.noMixAll, noMix_ints]
theorem eq_fin {c d : Addr} {xs ys : List Value} {i j : Nat} {t u : Tok} {ns : List Int} (ha : s.heap.get? a = some (tpO [.ref c, .str (nm "return") t] n)) (hb : s.heap.get? b = some (tpO [.ref d, .str (nm "return") u] k))
    (hc : s.heap.get? c = some (lsO xs i)) (hd : s.heap.get? d = some (lsO ys j)) (hi : IntsAre xs ns) (hj : IntsAre ys ns) (hu : A.units ≤ 9000) (h : Q (.bool true) s) :
    wpAny (model prog w) A (compareOp .Eq (.ref a) (.ref b)) Q E s :=
  eq_dataH_same (reads_tuple_at ha rfl rfl (.cons (reads_list_at hc rfl rfl (by simpa using readsAll_of_ints hi)) (.cons (.str _ _) .nil))) (reads_tuple_at hb rfl rfl (.cons (reads_list_at hd rfl rfl (by simpa using readsAll_of_ints hj)) (.cons (.str _ _) .nil))) (sh_fin ns) (sh_fin ns) (room64 hu) (mix_fin ns) (by
    rw [same_fin ns]; exact h)
theorem item_LK {value slice : PySem.Expr} {q : Int} {i : Nat} {u : Tok} {v : Value} (hk : q = (i : Nat)) (N : News h₀ L s.heap news) (hm : (a, lsO vs n) ∈ news) (hx : vs[i]? = some v) (hi : i < 2 ^ 60) (h : Q v s)
    (hs : subscripted slice false (.ref a) (.int q u) = operate [.ref a, .int q u] (getItem (.ref a) (.int q u))) : wpAny (model prog w) A (subscriptTail value slice (.ref a) (.int q u)) Q E s := by
  subst hk
  exact item_L N hm hx hi h hs
theorem slice2_TLS {nw : List (Addr × Obj)} {m : Str → Option Value} {value slice : PySem.Expr} {u : Tok} (hm : (a, tpO vs n) ∈ nw) (F : Fr h₀ L s.heap m) (N : News h₀ L s.heap news) (hw : ∀ p ∈ nw, p ∈ news) (hk : 2 < vs.length) (hsz : vs.length ≤ 10000)
    (h : ∀ D h', Fr h₀ L h' m → News h₀ L h' ((D, tpO (vs.take 2) 0) :: news) → (∀ p ∈ news, p.1 < D) → Q (.ref D) { s with heap := h' })
    (hs : subscripted slice false (.ref a) (.ref s.heap.objs.size) = operate [.ref s.heap.objs.size, .ref a] (getItem (.ref a) (.ref s.heap.objs.size))) :
    wpAny (model prog w) A (subscriptTail value slice (.ref a) (.ref s.heap.objs.size)) Q E { s with heap := s.heap.push { cls := .type "slice", data := .fields #[.none, .int 2 u, .none] } } := by
  have ht : IsTup s.heap a vs.toArray := News.isTup N (hw _ hm)
  have ht' : IsTup (s.heap.push { cls := .type "slice", data := .fields #[.none, .int 2 u, .none] }) a vs.toArray := ht.keeps fun _ _ e => Heap.get?_push_of_some _ e
  refine tail_any (s := { s with heap := s.heap.push { cls := .type "slice", data := .fields #[.none, .int 2 u, .none] } }) ht'.typeIs slot_tuple_getitem.lookup
    (getItem_tuple_upto (k := 2) ht' (Heap.IsSliceOf.new ..) (by simp) (by simpa using hk) ?_ (by rw [sizeLine_eq, List.size_toArray]; omega)) hs
  have N1 := News.push (F.push { cls := .type "slice", data := .fields #[.none, .int 2 u, .none] }) (N.grown fun _ _ e => Heap.get?_push_of_some _ e) { cls := .type "tuple", data := .seq (vs.toArray.toList.take 2).toArray }
  rw [Heap.size_push] at N1
  show Q (.ref (s.heap.push _).objs.size) _
  rw [Heap.size_push]
  exact h _ _ ((F.push _).push _) N1 fun p hp => Nat.lt_succ_of_lt (Heap.lt_size (N p hp).1)
end cmp
theorem RwG.tag2 {G : Says} {v : Value} : ∀ {r : Row}, RwG G v r → (∃ k e, r = .ent k e) ∨ (ents [r] = [] ∧ ∃ ad n x t rest, v = .ref ad ∧ G ad (tpO (.str x t :: rest) n) ∧ x ≠ nm "enter")
  | .set _, ⟨_, _, _, ⟨a, n, e, h⟩, _⟩ => .inr ⟨rfl, a, n, _, _, _, e, h, by decide⟩
  | .dis _, ⟨_, _, a, n, e, h⟩ => .inr ⟨rfl, a, n, _, _, _, e, h, by decide⟩
  | .unl _ _, ⟨_, _, _, ⟨a, n, e, h⟩, _⟩ => .inr ⟨rfl, a, n, _, _, _, e, h, by decide⟩
  | .jmp _, ⟨_, _, a, n, e, h⟩ => .inr ⟨rfl, a, n, _, _, _, e, h, by decide⟩
  | .tim _ _, ⟨_, _, _, ⟨a, n, e, h⟩, _⟩ => .inr ⟨rfl, a, n, _, _, _, e, h, by decide⟩
  | .agn _ _, ⟨_, _, _, a, n, e, h⟩ => .inr ⟨rfl, a, n, _, _, _, e, h, by decide⟩
  | .ent _ _, _ => .inl ⟨_, _, rfl⟩
  | .lea _, ⟨_, _, a, n, e, h⟩ => .inr ⟨rfl, a, n, _, _, _, e, h, by decide⟩
  | .ret, ⟨_, a, n, e, h⟩ => .inr ⟨rfl, a, n, _, _, _, e, h, by decide⟩
theorem RwG.tag3 {G : Says} {v : Value} : ∀ {r : Row}, RwG G v r → (∃ k e, r = .ent k e) ∨ (ents [r] = [] ∧ ∃ ad n x t rest, v = .ref ad ∧ G ad (tpO (.str x t :: rest) n) ∧ (x = nm "set" ∨ x = nm "disable" ∨ x = nm "unless" ∨ x = nm "jump" ∨ x = nm "times" ∨ x = nm "again" ∨ x = nm "leave" ∨ x = nm "return"))
  | .set _, ⟨_, _, _, ⟨a, n, e, h⟩, _⟩ => .inr ⟨rfl, a, n, _, _, _, e, h, by simp⟩
  | .dis _, ⟨_, _, a, n, e, h⟩ => .inr ⟨rfl, a, n, _, _, _, e, h, by simp⟩
  | .unl _ _, ⟨_, _, _, ⟨a, n, e, h⟩, _⟩ => .inr ⟨rfl, a, n, _, _, _, e, h, by simp⟩
  | .jmp _, ⟨_, _, a, n, e, h⟩ => .inr ⟨rfl, a, n, _, _, _, e, h, by simp⟩
  | .tim _ _, ⟨_, _, _, ⟨a, n, e, h⟩, _⟩ => .inr ⟨rfl, a, n, _, _, _, e, h, by simp⟩
  | .agn _ _, ⟨_, _, _, a, n, e, h⟩ => .inr ⟨rfl, a, n, _, _, _, e, h, by simp⟩
  | .ent _ _, _ => .inl ⟨_, _, rfl⟩
  | .lea _, ⟨_, _, a, n, e, h⟩ => .inr ⟨rfl, a, n, _, _, _, e, h, by simp⟩
  | .ret, ⟨_, a, n, e, h⟩ => .inr ⟨rfl, a, n, _, _, _, e, h, by simp⟩
theorem fr_pick {g h : Heap} {L : Addr} {m : Str → Option Value} {a b c : Str} {va vb vc : Value} (F : Fr g L h m) (ha : m a = some va) (hb : m b = some vb) (hc : m c = some vc) :
    ∃ mz : Str → Option Value, Fr g L h (fun y => if y = a then some va else if y = b then some vb else if y = c then some vc else mz y) := ⟨m, by
  have e : m = fun y => if y = a then some va else if y = b then some vb else if y = c then some vc else m y := funext fun y => by
    by_cases h1 : y = a
    · rw [if_pos h1, h1, ha]
    by_cases h2 : y = b
    · rw [if_neg h1, if_pos h2, h2, hb]
    by_cases h3 : y = c
    · rw [if_neg h1, if_neg h2, if_pos h3, h3, hc]
    · rw [if_neg h1, if_neg h2, if_neg h3]
  rw [← e]; exact F⟩
theorem read_callL {prog : Program} {w : World} {p : Program} {loose : List Str} {mean : ExcName → Option Value} {mg mb : Str → Option Value} {A : Around} {s : Shared} {Q : Value → Shared → Prop} {E : Value → Shared → Prop} {n : Nat} (H : RdSpec n) {d : Sm} {v : Value} {sn : Addr} {vs : List Value} {nc : Nat} {g : Heap} {L : Addr} {m : Str → Option Value} {news rest tz : List (Addr × Obj)} (hd : hgt d ≤ n)
    (F : Fr g L s.heap m) (N : News g L s.heap news) (X : (Mine.hd.heap_1 w.params).In g) (T : Top p loose mean mg mb g) (U : Out sn (lsO vs nc) news rest) (hh : A.handled = none) (hdp : A.depth + 2 * n ≤ 880) (hun : A.units + 20 * n ≤ 7900)
    (R : StG (lG tz) v d) (ht : ∀ p ∈ tz, p ∈ news) (hz : vs.length + ob d ≤ 9000)
    (h : ∀ h' tk' t' us nc', Fr g L h' m → News g L h' ((sn, lsO (vs ++ us) nc') :: rest) → IntsAre us (asI (rd d).1) → us.length ≤ ob d → Q (.int (lv (rd d).2) t') { s with heap := h', toks := tk' }) :
    wpAny (model prog w) A (call (.ref 288) [v, .ref sn]) Q E s := by
  have z := N _ U.mem
  refine H d hd X T F.keep hh hdp hun z.1 z.2.2 (StG.mono (fun a its n x => (N _ (ht _ x)).1) _ _ R) hz fun h' tk' t' us nc' K hsn IA => ?_
  have hS : ∀ a ∈ [sn], ∃ o, (a, o) ∈ news := fun a ha => by cases List.mem_singleton.mp ha; exact ⟨_, U.mem⟩
  refine h h' tk' t' us nc' (K.fr F N hS) (K.news (nw := []) F N (fun q hq => ?_) fun _ h => nomatch h) IA (by have h1 := IA.length; simp only [asI, List.length_map] at h1; have h2 := rd_ob d; omega)
  rcases List.mem_cons.mp hq with rfl | hq
  · exact .inr (.inl ⟨hsn, _, U.mem⟩)
  · exact .inl ⟨(U.rest q hq).1, by simpa using (U.rest q hq).2⟩
theorem run_eq : ∀ (n lo : Nat), run lo n = (List.range n).map (lo + ·)
  | 0, _ => rfl
  | n + 1, lo => by
    rw [List.range_succ_eq_map, List.map_cons, List.map_map, run, run_eq n (lo + 1)]
    congr 1
    apply List.map_congr_left
    intro x _
    show lo + 1 + x = lo + (x + 1)
    omega
theorem rangeKs_run (n : Nat) : rangeKs 5 n = asI (run 5 n) := by
  rw [run_eq, asI, rangeKs, List.map_map]
  apply List.map_congr_left
  intro x _
  show (5 : Int) + (x : Int) = ((5 + x : Nat) : Int)
  omega
theorem ents_take {rows : List Row} {i : Nat} {r : Row} (h : rows[i]? = some r) : ents (rows.take (i + 1)) = ents (rows.take i) ++ ents [r] := by
  rw [List.take_add_one, h, ents_app]; rfl
end Mine
namespace Mine
theorem Ap.of4 {l : List (Addr × Obj)} {a b c d : Addr} {x y z u : Obj} (h1 : ∀ p ∈ l, p.1 ≠ a) (h2 : ∀ p ∈ l, p.1 ≠ b) (h3 : ∀ p ∈ l, p.1 ≠ c) (h4 : ∀ p ∈ l, p.1 ≠ d) : Ap l [(a, x), (b, y), (c, z), (d, u)] := fun p hp =>
  List.forall_mem_cons.mpr ⟨h1 p hp, List.forall_mem_cons.mpr ⟨h2 p hp, List.forall_mem_cons.mpr ⟨h3 p hp, List.forall_mem_cons.mpr ⟨h4 p hp, fun _ h => (nomatch h)⟩⟩⟩⟩
theorem Kept.backS {S : List Addr} {g h h' : Heap} {L : Addr} {m : Str → Option Value} {news keep nw : List (Addr × Obj)} (K : Kept S h h') (F : Fr g L h m) (N : News g L h news) (hS : ∀ a ∈ S, ∃ o, (a, o) ∈ news)
    (hk : ∀ p ∈ keep, p ∈ news) (ho : ∀ p ∈ keep, p.1 ∉ S) (hw : ∀ p ∈ nw, h'.get? p.1 = some p.2 ∧ h.get? p.1 = none) : Fr g L h' m ∧ News g L h' (nw ++ keep) :=
  ⟨K.fr F N hS, K.news F N (fun p hp => (List.mem_append.mp hp).elim (fun q => .inr (.inr q)) fun q => .inl ⟨hk p q, ho p q⟩) hw⟩
section fromlaw
theorem take_callL {prog : Program} {w : World} {p : Program} {loose : List Str} {mean : ExcName → Option Value} {mg mb : Str → Option Value} {h₀ : Heap} {L : Addr} {m : Str → Option Value} {news rest : List (Addr × Obj)}
    {A : Around} {s : Shared} {st rw : Addr} {i n kr : Nat} {km : Int} {ti tm : Tok} {vs : List Value} {row : List Int} {Q : Value → Shared → Prop} {E : Value → Shared → Prop}
    (F : Fr h₀ L s.heap m) (N : News h₀ L s.heap news) (X0 : (Mine.hd.heap_1 w.params).In h₀) (T0 : Top p loose mean mg mb h₀) (U : Out st (lsO [.ref rw, .int i ti] n) news rest)
    (hrw : (rw, lsO vs kr) ∈ rest) (hvs : IntsAre vs row) (h40 : row.length ≤ 40)
    (hh : A.handled = none) (hdp : A.depth ≤ 800) (hun : A.units ≤ 5000) (hi : i < 300) (hm0 : 0 < km) (hm1 : km < 1000)
    (hQ : ∀ h' t' t'' tks r, r = tak row i km.toNat → (r : Int) < km → Fr h₀ L h' m → News h₀ L h' ((st, lsO [.ref rw, .int (i + 1 : Nat) t'] n) :: rest) → Q (.int (r : Nat) t'') { s with heap := h', toks := tks }) :
    wpAny (model prog w) A (call (.ref 274) [.ref st, .int km tm]) Q E s := by
  have hmem := U.mem
  have hn := (N _ hmem).2.2
  have h1 := U.rest _ hrw
  refine take_spec X0 T0 F.keep (N _ hmem).1 hn (News.isList N h1.1) h1.2 hvs hh hdp hun h40 hi hm0 hm1 fun h' t' t'' tks r hr K hc => ?_
  have hS : ∀ a ∈ [st], ∃ o, (a, o) ∈ news := fun a ha => by cases List.mem_singleton.mp ha; exact ⟨_, hmem⟩
  refine hQ h' t' t'' tks r hr (by have := tak_lt row i (m := km.toNat) (by omega); omega) (K.fr F N hS) (K.news (nw := []) F N (fun p hp => ?_) fun _ h => nomatch h)
  rcases List.mem_cons.mp hp with rfl | q
  · exact .inr (.inl ⟨hc, _, hmem⟩)
  · exact .inl ⟨(U.rest p q).1, by simpa using (U.rest p q).2⟩
theorem stmt_callL {d : Nat} (H : StSpec d) {prog : Program} {w : World} {p : Program} {loose : List Str} {mean : ExcName → Option Value} {mg mb : Str → Option Value} {h₀ : Heap} {L : Addr} {m : Str → Option Value} {news r1 r2 : List (Addr × Obj)}
    {A : Around} {s : Shared} {st rw md ol : Addr} {n n' kr : Nat} {kd : Int} {gi m0 m1 : Nat} {t0 t1 t2 td : Tok} {vs ovs : List Value} {row : List Int} {oo : List Nat} {Q : Value → Shared → Prop} {E : Value → Shared → Prop}
    (F : Fr h₀ L s.heap m) (N : News h₀ L s.heap news) (X0 : (Mine.hd.heap_1 w.params).In h₀) (T0 : Top p loose mean mg mb h₀)
    (U1 : Out st (lsO [.ref rw, .int gi t0] n) news r1) (U2 : Out md (lsO [.int m0 t1, .int m1 t2] n') r1 r2)
    (hrw : (rw, lsO vs kr) ∈ r2) (hvs : IntsAre vs row) (h40 : row.length ≤ 40)
    (hol : s.heap.IsList ol ovs.toArray) (hos : ol ≠ st) (hom : ol ≠ md) (hovs : IntsAre ovs (oo.map fun k : Nat => (k : Int))) (hoo0 : 0 < oo.length) (hoo : oo.length + d ≤ 10)
    (hh : A.handled = none) (hdp : A.depth + 10 * d ≤ 700) (hun : A.units + 20 * d ≤ 4000) (hkd : kd = d) (hgi : gi + bnd d < 250) (hok : m0 ≤ gi ∧ m1 ≤ gi + 5)
    (hQ : ∀ h' v nw tks t0 t1 t2, Fr h₀ L h' m → News h₀ L h' ((st, lsO [.ref rw, .int (gen row d oo ⟨gi, m0, m1⟩).2.i t0] n) :: (md, lsO [.int (gen row d oo ⟨gi, m0, m1⟩).2.m0 t1, .int (gen row d oo ⟨gi, m0, m1⟩).2.m1 t2] n') :: (r2 ++ nw)) →
      Ap nw news → (∀ p ∈ nw, p.2.cls = .type "tuple") → StG (lG nw) v (gen row d oo ⟨gi, m0, m1⟩).1 → Q v { s with heap := h', toks := tks }) :
    wpAny (model prog w) A (call (.ref 281) [.ref st, .int kd td, .ref ol, .ref md]) Q E s := by
  have m1' := U1.mem
  have m2' : (md, _) ∈ news := (U1.rest _ U2.mem).1
  have hne : st ≠ md := fun e => (U1.rest _ U2.mem).2 e.symm
  have q2 := U2.rest _ hrw
  have q1 := U1.rest _ q2.1
  refine H X0 T0 F.keep (N _ m1').1 (N _ m1').2.2 (N _ m2').1 (N _ m2').2.2 hne (News.isList N q1.1) q1.2 q2.2 hvs h40 hol hos hom hovs hoo0 hoo hh hdp hun hkd (g := ⟨gi, m0, m1⟩) hgi hok fun h' v nw tks t0 t1 t2 K hc1 hc2 W R => ?_
  have hS : ∀ a ∈ [st, md], ∃ o, (a, o) ∈ news := fun a ha => by
    rcases List.mem_cons.mp ha with rfl | ha
    · exact ⟨_, m1'⟩
    · cases List.mem_singleton.mp ha; exact ⟨_, m2'⟩
  refine hQ h' v nw tks t0 t1 t2 (K.fr F N hS) (K.news F N (fun p hp => ?_) fun p hp => ⟨(W p hp).1, (W p hp).2.1⟩) (W.ap N) (fun p hp => (W p hp).2.2) R
  rcases List.mem_cons.mp hp with rfl | hp
  · exact .inr (.inl ⟨hc1, _, m1'⟩)
  rcases List.mem_cons.mp hp with rfl | hp
  · exact .inr (.inl ⟨hc2, _, m2'⟩)
  rcases List.mem_append.mp hp with hp | hp
  · have h1 := U2.rest p hp
    have h2 := U1.rest p h1.1
    refine .inl ⟨h2.1, fun q => ?_⟩
    rcases List.mem_cons.mp q with e | q
    · exact h2.2 e
    · exact h1.2 (List.mem_singleton.mp q)
  · exact .inr (.inr hp)
end fromlaw
inductive LwJ (f : GS → Sm × GS) (g0 : GS) (rw ra st md : Addr) (ws : List Value) (i : Nat) (nx : List (Addr × Obj)) : Prop where
  | mk (vsl : List Value) (nl : Nat) (fz : List (Addr × Obj)) (u0 u1 u2 : Tok) (e : nx = (ra, lsO vsl nl) :: (st, lsO [.ref rw, .int (genL f i g0).2.i u0] 0) :: (md, lsO [.int (genL f i g0).2.m0 u1, .int (genL f i g0).2.m1 u2] 0) :: (rw, lsO ws 0) :: fz)
    (h1 : SlG (lG fz) vsl (genL f i g0).1) (h2 : ∀ p ∈ fz, p.2.cls = .type "tuple") (h3 : Ap fz [(ra, lsO [] 0), (st, lsO [] 0), (md, lsO [] 0), (rw, lsO [] 0)]) : LwJ f g0 rw ra st md ws i nx
inductive LawEnd (s₁ : Shared) (f : Flow) (s' : Shared) : Prop
  | mk : f = .ret (.bool true) → (∃ h' tk m', s' = { s₁ with heap := h', toks := tk } ∧ Fr s₁.heap s₁.heap.objs.size h' m') → LawEnd s₁ f s'
theorem LawEnd.intro {s₁ : Shared} {f : Flow} {h' : Heap} {tk : Nat} {m' : Str → Option Value} (hf : f = .ret (.bool true)) (F : Fr s₁.heap s₁.heap.objs.size h' m') : LawEnd s₁ f { s₁ with heap := h', toks := tk } := ⟨hf, _, _, _, rfl, F⟩
section lawwalk
open PySem.Spec PyProof.V
local macro_rules | `(tactic| walk_at "compareOp NotEq ref ref") => `(tactic| refine stop_here ?_)
local macro_rules | `(tactic| walk_at "compareOp Eq ref ref") => `(tactic| refine stop_here ?_)
local macro_rules | `(tactic| walk_at "eval ListComp") => `(tactic| refine stop_here ?_)
local macro_rules | `(tactic| walk_at "call builtin:sorted") => `(tactic| refine stop_here ?_)
local macro_rules | `(tactic| walk_at "call type:list") => `(tactic| refine stop_here ?_)
local macro_rules | `(tactic| walk_at "exec For Name Name cons nil") => `(tactic| (with_reducible refine stop_here ?_))
local macro_rules | `(tactic| walk_at "CompSrcT") => `(tactic| refine stop_here ?_)
local macro_rules | `(tactic| walk_at "subscriptTail Name Constant ref int") => `(tactic| (k_dflt ((refine' item_TLS ?hm _ _ _ _ _ _ _; (case hm => with_reducible assumption)) <;> walk_at "MINE S")))
local macro_rules | `(tactic| walk_at "subscriptTail Name Constant ref int") => `(tactic| (k_dflt ((refine' item_LK (i := 0) _ _ _ _ _ _ _) <;> walk_at "MINE S")))
local macro_rules | `(tactic| walk_at "subscriptTail Name BinOp ref int") => `(tactic| (k_dflt ((refine' item_LK _ _ _ _ _ _ _) <;> walk_at "MINE S")))
local macro_rules | `(tactic| walk_at "subscriptTail Subscript Name Constant Slice ref ref") => `(tactic| (k_dflt (refine' slice2_TLS ?t ?F ?N ?hw ?hk ?hz ?_ ?s; (case t => with_reducible assumption); (case F => k_asm); (case N => k_asm); (case hw => walk_at "MINE sub"); (case hk => simp); (case hz => simp); (case s => with_unfolding_all rfl)); intro D' h' F' N' l1; (try k_lt l1)))
local macro_rules | `(tactic| walk_at "call builtin:len") => `(tactic| walk_at "MINE len")
local macro_rules | `(tactic| walk_at "assign Tuple cons ref") => `(tactic| walk_at "MINE unpack")
local macro_rules | `(tactic| walk_at "call ref") => `(tactic| with_reducible refine stop_ref 263 ?_)
local macro_rules | `(tactic| walk_at "call ref") => `(tactic| with_reducible refine stop_ref 197 ?_)
local macro_rules | `(tactic| walk_at "call ref") => `(tactic| with_reducible refine stop_ref 239 ?_)
local macro_rules | `(tactic| walk_at "call ref") => `(tactic| with_reducible refine stop_ref 288 ?_)
local macro_rules | `(tactic| walk_at "call ref") => `(tactic| with_reducible refine stop_ref 293 ?_)
local macro_rules | `(tactic| walk_at "call ref") => `(tactic| (((k_dflt refine' take_callL _ _ _ _ _ _ _ _ _ _ _ _ _ _ _) <;> walk_at "MINE S"); intro h' t' t'' tk' r' hr' hl' F' N'))
local macro_rules | `(tactic| walk_at "call type:range") => `(tactic| (((with_reducible refine' range_N _ _ _) <;> walk_at "MINE S"); intro h' r' a' b' c' tk' hr' F' N'))
local macro_rules | `(tactic| walk_at "call builtin:list.append") => `(tactic| walk_at "MINE append")
local macro_rules | `(tactic| walk_at "call type:tuple") => `(tactic| (((k_dflt refine' tuple_L _ _ _ _ _) <;> walk_at "MINE S"); intro D' h' F' N' l1; (try k_lt l1)))
local macro_rules | `(tactic| walk_at "pyIter ref") => `(tactic| (with_reducible refine stop_here ?_))
local macro_rules | `(tactic| walk_at "exec For Name Call cons nil") => `(tactic| (with_reducible refine stop_here ?_))
local macro_rules | `(tactic| walk_at "execs cons Assign cons") => `(tactic| walk_at "execs cons")
local macro_rules | `(tactic| walk_at "setAttr ref") => `(tactic| (k_dflt ((refine' set_rt _ _ _ _ _ _ _) <;> walk_at "MINE S"); intro h' es' F' N' g1' g2'))
local macro_rules | `(tactic| k_qdec) => `(tactic| decide +kernel)
set_option maxHeartbeats 8000000 in
theorem law_walks : PySem.Challenge.rw_on0120_01.Holds := Mine.hd (by
  k_go0
  (all_goals try k_fold)
  rename (Mine.hd.heap_1 _).In _ => X9
  rename Top _ _ _ _ _ _ => T9 
  rename Heap.IsList _ _ _ => hl9
  rename IntsAre _ _ => hI9
  rename Fr _ _ _ _ => F0
  rename News _ _ _ _ => N0
  rename ¬ ((63 : Nat) : Int) < _ => h63
  rename_i w s₀ s₁ mg mb G Y fa o pm doc kV ho hg X V GL B TE TW wa wo M wc cdv hcd ns hs hlay0 hL hr hl2 l1 l2 la vs l3 ra w1 r0 hr2 hc K0 hD h₁
  refine wpAny_mono (Q := LawEnd s₁) (E := fun _ _ => False) ?main ?fin (fun _ _ e => e.elim)
  case fin =>
    rintro f s' ⟨rfl, h', tk, m', rfl, F⟩
    dsimp only
    refine goodW_bool (by assumption) (by assumption) (raisesW_false ?_) ?_
    · wrow_none_raised
    · kc_post
  case main =>
    clear hD K0 hc hr2 r0 w1 ra hl2 hr hL hlay0 hs hcd M TW TE B GL V X hg ho Y G
    have hh : callerA.handled = none := rfl
    have hdp : callerA.depth ≤ 301 := by decide
    have hun : callerA.units ≤ 5 := by decide
    generalize callerA = A0 at hh hdp hun ⊢
    obtain ⟨hA, dp, fr, gd, un⟩ := A0
    cases hh
    dsimp only at hdp hun
    first | have hd1 : dp + 1 ≤ _ := Nat.add_le_add_right hdp 1 | have hd1 : dp + 1 ≤ 850 := by omega | skip
    first | have hu3 : un + 3 ≤ _ := Nat.add_le_add_right hun 3 | have hu3 : un + 3 ≤ 7990 := by omega | skip
    obtain ⟨g', sg1, sd, stk, sos⟩ := s₁
    k_steps
    rename Fr _ _ _ _ => F9; rename News _ _ _ _ => N9; rename IntsAre _ _ => hvs
    rename_i rw ws _ _ _ _ st _ Fx Nx o1 _ _ md _ _ o2 _ ra _ o3 _
    clear Fx Nx
    obtain ⟨row, hrow⟩ : ∃ row, row = ns.take 40 := ⟨_, rfl⟩
    rw [← hrow] at hvs
    have h40 : row.length ≤ 40 := by rw [hrow, List.length_take]; omega
    change News g' _ _ [(ra, lsO [] 0), (md, lsO [.int (0 : Nat) _, .int (5 : Nat) _] 0), (st, lsO [.ref rw, .int (0 : Nat) _] 0), (rw, lsO ws 0)] at N9
    change Fr g' _ _ _ at F9
    refine stop_out ?_
    refine For_invV g' rfl rfl ?_
    k_steps
    rename IsRange _ _ _ _ _ _ _ _ => hrg
    rename Fr _ _ _ _ => F9; rename News _ _ _ _ => N9; rename _ = Mine.tak row 0 _ => h7
    simp only [Int.reduceToNat] at h7
    subst h7
    have hcnt := tak_lt row 0 (m := 4) (by decide)
    have hbl := fun i => genL_near (gen_near row 2 [5]) i ⟨1, 0, 5⟩
    have H2 : StSpec 2 := stmt_all 2 (by decide)
    refine stop_out ?_
    refine loop_range1 (n := 1 + tak row 0 4) (LwJ (gen row 2 [5]) ⟨1, 0, 5⟩ rw ra st md ws) rfl hrg (by omega) (by omega) F9 (Mine.News.sub N9 (l' := (ra, lsO [] 0) :: (st, lsO [.ref rw, .int (0 + 1 : Nat) _] 0) :: (md, lsO [.int (0 : Nat) _, .int (5 : Nat) _] 0) :: (rw, lsO ws 0) :: []) (by walk_at "MINE sub")) ⟨[], 0, [], _, _, _, rfl, by simp only [genL, SlG], fun _ h => (nomatch h), fun _ h => (nomatch h)⟩ ?_ ?_
    · intro i t nx h tk I io hi hJ hnI hio F9 N9
      (try k_fold)
      obtain ⟨vsl, nl, fz, u0, u1, u2, rfl, R, hcl, hap⟩ := hJ
      change Fr g' _ h _ at F9
      change News g' _ h _ at N9
      have hi1 := neN (hnI _ (.head _)); have hi2 := neN (hnI _ (.tail _ (.head _))); have hi3 := neN (hnI _ (.tail _ (.tail _ (.head _)))); have hi4 := neN (hnI _ (.tail _ (.tail _ (.tail _ (.head _)))))
      dsimp only at hi1 hi2 hi3 hi4
      have hn0 := hbl i
      have hmul : i * bnd 2 ≤ 3 * bnd 2 := Nat.mul_le_mul_right _ (by omega)
      have hb2 : bnd 2 = 30 := rfl
      generalize hGL : genL (gen row 2 [5]) i ⟨1, 0, 5⟩ = GL at N9 R hn0
      obtain ⟨lq, ⟨i1, a1, b1⟩⟩ := GL
      simp only [Near, GS.ok] at hn0 N9 R
      k_steps
      rename Fr _ _ _ _ => F9; rename News _ _ _ _ => N9
      rename_i sA _ hl8
      have hn := gen_near row 2 [5] ⟨i1, a1, b1⟩
      refine stop_out ?_
      refine stmt_callL H2 F9 N9 X9 T9 (oo := [5]) (by walk_at "MINE out") (by walk_at "MINE out") (by k_mem) hvs h40 (News.isList N9 (.head _)) (neN (by omega)) (neN (by omega)) (IntsAre.cons _ _ IntsAre.nil) (by decide) (by decide) rfl (by simp only [depth_deeper]; omega) (by simp only [Around.deeper_units]; omega) rfl (by omega) (by omega) ?_
      intro h1 vb nw tks w0 w1 w2 F9 N9 hap2 hcls2 R2
      simp only [List.cons_append, List.nil_append] at N9
      generalize hG2 : gen row 2 [5] ⟨i1, a1, b1⟩ = G2 at N9 R2 hn
      obtain ⟨db, ⟨i2, a2, b2⟩⟩ := G2
      simp only [Near, GS.ok] at hn N9 R2
      have hvl : vsl.length = i := by have h9 := R.length; have h8 := genL_length (gen row 2 [5]) i ⟨1, 0, 5⟩; rw [hGL] at h8; exact h9.trans h8
      k_steps
      rename Fr _ _ _ _ => F9; rename News _ _ _ _ => N9
      have hGL' : genL (gen row 2 [5]) (i + 1) ⟨1, 0, 5⟩ = (lq ++ [db], ⟨i2, a2, b2⟩) := by simp only [genL, hGL, hG2]
      refine LpEnd.intro (nx := (ra, lsO (vsl ++ [vb]) (nl + 1)) :: (st, lsO [.ref rw, .int i2 w0] 0) :: (md, lsO [.int a2 w1, .int b2 w2] 0) :: (rw, lsO ws 0) :: (fz ++ nw)) F9 N9 (by walk_at "MINE sub") ?_ ⟨fun z hz => if_neg hz, vsl ++ [vb], nl + 1, fz ++ nw, w0, w1, w2, by rw [hGL'], ?_, all_app hcl hcls2, ?_⟩
      · exact List.forall_mem_cons.mpr ⟨hi1, List.forall_mem_cons.mpr ⟨hi2, List.forall_mem_cons.mpr ⟨hi3, List.forall_mem_cons.mpr ⟨hi4, all_app (fun p hp => hnI p (.tail _ (.tail _ (.tail _ (.tail _ hp))))) (hap2.ne (o := io) (by k_mem))⟩⟩⟩⟩
      · rw [hGL']
        exact SlG.snoc (StG.mono (lG_sub fun p hp => List.mem_append_right _ hp) _ _ R2) (SlG.mono (lG_sub fun p hp => List.mem_append_left _ hp) _ _ R)
      · exact Ap.of4 (by k_all) (by k_all) (by k_all) (by k_all)
    · intro u nx h tkb hJ F9 N9
      (try k_fold)
      obtain ⟨vsl, nl, fz, u0, u1, u2, rfl, R, hcl, hap⟩ := hJ
      change Fr g' _ h _ at F9
      change News g' _ h _ at N9
      have hGL : lawL row = genL (gen row 2 [5]) (1 + tak row 0 4) ⟨1, 0, 5⟩ := rfl
      rw [← hGL] at N9 R
      have hvl : vsl.length = 1 + tak row 0 4 := R.length.trans (genL_length _ _ _)
      k_steps
      rename Fr _ _ _ _ => F9; rename News _ _ _ _ => N9
      rename_i Dt _ lt9 Db _ Fz Nz lb9 _
      clear Fz Nz
      refine stop_out ?_
      refine routine_new F9 N9 X9 T9 rfl (by simp only [depth_deeper]; omega) (by simp only [Around.deeper_units]; omega) ?_
      intro h1 im dx sla es0 tk1 F9 N9 hrt b1 b2 b3 b4 b5 b6
      have c1 := neN (b3 _ (.head _)); have c2 := neN (b3 _ (.tail _ (.head _))); have c3 := neN (b3 _ (.tail _ (.tail _ (.head _)))); have c4 := neN (b3 _ (.tail _ (.tail _ (.tail _ (.head _))))); have c5 := neN (b3 _ (.tail _ (.tail _ (.tail _ (.tail _ (.head _)))))); have c6 := neN (b3 _ (.tail _ (.tail _ (.tail _ (.tail _ (.tail _ (.head _)))))))
      dsimp only at c1 c2 c3 c4 c5 c6
      have hap3 : Ap fz [(sla, lsO [] 0)] := fun p hp q hq => by
        cases List.mem_singleton.mp hq
        exact b3 p (.tail _ (.tail _ (.tail _ (.tail _ (.tail _ (.tail _ hp))))))
      clear b3
      k_lt b1
      k_lt b2
      k_steps
      rename Fr _ _ _ _ => F9; rename News _ _ _ _ => N9
      refine stop_out ?_
      have hbd := law_bd row
      simp only [sz, hgt] at hbd
      obtain ⟨ty9, hty9⟩ : ∃ fy, fy = (Db, tpO [.str (nm "block") tkb, .ref Dt, .int (-1) (tkb + 1 + 1)] 0) :: (Dt, tpO vsl 0) :: fz := ⟨_, rfl⟩
      have hs9 : Says.sub (lG ty9) (hG _) := fun a its n x => (N9 _ ((by rw [hty9]; walk_at "MINE sub" : ∀ p ∈ ty9, p ∈ _) _ x)).1
      have hR9 : StG (lG ty9) (.ref Db) (.seq (lawL row).1) := by
        simp only [StG]
        exact ⟨_, _, _, _, ⟨_, _, rfl, by rw [hty9]; exact .head _⟩, ⟨_, _, rfl, by rw [hty9]; exact .tail _ (.head _)⟩, SlG.mono (lG_sub fun p hp => by rw [hty9]; exact .tail _ (.tail _ hp)) _ _ R⟩
      refine compile_spec (k := 5) (l := (lawL row).1) (G := lG ty9) X9 T9 F9.keep (N9.get (by k_mem)) (N9 (im, _) (by k_mem)).2.2 (N9.get (by k_mem)) (N9 (dx, _) (by k_mem)).2.2 (by assumption) (by assumption) (N9.get (by k_mem)) rfl (by omega) rfl (by simp only [depth_deeper, hgt]; omega) (by simp only [Around.deeper_units, hgt]; omega) hs9 hR9 ?_
      intro h2 D cl cs nw t30 z30 n30 nc tk2 K hD hD0 hcl0 hcl1 W RR
      have ho : ∀ p ∈ (ra, lsO vsl nl) :: (md, lsO [.int ((lawL row).2.m0 : Nat) u1, .int ((lawL row).2.m1 : Nat) u2] 0) :: ty9, p.1 ∉ [im, dx] := fun p hp hm => by
        rw [hty9] at hp
        have hall : ∀ p ∈ (ra, lsO vsl nl) :: (md, lsO [.int ((lawL row).2.m0 : Nat) u1, .int ((lawL row).2.m1 : Nat) u2] 0) :: (Db, tpO [.str (nm "block") tkb, .ref Dt, .int (-1) (tkb + 1 + 1)] 0) :: (Dt, tpO vsl 0) :: fz, p.1 < dx ∧ p.1 < im := List.forall_mem_cons.mpr ⟨⟨b1.2.2.1, b2.2.2.1⟩, List.forall_mem_cons.mpr ⟨⟨b1.2.2.2.2.1, b2.2.2.2.2.1⟩, List.forall_mem_cons.mpr ⟨⟨b1.1, b2.1⟩, List.forall_mem_cons.mpr ⟨⟨b1.2.1, b2.2.1⟩, fun p hp => ⟨kst_ltOf b1.2.2.2.2.2.2 p hp, kst_ltOf b2.2.2.2.2.2.2 p hp⟩⟩⟩⟩⟩
        have h9 := hall p hp
        rcases List.mem_cons.mp hm with e | hm
        · exact absurd h9.2 (by rw [e]; exact Nat.lt_irrefl _)
        · exact absurd h9.1 (by rw [List.mem_singleton.mp hm]; exact Nat.lt_irrefl _)
      obtain ⟨F8, N8⟩ := Kept.backS (keep := (ra, lsO vsl nl) :: (md, lsO [.int ((lawL row).2.m0 : Nat) u1, .int ((lawL row).2.m1 : Nat) u2] 0) :: ty9) (nw := (D, tpO [.ref cl, .int z30 t30] n30) :: (cl, lsO cs nc) :: nw) K F9 N9 (List.forall_mem_cons.mpr ⟨⟨_, by k_mem⟩, List.forall_mem_cons.mpr ⟨⟨_, by k_mem⟩, fun _ h => (nomatch h)⟩⟩) (by rw [hty9]; walk_at "MINE sub") ho (List.forall_mem_cons.mpr ⟨⟨hD, hD0⟩, List.forall_mem_cons.mpr ⟨⟨hcl0, hcl1⟩, fun p hp => ⟨(W p hp).1, (W p hp).2.1⟩⟩⟩)
      obtain ⟨tz, htz⟩ : ∃ tz, tz = ty9 ++ nw := ⟨_, rfl⟩
      have RR2 : RwsG (lG tz) cs (lawRows row) := RR.mono (fun a its n x => by rw [htz]; exact x.elim (fun y => List.mem_append_left _ y) fun y => List.mem_append_right _ y)
      have RL2 : SlG (lG tz) vsl (lawL row).1 := SlG.mono (lG_sub fun p hp => by rw [htz, hty9]; exact List.mem_append_left _ (.tail _ (.tail _ hp))) _ _ R
      have N7 := Mine.News.sub N8 (l' := (D, tpO [.ref cl, .int z30 t30] n30) :: (cl, lsO cs nc) :: (ra, lsO vsl nl) :: (md, lsO [.int ((lawL row).2.m0 : Nat) u1, .int ((lawL row).2.m1 : Nat) u2] 0) :: tz) (by
        rw [htz]
        simp only [List.cons_append]
        walk_at "MINE sub")
      have hD9 : (D, tpO [.ref cl, .int z30 t30] n30) ∈ [(D, tpO [.ref cl, .int z30 t30] n30)] := .head _
      have hlen : cs.length ≤ 233 := by rw [RR2.length]; exact law_len row
      clear N8 N9 F9 K hD hD0 hcl0 hcl1 W RR ho hR9 hs9 b1 b2 b4 b5 b6 c1 c2 c3 c4 c5 c6 hap3 R hap hcl H2 hbl lt9 lb9 hrg
      k_steps
      rename Fr _ _ _ _ => F9; rename News _ _ _ _ => N9
      refine stop_out ?_
      obtain ⟨sc, hty⟩ := law_ty row
      obtain ⟨a0, rs0, hfirst⟩ := law_first row
      have hll := RR2.length
      have hpos : 0 < cs.length := by rw [hll, hfirst]; exact Nat.succ_pos _
      refine check_code_spec X9 T9 F9.keep rfl (by simp only [depth_deeper]; omega) (by simp only [Around.deeper_units]; omega) (N9.get (by k_mem)) (RR2.mono (fun a its n x => (N9 _ ((by walk_at "MINE sub" : ∀ p ∈ tz, p ∈ _) _ x)).1)) (by omega) hpos hty (law_last row) ?_
      intro h3 D3 tk3 n3 K3 hD3 hD30
      obtain ⟨F9, N9⟩ := Kept.backS (nw := [(D3, lsO [] n3)]) K3 F9 N9 (fun _ h => (nomatch h)) (fun _ h => h) (fun _ _ h => (nomatch h)) (fun p hp => by cases List.mem_singleton.mp hp; exact ⟨hD3, hD30⟩)
      simp only [List.cons_append, List.nil_append] at N9
      k_steps
      rename Fr _ _ _ _ => F9; rename News _ _ _ _ => N9
      refine stop_out ?_
      refine ne_nil_nil N9 (by k_mem) (.head _) (by simp only [Around.deeper_units]; omega) ?_
      have hk9 : ((cs.length : Nat) : Int) - 1 = ((cs.length - 1 : Nat) : Int) := by omega
      obtain ⟨wl, hwl, tl, rl, nl2, rfl, hrl⟩ := RR2.get (cs.length - 1) (r := .ret) (by rw [hll, ← List.getLast?_eq_getElem?]; exact law_last row)
      obtain ⟨we, hwe, e1, e2, e3, re, ne2, rfl, hre⟩ := RR2.get 0 (r := .ent 5 a0) (by rw [hfirst]; rfl)
      replace hrl : (rl, tpO [Value.str (nm "return") tl] nl2) ∈ tz := hrl
      replace hre : (re, tpO [Value.str (nm "enter") e1, Value.int (5 : Nat) e2, Value.int (a0 : Nat) e3] ne2) ∈ tz := hre
      k_steps
      rename Fr _ _ _ _ => F9; rename News _ _ _ _ => N9
      refine stop_out ?_
      refine ne_ret (N9 _ ((by walk_at "MINE sub" : ∀ p ∈ tz, p ∈ _) _ hrl)).1 (N9 _ (.head _)).1 (by simp only [Around.deeper_units]; omega) ?_
      k_steps
      rename Fr _ _ _ _ => F9; rename News _ _ _ _ => N9
      refine stop_out ?_
      refine ne_ent (N9.get (by k_mem)) (N9 _ (.head _)).1 (by simp only [Around.deeper_units]; omega) ?_
      k_steps
      rename Fr _ _ _ _ => F9; rename News _ _ _ _ => N9
      refine stop_out ?_
      replace N9 := Mine.News.sub N9 (l' := (cl, lsO cs nc) :: (ra, lsO vsl nl) :: (md, lsO [.int ((lawL row).2.m0 : Nat) u1, .int ((lawL row).2.m1 : Nat) u2] 0) :: tz) (by walk_at "MINE sub")
      clear hD9 hk9 hwl hwe hrl hre hD3 hD30 K3
      refine LCt.ListComp_T (F₀ := F9) (by with_unfolding_all rfl) (by decide) (by rfl) (by decide) (by rfl) ?_
      k_steps
      rename Fr _ _ _ _ => F9
      refine stop_out ?_
      refine LCt.CompSrcT.ledger rfl F9 N9 (by k_mem) (by rw [List.size_toArray]; exact Nat.le_trans (by omega : cs.length ≤ 10000) (by decide)) ?_
      intro gg
      refine compInd (fun i ys => IntsAre ys (asI (ents ((lawRows row).take i)))) ?_ ?_ _ _ _ (Nat.add_zero _) IntsAre.nil
      · intro ys hys D9 h9 tk9 F9 N9 off9
        simp only [LCg.Off1] at off9
        rw [List.size_toArray, hll, List.take_length, law_ents] at hys
        have hm1 := law_m1 row
        have hm5 := law_m1' row
        have hrl : (asI (run 5 ((lawL row).2.m1 - 4))).length = (lawL row).2.m1 - 4 := by rw [asI, List.length_map, run_len]
        k_steps
        rename Fr _ _ _ _ => F9
        refine stop_out ?_
        refine kso_sorted F9 N9 (News.isList N9 (.head _)) hys (by rw [hrl]; omega) ?_
        intro D8 vs8 ns8 c8 h8 F9 N9 l8 hI8 hlen8 hp8 ho8 _
        have hns8 := sorted_eq hp8 ho8 (run_sorted _ _)
        k_steps
        rename IsRange _ _ _ _ _ _ _ _ => hrg
        rename Fr _ _ _ _ => F9; rename News _ _ _ _ => N9
        refine stop_out ?_
        have hm1' : (1 : Int) + [((lawL row).2.m0 : Int), ((lawL row).2.m1 : Int)].getD (Int.toNat 1) 0 = ((1 + (lawL row).2.m1 : Nat) : Int) := rfl
        rw [hm1'] at hrg
        refine kll_range (n := (lawL row).2.m1 - 4) rfl F9 N9 hrg (small_one (by omega) (by omega) (by omega) (by omega)) (by rw [rangeSize_one]; split <;> omega) (by omega) ?_
        intro D7 us7 c7 h7 tk7 F9 N9 l7 hI7
        rw [hns8] at hI8
        rw [rangeKs_run] at hI7
        k_steps
        rename Fr _ _ _ _ => F9; rename News _ _ _ _ => N9
        refine stop_out ?_
        refine ne_intsK (News.isList N9 (.tail _ (.head _))) hI8 (News.isList N9 (.head _)) hI7 (room64 (by simp only [Around.deeper_units]; omega)) ?_
        rw [decide_eq_true (rfl : asI (run 5 ((lawL row).2.m1 - 4)) = asI (run 5 ((lawL row).2.m1 - 4)))]
        replace N9 := Mine.News.sub N9 (l' := (cl, lsO cs nc) :: (ra, lsO vsl nl) :: tz) (by walk_at "MINE sub")
        clear hI7 hI8 hys hp8 ho8 hrg
        k_steps
        rename Fr _ _ _ _ => F9; rename News _ _ _ _ => N9
        rename_i sn _ lsn _
        refine stop_out ?_
        have hob : obL (lawL row).1 ≤ 232 := by have h := (law_bd row).2.1; simpa only [ob] using h
        obtain ⟨mz, F9⟩ := fr_pick (a := nm "seen") (b := nm "code_of") (c := nm "rows") F9 rfl rfl rfl
        refine wpAny_mono (Q := fun f s' => f = .next ∧ ∃ h tk m us nc', s' = { heap := h, gens := sg1, drawn := sd, toks := tk, os := sos } ∧ Fr g' g'.objs.size h m ∧ m (nm "seen") = some (.ref sn) ∧ m (nm "code_of") = some (.ref cl) ∧ News g' g'.objs.size h ((sn, lsO us nc') :: (cl, lsO cs nc) :: tz) ∧ IntsAre us (asI (rdL (lawL row).1).1)) ?lp ?rest (fun _ _ e => e)
        case lp =>
          refine For_invV g' rfl rfl ?_
          k_steps
          rename Fr _ _ _ _ => F9
          refine stop_out ?_
          refine loop_listL (fun i m nx => m (nm "seen") = some (.ref sn) ∧ m (nm "code_of") = some (.ref cl) ∧ (rdL ((lawL row).1.take i)).2 = none ∧ ∃ us nc', nx = (sn, lsO us nc') :: (cl, lsO cs nc) :: (ra, lsO vsl nl) :: tz ∧ IntsAre us (asI (rdL ((lawL row).1.take i)).1)) rfl (by k_mem) F9 N9 ⟨rfl, rfl, rfl, [], 0, rfl, IntsAre.nil⟩ ?_ ?_
          · intro i v m₁ nx h tk I io lo hi hJ hnI hio F9 N9
            (try k_fold)
            obtain ⟨hm1, hm2, hnone, us, nc', rfl, IA⟩ := hJ
            change Fr g' _ h _ at F9
            change News g' _ h _ at N9
            obtain ⟨d, hdl, Rd⟩ := RL2.get i hi
            have hi1 := neN (hnI _ (.head _))
            dsimp only at hi1
            have hhg := hgtL_mem (List.mem_of_getElem? hdl)
            have hob2 := obL_take hdl
            have hus : us.length ≤ obL ((lawL row).1.take i) := by have h1 := IA.length; simp only [asI, List.length_map] at h1; have h2 := rdL_ob ((lawL row).1.take i); omega
            obtain ⟨mz, F9⟩ := fr_pick (a := nm "s") (b := nm "seen") (c := nm "code_of") F9 (if_pos rfl) ((if_neg (by decide)).trans hm1) ((if_neg (by decide)).trans hm2)
            k_steps
            rename Fr _ _ _ _ => F9
            refine stop_out ?_
            refine read_callL (read_all 15) (d := d) (by omega) F9 N9 X9 T9 (by walk_at "MINE out") rfl (by simp only [depth_deeper]; omega) (by simp only [Around.deeper_units]; omega) Rd (by walk_at "MINE sub") (by omega) ?_
            intro h1 tk1 t1 us2 nc2 F9 N9 IA2 _
            have IA3 : IntsAre (us ++ us2) (asI ((rdL ((lawL row).1.take i)).1 ++ (rd d).1)) := by simp only [asI, List.map_append]; exact IA.append IA2
            rcases hrd : (rd d).2 with _ | j
            · have hrn := rdL_next hdl hnone
              rw [hrd] at hrn
              simp only [lv]
              k_steps
              rename Fr _ _ _ _ => F9; rename News _ _ _ _ => N9
              exact LlEnd.intro F9 N9 (nx := (sn, lsO (us ++ us2) nc2) :: (cl, lsO cs nc) :: (ra, lsO vsl nl) :: tz) (by walk_at "MINE sub") (List.forall_mem_cons.mpr ⟨hi1, fun p hp => hnI p (.tail _ hp)⟩) ⟨rfl, rfl, by rw [hrn], us ++ us2, nc2, rfl, by rw [hrn]; exact IA3⟩
            · have hrn := rdL_stop hdl hnone hrd
              simp only [lv]
              k_steps
              all_goals first
                | (exfalso; omega)
                | (rename Fr _ _ _ _ => F9; rename News _ _ _ _ => N9
                   exact ⟨rfl, _, _, _, us ++ us2, nc2, rfl, F9, rfl, rfl, Mine.News.sub N9 (by walk_at "MINE sub"), by rw [hrn]; exact IA3⟩)
          · intro m₁ nx h tk hJ F9 N9
            (try k_fold)
            obtain ⟨hm1, hm2, hnone, us, nc', rfl, IA⟩ := hJ
            rw [RL2.length, List.take_length] at IA
            exact ⟨rfl, _, _, _, us, nc', rfl, F9, hm1, hm2, Mine.News.sub N9 (by walk_at "MINE sub"), IA⟩
        case rest =>
          rintro f s' ⟨rfl, h, tk, m1, us, nc', rfl, F9, hm1, hm2, N9, IA⟩
          obtain ⟨mz, F9⟩ := fr_pick (a := nm "seen") (b := nm "code_of") (c := nm "seen") F9 hm1 hm2 hm1
          obtain ⟨n9, mf, hrun, hn9, hend, hop, hout⟩ := law_run row
          k_steps
          rename Fr _ _ _ _ => F9
          refine stop_out ?_
          refine walked_spec X9 T9 F9.keep rfl (by simp only [depth_deeper]; omega) (by simp only [Around.deeper_units]; omega) (N9.get (by k_mem)) (RR2.mono (fun a its n x => (N9 _ ((by walk_at "MINE sub" : ∀ p ∈ tz, p ∈ _) _ x)).1)) (by omega) hrun hn9 hend hop ?_
          intro h5 D5 sn5 t5 tk5 vs5 k5 K5 hD5 hsn5 IA5 hD50 hsn50
          rw [hout] at IA5
          obtain ⟨F9, N9⟩ := Kept.backS (nw := [(D5, tpO [.ref sn5, .str (nm "return") t5] 0), (sn5, lsO vs5 k5)]) K5 F9 N9 (fun _ h => (nomatch h)) (fun _ h => h) (fun _ _ h => (nomatch h)) (List.forall_mem_cons.mpr ⟨⟨hD5, hD50⟩, List.forall_mem_cons.mpr ⟨⟨hsn5, hsn50⟩, fun _ h => (nomatch h)⟩⟩)
          simp only [List.cons_append, List.nil_append] at N9
          k_steps
          rename Fr _ _ _ _ => F9; rename News _ _ _ _ => N9
          refine stop_out ?_
          refine eq_fin (N9.get (.tail _ (.head _))) (N9 _ (.head _)).1 (N9.get (.tail _ (.tail _ (.head _)))) (N9.get (.tail _ (.tail _ (.tail _ (.head _))))) IA5 IA (by simp only [Around.deeper_units]; omega) ?_
          k_steps
          rename Fr _ _ _ _ => F9
          exact LawEnd.intro rfl F9
      · intro i9 ys hi9 hys v9 I9 oI9 C9 oC9 D9 m9 h9 tk9 E9 hv9 hC9 hx9 F9 N9 off9 ne9
        have off8 := off9
        simp only [LCg.Off3] at off9
        rw [List.size_toArray] at hi9
        have hv8 : cs[i9]? = some v9 := by simpa using hv9
        obtain ⟨r9, hr9⟩ : ∃ r, (lawRows row)[i9]? = some r := ⟨_, List.getElem?_eq_getElem (hll ▸ hi9)⟩
        obtain ⟨v8, hv7, hrw9⟩ := RR2.get i9 hr9
        have ev : v8 = v9 := Option.some.inj (hv7.symm.trans hv8)
        subst ev
        rcases hrw9.tag3 with ⟨k8, e8, rfl⟩ | ⟨hnil, ad, an, x8, t8, rest8, rfl, had, hne⟩
        · obtain ⟨t1, t2, t3, ad, an, rfl, had⟩ := hrw9
          replace had : (ad, tpO [Value.str (nm "enter") t1, Value.int (k8 : Nat) t2, Value.int (e8 : Nat) t3] an) ∈ tz := had
          k_steps
          rename Fr _ _ _ _ => F9
          exact LCg.CompEnd.intro F9 N9 _ (by walk_at "MINE sub") off8 (.inr ⟨_, by k_mem, rfl, _, rfl⟩) ⟨rfl, by
            show IntsAre _ (asI (ents ((lawRows row).take (i9 + 1))))
            rw [ents_take hr9]
            simp only [asI, List.map_append]
            exact hys.append (IntsAre.cons _ _ IntsAre.nil)⟩
        · replace had : (ad, tpO (Value.str x8 t8 :: rest8) an) ∈ tz := had
          have hfin : IntsAre ys (asI (ents ((lawRows row).take (i9 + 1)))) := by
            rw [ents_take hr9, hnil, List.append_nil]; exact hys
          rcases hne with rfl | rfl | rfl | rfl | rfl | rfl | rfl | rfl
          all_goals (
            k_steps
            rename Fr _ _ _ _ => F9
            exact LCg.CompEnd.intro F9 N9 _ (by walk_at "MINE sub") off8 (.inr ⟨_, by k_mem, rfl, _, rfl⟩) ⟨rfl, hfin⟩))
end lawwalk
end Mine
set_option maxRecDepth 100000 in
set_option maxHeartbeats 8000000 in
theorem PySem.Challenge.cw_on0120_01_holds : PySem.Challenge.rw_on0120_01.Holds :=
  Mine.law_walks
