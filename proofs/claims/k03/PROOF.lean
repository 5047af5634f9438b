import PyProof.Rows.All
import Wide.All
import OpenK.AllK
import Wide.FinOn
import HandS.ForMost
import HandS.ForExc
import HandS.Evl
import HandS.IsInst
import HandS.TryMany
import HandS.Style
import HandS.Conv
import HandS.FStr
import HandS.EndBits
import PySem.Challenge.RW_loanplan_k03_far_stretches
set_option Elab.async false
set_option linter.all false
set_option maxRecDepth 100000
set_option maxHeartbeats 4000000
/-! ### short words -/
namespace L2
open PySem PySem.Spec PyProof.Rows
section
variable {X : Cx}
/-- * of ints of any size that the machine takes -/
theorem op_mulX : OpR X (binaryOp .Mult) (rI IntMulOk fun i j => .int (i * j)) := opI fun _ _ _ _ _ _ _ hc q => mul_int q hc
end
/-- a def of the text with its promise, as its callers see it -/
structure Df (P : Program) (w : World) (K : PySem.W.Frag) (mg : Str → Option Value) (base : Heap) (CX : CXT) (k : Nat) (x : Str) (ps : List Str) (sp : Sp) where
  f : Addr
  fd : FuncData
  G : FnOk P w K mg base CX k f fd ps sp
  m : mg x = some (.ref f)
  kp : PySem.W.keepIn K (.ref f) = true
  b : Binds K fd ps []
/-- a method of the class at C -/
structure Dm (P : Program) (w : World) (K : PySem.W.Frag) (mg : Str → Option Value) (base : Heap) (CX : CXT) (k : Nat) (C : Addr) (x : Str) (ps : List Str) (sp : Sp) where
  f : Addr
  fd : FuncData
  G : FnOk P w K mg base CX k f fd ps sp
  me : Meth K C x f
  b : Binds K fd ps []
/-- the class's __init__ -/
structure Di (P : Program) (w : World) (K : PySem.W.Frag) (mg : Str → Option Value) (base : Heap) (CX : CXT) (k : Nat) (C : Addr) (x : Str) (ps : List Str) (sp : Sp) where
  f : Addr
  fd : FuncData
  G : FnOk P w K mg base CX k f fd ps sp
  mC : Mk K C f
  g : mg x = some (.ref C)
  b : Binds K fd ps []
section
variable {X : Cx} {k j : Nat} {x m : Str} {ps : List Str} {sp : Sp} {e o : Expr} {es : List Expr} {t : TA} {ta : TE} {p pos apos : Pos} {C : Addr}
/-- a call of a def that lets nothing out -/
theorem pc0 (D : Df X.prog X.w X.K X.mg X.base CX0 k x ps sp) (hr : Room j X.A) (ha : PA X (e :: es) t) (hle : k ≤ j := by decide) (hg : Gl X x := by rfl) (hdb : (x == ("__debug__" : Str)) = false := by decide) (he : starEach (e :: es) X.env = (false, eval e X.env) :: starEach es X.env := by rfl) (hpl : (backTo pos (starEach es X.env)).any (·.1) = false := by rfl) :
    PE X (.Call (.Name x p) (e :: es) [] pos) (tCall sp [] E0 t) := pe_call D.G (hr.mono hle) hg D.m D.kp D.b .nil pass0 ha hdb he hpl
/-- a call of a def that may raise, where nothing may be let out -/
theorem pcL (D : Df X.prog X.w X.K X.mg X.base (L2.CX X.prog X.w) k x ps sp) (hr : Room j X.A) (ha : PA X (e :: es) t) (hle : k ≤ j := by decide) (hg : Gl X x := by rfl) (hdb : (x == ("__debug__" : Str)) = false := by decide) (he : starEach (e :: es) X.env = (false, eval e X.env) :: starEach es X.env := by rfl) (hpl : (backTo pos (starEach es X.env)).any (·.1) = false := by rfl) :
    PE X (.Call (.Name x p) (e :: es) [] pos) (tCall sp [] E0 t) := pe_call D.G (hr.mono hle) hg D.m D.kp D.b .nil passL ha hdb he hpl
end
section
variable {X : Cx} {x : Str} {pos : Pos}
theorem pe_gint {i : Int} (hm : ∃ t, X.mg x = some (.int i t)) (hg : Gl X x := by rfl) (hd : (x == ("__debug__" : Str)) = false := by decide) : PE X (.Name x pos) (tC (.int i)) := by
  obtain ⟨t, hm⟩ := hm
  exact pe_glob hg hm ⟨t, rfl⟩ hd
theorem pe_gstr {z : Str} (hm : ∃ t, X.mg x = some (.str z t)) (hg : Gl X x := by rfl) (hd : (x == ("__debug__" : Str)) = false := by decide) : PE X (.Name x pos) (tC (.str z)) := by
  obtain ⟨t, hm⟩ := hm
  exact pe_glob hg hm ⟨t, rfl⟩ hd
end
/-- what the top says of an own exception class -/
structure ExC (K : PySem.W.Frag) (C : Addr) : Prop where
  x : PySem.W.excIn K C [.type "ValueError", .type "Exception", .type "BaseException", .type "object"] "ValueError.__new__" = true
  k : PySem.W.keepIn K (.ref C) = true
  s : PySem.W.subIn K (.ref C) (.type "BaseException") = some true
  t : PySem.W.typeIn K (.ref C) = some (.type "type")
theorem md {j : Int} (h : 0 < j := by decide) : 0 < j := h
theorem dv {i j : Int} (h : 0 < j := by decide) (h2 : j < 1073741824 := by decide) : CDiv i j := ⟨h, h2⟩
theorem mulR {i j : Int} (h : Builtin.Int.intBits j ≤ 64 := by decide) : IntMulOk i j := IntMulOk.of_right h
theorem mulL {i j : Int} (h : Builtin.Int.intBits i ≤ 64 := by decide) : IntMulOk i j := IntMulOk.of_left h
/-! ### ifs -/
theorem ifd {c A B : Prop} [Decidable c] (h1 : c → A) (h2 : ¬ c → B) : if decide c = true then A else B := by
  by_cases h : c
  · rw [if_pos (decide_eq_true h)]
    exact h1 h
  · rw [if_neg (by rw [decide_eq_false h]; exact Bool.false_ne_true)]
    exact h2 h
theorem ifdn {c A B : Prop} [Decidable c] (h1 : ¬ c → A) (h2 : c → B) : if (!decide c) = true then A else B := by
  by_cases h : c
  · rw [if_neg (by rw [decide_eq_true h]; decide)]
    exact h2 h
  · rw [if_pos (by rw [decide_eq_false h]; rfl)]
    exact h1 h
theorem if_eq {i j : Int} {A B : Prop} (h1 : i = j → A) (h2 : i ≠ j → B) : if decide (V.int i = V.int j) = true then A else B := ifd (fun h => h1 (V.int.inj h)) (fun h => h2 fun e => h (by rw [e]))
theorem if_ne {i j : Int} {A B : Prop} (h1 : i ≠ j → A) (h2 : i = j → B) : if (!decide (V.int i = V.int j)) = true then A else B := ifdn (fun h => h1 fun e => h (by rw [e])) (fun h => h2 (V.int.inj h))
theorem ifb {b : Bool} {A B : Prop} (h1 : b = true → A) (h2 : b = false → B) : if b = true then A else B := by
  cases b with
  | true => rw [if_pos rfl]; exact h1 rfl
  | false => rw [if_neg Bool.false_ne_true]; exact h2 rfl
theorem ifnT {A B : Prop} (h : B) : if (!true) = true then A else B := h
theorem ifnF {A B : Prop} (h : A) : if (!false) = true then A else B := h
theorem decT {c : Prop} [Decidable c] (h : c) : decide c = true := decide_eq_true h
theorem eqInt {i j : Int} (h : i = j) : decide (V.int i = V.int j) = true := decide_eq_true (by rw [h])
/-! ### heaps -/
theorem Same.upd {H H' : Hp} (e : Same H H') {p : Addr} {o : HO} (h : H' p = none) : Same H (L2.upd H' p o) := fun b u q => by
  rw [upd_ne (ne_of_none (e b u q) h)]
  exact e b u q
theorem Same.new {H : Hp} {p : Addr} {o : HO} (h : H p = none) : Same H (L2.upd H p o) := Same.upd (Same.refl H) h
/-- an object that H does not know may change -/
theorem Same.mut {H H' : Hp} (e : Same H H') {p : Addr} {o : HO} (h : H p = none) : Same H (L2.upd H' p o) := fun b u q => by
  rw [upd_ne (ne_of_none q h)]
  exact e b u q
theorem Same.seqT {K : PySem.W.Frag} {H H' : Hp} {a : Addr} {xs : List V} (e : Same H H') (h : SqT K H a xs) : SqT K H' a xs := by
  rcases h with (h | ⟨o, h⟩) | h
  · exact .inl (.inl (e _ _ h))
  · exact .inl (.inr ⟨o, e _ _ h⟩)
  · exact .inr h
theorem pow62 {i : Int} (h0 : 0 ≤ i) (h1 : i ≤ 1000000) : -(2 ^ 62) ≤ i ∧ i < 2 ^ 62 := ⟨by omega, by omega⟩
theorem sz_small {n : Nat} (h : n ≤ 100000) : n ≤ sizeLine := Nat.le_trans h (by decide)
theorem szl {xs : List V} (n : Nat) (h : xs.length = n := by rfl) (h2 : n ≤ 100000 := by decide) : xs.length ≤ sizeLine := by rw [h]; exact sz_small h2
theorem sz_lt {n : Nat} (h : n < 100000) : n < sizeLine := Nat.lt_of_lt_of_le h (by decide)
theorem at0 {xs : List V} {v : V} (h : xs[0]? = some v) : atI xs 0 = some v := atI_nat (j := 0) h
theorem at_m {α : Type} {f : α → V} {l : List α} {z : Int} {j : Nat} {a : α} (e : z = (j : Int)) (h : l[j]? = some a) : atI (l.map f) z = some (f a) := at_of e (by rw [List.getElem?_map, h]; rfl)
theorem map_get {α : Type} {f : α → V} {l : List α} {j : Nat} {v : V} (h : (l.map f)[j]? = some v) : ∃ a, l[j]? = some a ∧ v = f a := by
  rw [List.getElem?_map] at h
  cases e : l[j]? with
  | none => rw [e] at h; cases h
  | some a => rw [e] at h; exact ⟨a, rfl, (Option.some.inj h).symm⟩
end L2

local macro_rules | `(tactic| walk_at "rd1") => `(tactic| first
  | refine ⟨_, rfl, ?_⟩
  | refine ⟨_, _, rfl, rfl, ?_⟩
  | refine ⟨L2.dv, ?_⟩
  | refine ⟨L2.md, ?_⟩
  | refine ⟨L2.mulL, ?_⟩
  | refine ⟨L2.mulR, ?_⟩
  | refine ⟨rfl, ?_⟩
  | refine ⟨_, _, _, rfl, by assumption, by decide, ?_⟩
  | refine ⟨_, _, rfl, ?_⟩)
local macro_rules | `(tactic| walk_at "rd") => `(tactic| repeat (walk_at "rd1"))
/-! ### the mathematics: what the program and the laws reckon, as plain functions -/
namespace Toy
/-- a cell of the script -/
def cellAt (ns : List Int) (k : Int) : Int := ns.getD k.toNat 0
def mixed (c m : Int) : Int := (c * 48271 + 12345) % 2147483647 % m
theorem mixed_ge {c m : Int} (h : 0 < m) : 0 ≤ mixed c m := Int.emod_nonneg _ (by omega)
theorem mixed_lt {c m : Int} (h : 0 < m) : mixed c m < m := Int.emod_lt_of_pos _ h
def rateBy (c : Int) : Int := if c % 5 = 0 then ([0, 1, 99999, 100000] : List Int).getD (c / 5 % 4).toNat 0 else if c % 5 = 1 then c / 5 % 400 else mixed c 100001
theorem rateBy_ok (c : Int) : 0 ≤ rateBy c ∧ rateBy c ≤ 100000 := by
  unfold rateBy
  split
  · have h0 : 0 ≤ c / 5 % 4 := by omega
    have h1 : c / 5 % 4 < 4 := by omega
    obtain ⟨j, ej⟩ : ∃ j : Nat, c / 5 % 4 = (j : Int) := ⟨(c / 5 % 4).toNat, by omega⟩
    rw [ej]
    have hj : j < 4 := by omega
    match j, hj with
    | 0, _ => decide
    | 1, _ => decide
    | 2, _ => decide
    | 3, _ => decide
  · split
    · omega
    · have h1 := mixed_ge (c := c) (m := 100001) (by decide)
      have h2 := mixed_lt (c := c) (m := 100001) (by decide)
      omega
abbrev Pr := Int × Int
/-- the last pair's day -/
def lastDay (ps : List Pr) : Int := (ps.getLastD (0, 0)).1
def rowUp (c wide : Int) : Nat → List Pr
  | 0 => [(0, rateBy c)]
  | n + 1 => rowUp c wide n ++ [(lastDay (rowUp c wide n) + 1 + mixed (c + 13 * ((n : Int) + 1)) wide, rateBy (c / 7 + 31 * ((n : Int) + 1)))]
def rowBy (c many wide : Int) : List Pr := rowUp c wide (many - 1).toNat
theorem rowUp_len (c wide : Int) : ∀ n, (rowUp c wide n).length = n + 1
  | 0 => rfl
  | n + 1 => by
    show (rowUp c wide n ++ [_]).length = _
    rw [List.length_append, rowUp_len c wide n]
    rfl
/-- the days go up, behind d -/
def Up : Int → List Pr → Prop
  | _, [] => True
  | d, p :: r => d < p.1 ∧ Up p.1 r
theorem Up.snoc : ∀ {d : Int} {ps : List Pr} {p : Pr}, Up d ps → (ps.getLastD (d, 0)).1 < p.1 → Up d (ps ++ [p])
  | d, [], p, _, h => ⟨h, trivial⟩
  | d, q :: r, p, h, h2 => by
    refine ⟨h.1, Up.snoc (d := q.1) (ps := r) h.2 ?_⟩
    cases r with
    | nil => exact h2
    | cons a b => exact h2
/-- a good row of rates -/
structure Good (ps : List Pr) : Prop where
  ne : ∃ r rest, ps = (0, r) :: rest
  up : Up (-1) ps
  rate : ∀ p ∈ ps, 0 ≤ p.2 ∧ p.2 ≤ 100000
theorem getLastD_append {α : Type} (l : List α) (a d : α) : (l ++ [a]).getLastD d = a := by
  rw [List.getLastD_eq_getLast?, List.getLast?_append]
  rfl
theorem lastDay_ge {ps : List Pr} (g : Good ps) : 0 ≤ lastDay ps := by
  obtain ⟨r, rest, rfl⟩ := g.ne
  have h2 : Up 0 rest := g.up.2
  clear g
  have go : ∀ (l : List Pr) (q : Pr), 0 ≤ q.1 → Up q.1 l → 0 ≤ ((q :: l).getLastD (0, 0)).1 := by
    intro l
    induction l with
    | nil => intro q h _; exact h
    | cons a b ih => intro q h u; exact ih a (by have := u.1; omega) u.2
  exact go rest (0, r) (by show (0 : Int) ≤ 0; decide) h2
theorem getLastD_ne {α : Type} : ∀ {l : List α} (_ : l ≠ []) (a b : α), l.getLastD a = l.getLastD b
  | [], h, _, _ => absurd rfl h
  | _ :: _, _, _, _ => rfl
theorem Good.snoc {ps : List Pr} {p : Pr} (g : Good ps) (h : lastDay ps < p.1) (h0 : 0 ≤ p.2) (h1 : p.2 ≤ 100000) : Good (ps ++ [p]) := by
  refine ⟨?_, g.up.snoc ?_, ?_⟩
  · obtain ⟨r, rest, rfl⟩ := g.ne
    exact ⟨r, rest ++ [p], rfl⟩
  · obtain ⟨r, rest, e⟩ := g.ne
    rw [getLastD_ne (by rw [e]; simp) _ (0, 0)]
    exact h
  · intro q hq
    rcases List.mem_append.mp hq with e | e
    · exact g.rate q e
    · have e2 : q = p := by simpa using e
      rw [e2]
      exact ⟨h0, h1⟩
theorem rowUp_good {c wide : Int} (hw : 0 < wide) : ∀ n, Good (rowUp c wide n) ∧ lastDay (rowUp c wide n) ≤ n * wide
  | 0 => ⟨⟨⟨_, _, rfl⟩, ⟨by show (-1 : Int) < 0; decide, trivial⟩, fun p hp => by
      have e : p = (0, rateBy c) := by simpa [rowUp] using hp
      rw [e]
      exact rateBy_ok c⟩, by show (0 : Int) ≤ _; simp⟩
  | n + 1 => by
    obtain ⟨g, l⟩ := rowUp_good (c := c) hw n
    have h1 := mixed_ge (c := c + 13 * ((n : Int) + 1)) hw
    have h2 := mixed_lt (c := c + 13 * ((n : Int) + 1)) hw
    have h3 := rateBy_ok (c / 7 + 31 * ((n : Int) + 1))
    refine ⟨g.snoc (by show lastDay _ < lastDay _ + 1 + _; omega) h3.1 h3.2, ?_⟩
    unfold lastDay at l ⊢
    show ((rowUp c wide n ++ [_]).getLastD (0, 0)).1 ≤ _
    rw [getLastD_append]
    show lastDay _ + 1 + _ ≤ _
    have e : ((n + 1 : Nat) : Int) * wide = n * wide + wide := by
      rw [Int.natCast_add, Int.add_mul]
      simp
    rw [e]
    unfold lastDay
    omega
/-- the rate of a day -/
def rateOn (ps : List Pr) (d : Int) : Int := ps.foldl (fun f p => if p.1 ≤ d then p.2 else f) 0
end Toy
namespace Toy
theorem rateOn_at {A B : List Pr} {p : Pr} {d : Int} (h : p.1 ≤ d) (hB : ∀ q ∈ B, d < q.1) : rateOn (A ++ p :: B) d = p.2 := by
  unfold rateOn
  rw [List.foldl_append, List.foldl_cons, if_pos h]
  generalize p.2 = x
  clear h
  induction B with
  | nil => rfl
  | cons q B ih =>
    rw [List.foldl_cons, if_neg (by have := hB q (by simp); omega)]
    exact ih fun u hu => hB u (by simp [hu])
/-- by the place in the row -/
theorem rateOn_place {ps : List Pr} {j : Nat} {p : Pr} {d : Int} (hj : ps[j]? = some p) (h : p.1 ≤ d) (hB : ∀ (i : Nat) q, j < i → ps[i]? = some q → d < q.1) : rateOn ps d = p.2 := by
  have hl := (List.getElem?_eq_some_iff.mp hj).1
  have e : ps = ps.take j ++ p :: ps.drop (j + 1) := by
    have h2 : ps[j] = p := (List.getElem?_eq_some_iff.mp hj).2
    rw [← h2, List.getElem_cons_drop, List.take_append_drop]
  rw [e]
  refine rateOn_at h fun q hq => ?_
  obtain ⟨i, hi⟩ := List.mem_iff_getElem?.mp hq
  rw [List.getElem?_drop] at hi
  exact hB (j + 1 + i) q (by omega) hi
theorem rowBy_len {c many wide : Int} (h : 1 ≤ many) : (rowBy c many wide).length = many.toNat := by
  unfold rowBy
  rw [rowUp_len]
  omega
theorem rowBy_good {c many wide : Int} (hw : 0 < wide) : Good (rowBy c many wide) := (rowUp_good hw _).1
theorem rowBy_last {c many wide : Int} (hw : 0 < wide) (h : 1 ≤ many) : lastDay (rowBy c many wide) ≤ (many - 1) * wide := by
  have := (rowUp_good (c := c) hw (many - 1).toNat).2
  have e : (((many - 1).toNat : Nat) : Int) = many - 1 := by omega
  rw [e] at this
  exact this
theorem Good.first {ps : List Pr} (g : Good ps) : ∃ r, ps[0]? = some (0, r) := by
  obtain ⟨r, rest, e⟩ := g.ne
  exact ⟨r, by rw [e]; rfl⟩
theorem get_of {α : Type} {l : List α} {j : Nat} (h : j < l.length) : ∃ a, l[j]? = some a := ⟨l[j], List.getElem?_eq_getElem h⟩
end Toy
/-! ### rows of rates in the heap -/
namespace Toy
open PySem L2
/-- a pair's address, its day, its rate -/
abbrev Trp := Addr × Int × Int
def rowV (ts : List Trp) : List V := ts.map fun t => V.ref t.1
def vals (ts : List Trp) : List Pr := ts.map fun t => t.2
def tupV (p : Pr) : HO := .tup [.int p.1, .int p.2]
def Prs (H : Hp) (ts : List Trp) : Prop := ∀ t ∈ ts, H t.1 = some (tupV t.2)
structure Row (H : Hp) (l : Addr) (ts : List Trp) : Prop where
  lst : H l = some (.lst (rowV ts))
  prs : Prs H ts
theorem rowV_len (ts : List Trp) : (rowV ts).length = ts.length := by unfold rowV; rw [List.length_map]
theorem vals_len (ts : List Trp) : (vals ts).length = ts.length := by unfold vals; rw [List.length_map]
theorem rowV_append (a b : List Trp) : rowV (a ++ b) = rowV a ++ rowV b := by unfold rowV; rw [List.map_append]
theorem vals_append (a b : List Trp) : vals (a ++ b) = vals a ++ vals b := by unfold vals; rw [List.map_append]
theorem Prs.same {H H' : Hp} {ts : List Trp} (h : Prs H ts) (e : Same H H') : Prs H' ts := fun t ht => e _ _ (h t ht)
/-- a list may change, the pairs stay -/
theorem Prs.lst {H : Hp} {ts : List Trp} {l : Addr} {xs ys : List V} (h : Prs H ts) (hl : H l = some (.lst xs)) : Prs (L2.upd H l (.lst ys)) ts := fun t ht => by
  have q := h t ht
  rw [L2.upd_ne (ne_of q hl (by intro z; cases z))]
  exact q
theorem Row.same {H H' : Hp} {l : Addr} {ts : List Trp} (R : Row H l ts) (e : Same H H') : Row H' l ts := ⟨e _ _ R.lst, R.prs.same e⟩
theorem Row.seq {K : PySem.W.Frag} {H : Hp} {l : Addr} {ts : List Trp} (R : Row H l ts) : SqL K H l (rowV ts) := SqL.of R.lst
theorem Row.get {H : Hp} {l : Addr} {ts : List Trp} (R : Row H l ts) {j : Nat} {p : Pr} (h : (vals ts)[j]? = some p) : ∃ a, (rowV ts)[j]? = some (.ref a) ∧ H a = some (tupV p) ∧ (a, p) ∈ ts := by
  unfold vals at h
  rw [List.getElem?_map] at h
  cases e : ts[j]? with
  | none => rw [e] at h; cases h
  | some t =>
    rw [e] at h
    obtain rfl : t.2 = p := Option.some.inj h
    have m := List.mem_of_getElem? e
    exact ⟨t.1, by unfold rowV; rw [List.getElem?_map, e]; rfl, R.prs t m, m⟩
theorem Row.getV {H : Hp} {l : Addr} {ts : List Trp} (R : Row H l ts) {j : Nat} {v : V} (h : (rowV ts)[j]? = some v) : ∃ a p, v = .ref a ∧ (vals ts)[j]? = some p ∧ H a = some (tupV p) := by
  obtain ⟨t, e, rfl⟩ := map_get h
  exact ⟨t.1, t.2, rfl, by unfold vals; rw [List.getElem?_map, e]; rfl, R.prs t (List.mem_of_getElem? e)⟩
theorem Row.at {H : Hp} {l : Addr} {ts : List Trp} (R : Row H l ts) {z : Int} {j : Nat} {p : Pr} (e : z = (j : Int)) (h : (vals ts)[j]? = some p) : ∃ a, atI (rowV ts) z = some (.ref a) ∧ H a = some (tupV p) := by
  obtain ⟨a, h1, h2, _⟩ := R.get h
  exact ⟨a, at_of e h1, h2⟩
theorem snoc_of {α : Type} : ∀ {l : List α}, l ≠ [] → ∃ r a, l = r ++ [a]
  | [], h => absurd rfl h
  | [a], _ => ⟨[], a, rfl⟩
  | a :: b :: l, _ => by
    obtain ⟨r, c, e⟩ := snoc_of (l := b :: l) (by simp)
    exact ⟨a :: r, c, by rw [e]; rfl⟩
theorem Row.last {H : Hp} {l : Addr} {ts : List Trp} (R : Row H l ts) (h : ts ≠ []) : ∃ a r, atI (rowV ts) (-1) = some (.ref a) ∧ H a = some (tupV (lastDay (vals ts), r)) ∧ (vals ts).getLast? = some (lastDay (vals ts), r) := by
  obtain ⟨q, t, rfl⟩ := snoc_of h
  have e : lastDay (vals (q ++ [t])) = t.2.1 := by
    unfold lastDay
    rw [vals_append]
    exact congrArg Prod.fst (getLastD_append _ _ _)
  refine ⟨t.1, t.2.2, ?_, ?_, ?_⟩
  · rw [rowV_append]
    exact atI_last _ _
  · rw [e]
    exact R.prs t (by simp)
  · rw [e, vals_append, List.getLast?_append]
    rfl
theorem Row.snoc {H : Hp} {l p : Addr} {ts : List Trp} (R : Row H l ts) (d r : Int) (hp : H p = some (tupV (d, r))) : Row (L2.upd H l (.lst (rowV ts ++ [.ref p]))) l (ts ++ [(p, d, r)]) := by
  refine ⟨by rw [rowV_append]; exact upd_same, ?_⟩
  have q : Prs H (ts ++ [(p, d, r)]) := fun t ht => by
    rcases List.mem_append.mp ht with e | e
    · exact R.prs t e
    · obtain rfl : t = (p, d, r) := by simpa using e
      exact hp
  exact q.lst R.lst
theorem vals_ne {ts : List Trp} (h : vals ts ≠ []) : ts ≠ [] := fun e => h (by rw [e]; rfl)
theorem good_ne {ts : List Trp} (g : Good (vals ts)) : ts ≠ [] := by
  obtain ⟨r, rest, e⟩ := g.ne
  exact vals_ne (by rw [e]; simp)
/-- the data of a row -/
def prD (p : Pr) : PyData := .tuple [.int p.1, .int p.2]
def rowD (ps : List Pr) : PyData := .list (ps.map prD)
theorem prs_dp {K : PySem.W.Frag} {H : Hp} : ∀ {ts : List Trp}, Prs H ts → DpAll K H (rowV ts) ((vals ts).map prD)
  | [], _ => .nil
  | t :: r, h => .cons (.tup (SqT.of (h t (by simp))) (.cons (.int _) (.cons (.int _) .nil))) (prs_dp fun u hu => h u (by simp [hu]))
theorem Row.dp {K : PySem.W.Frag} {H : Hp} {l : Addr} {ts : List Trp} (R : Row H l ts) : Dp K H (.ref l) (rowD (vals ts)) := .lst R.seq (prs_dp R.prs)
theorem can_all {α : Type} {f : α → PyData} (h : ∀ a, (f a).canLay0 = true) : ∀ l : List α, PyData.canLayAll0 (l.map f) = true
  | [] => by simp only [List.map_nil, PyData.canLayAll0]
  | a :: l => by simp only [List.map_cons, PyData.canLayAll0, h a, can_all h l, Bool.and_self]
theorem dep_all {α : Type} {f : α → PyData} {n : Nat} (h : ∀ a, (f a).depth ≤ n) : ∀ l : List α, PyData.depthAll (l.map f) ≤ n
  | [] => by simp only [List.map_nil, PyData.depthAll, Nat.zero_le]
  | a :: l => by
    have h1 := h a
    have h2 := dep_all h l
    simp only [List.map_cons, PyData.depthAll]
    omega
theorem shaped_of {d : PyData} (h1 : d.canLay0 = true) (h2 : d.depth ≤ 64) : SeqAt.shaped d = true := by
  unfold SeqAt.shaped
  rw [h1, decide_eq_true h2]
  rfl
/-- a tuple of ints, a list of ints -/
def tupD (l : List Int) : PyData := .tuple (l.map .int)
def intsD (l : List Int) : PyData := .list (l.map .int)
theorem int_can (i : Int) : (PyData.int i).canLay0 = true := by simp only [PyData.canLay0]
theorem int_dep (i : Int) : (PyData.int i).depth ≤ 0 := by simp only [PyData.depth, Nat.le_refl]
theorem tupD_can (l : List Int) : (tupD l).canLay0 = true := by
  unfold tupD
  simp only [PyData.canLay0]
  exact can_all int_can l
theorem tupD_dep (l : List Int) : (tupD l).depth ≤ 1 := by
  unfold tupD
  simp only [PyData.depth]
  have := dep_all int_dep l
  omega
theorem intsD_can (l : List Int) : (intsD l).canLay0 = true := by
  unfold intsD
  simp only [PyData.canLay0]
  exact can_all int_can l
theorem intsD_dep (l : List Int) : (intsD l).depth ≤ 1 := by
  unfold intsD
  simp only [PyData.depth]
  have := dep_all int_dep l
  omega
theorem tupD_shaped (l : List Int) : SeqAt.shaped (tupD l) = true := shaped_of (tupD_can l) (Nat.le_trans (tupD_dep l) (by decide))
theorem intsD_shaped (l : List Int) : SeqAt.shaped (intsD l) = true := shaped_of (intsD_can l) (Nat.le_trans (intsD_dep l) (by decide))
theorem prD_eq (p : Pr) : prD p = tupD [p.1, p.2] := rfl
theorem rowD_can (ps : List Pr) : (rowD ps).canLay0 = true := by
  unfold rowD
  simp only [PyData.canLay0]
  exact can_all (fun p => tupD_can [p.1, p.2]) ps
theorem rowD_dep (ps : List Pr) : (rowD ps).depth ≤ 2 := by
  unfold rowD
  simp only [PyData.depth]
  have := dep_all (f := prD) (n := 1) (fun p => tupD_dep [p.1, p.2]) ps
  omega
theorem rowD_shaped (ps : List Pr) : SeqAt.shaped (rowD ps) = true := shaped_of (rowD_can ps) (Nat.le_trans (rowD_dep ps) (by decide))
theorem rowD_eqv (ps : List Pr) : PyData.eqv (rowD ps) (rowD ps) = true := SeqAt.eqv_refl _ (rowD_can ps)
theorem tupD_eqv (l : List Int) : PyData.eqv (tupD l) (tupD l) = true := SeqAt.eqv_refl _ (tupD_can l)
theorem intsD_eqv (l : List Int) : PyData.eqv (intsD l) (intsD l) = true := SeqAt.eqv_refl _ (intsD_can l)
theorem ints_dpAll {K : PySem.W.Frag} {H : Hp} : ∀ l : List Int, DpAll K H (l.map V.int) (l.map PyData.int)
  | [] => .nil
  | i :: l => .cons (.int i) (ints_dpAll l)
theorem tup_dp {K : PySem.W.Frag} {H : Hp} {a : Addr} {l : List Int} (h : SqT K H a (l.map V.int)) : Dp K H (.ref a) (tupD l) := .tup h (ints_dpAll l)
theorem ints_dp {K : PySem.W.Frag} {H : Hp} {a : Addr} {l : List Int} (h : SqL K H a (l.map V.int)) : Dp K H (.ref a) (intsD l) := .lst h (ints_dpAll l)
/-- two rows that say the same -/
theorem row_eq {K : PySem.W.Frag} {H : Hp} {a b : Addr} {ts us : List Trp} {Q : V → Hp → Prop} (R : Row H a ts) (S : Row H b us) (e : vals ts = vals us) (q : Q (.bl true) H) : rEqD K (.ref a) (.ref b) H Q :=
  ⟨_, _, R.dp, S.dp, rowD_shaped _, rowD_shaped _, by rw [e, rowD_eqv]; exact q⟩
theorem row_ne {K : PySem.W.Frag} {H : Hp} {a b : Addr} {ts us : List Trp} {Q : V → Hp → Prop} (R : Row H a ts) (S : Row H b us) (e : vals ts = vals us) (q : Q (.bl false) H) : rNeD K (.ref a) (.ref b) H Q :=
  ⟨_, _, R.dp, S.dp, rowD_shaped _, rowD_shaped _, by rw [e, rowD_eqv]; exact q⟩
theorem tups_eq {K : PySem.W.Frag} {H : Hp} {a b : Addr} {l : List Int} {Q : V → Hp → Prop} (h1 : SqT K H a (l.map V.int)) (h2 : SqT K H b (l.map V.int)) (q : Q (.bl true) H) : rEqD K (.ref a) (.ref b) H Q :=
  ⟨_, _, tup_dp h1, tup_dp h2, tupD_shaped _, tupD_shaped _, by rw [tupD_eqv]; exact q⟩
theorem tups_ne {K : PySem.W.Frag} {H : Hp} {a b : Addr} {l : List Int} {Q : V → Hp → Prop} (h1 : SqT K H a (l.map V.int)) (h2 : SqT K H b (l.map V.int)) (q : Q (.bl false) H) : rNeD K (.ref a) (.ref b) H Q :=
  ⟨_, _, tup_dp h1, tup_dp h2, tupD_shaped _, tupD_shaped _, by rw [tupD_eqv]; exact q⟩
theorem ints_eq {K : PySem.W.Frag} {H : Hp} {a b : Addr} {l : List Int} {Q : V → Hp → Prop} (h1 : SqL K H a (l.map V.int)) (h2 : SqL K H b (l.map V.int)) (q : Q (.bl true) H) : rEqD K (.ref a) (.ref b) H Q :=
  ⟨_, _, ints_dp h1, ints_dp h2, intsD_shaped _, intsD_shaped _, by rw [intsD_eqv]; exact q⟩
theorem ints_ne {K : PySem.W.Frag} {H : Hp} {a b : Addr} {l : List Int} {Q : V → Hp → Prop} (h1 : SqL K H a (l.map V.int)) (h2 : SqL K H b (l.map V.int)) (q : Q (.bl false) H) : rNeD K (.ref a) (.ref b) H Q :=
  ⟨_, _, ints_dp h1, ints_dp h2, intsD_shaped _, intsD_shaped _, by rw [intsD_eqv]; exact q⟩
end Toy
/-! ### sums over days -/
namespace Toy
def daySum (f : Int → Int) (s : Int) : Nat → Int
  | 0 => 0
  | n + 1 => daySum f s n + f (s + n + 1)
theorem daySum_congr {f g : Int → Int} {s : Int} : ∀ {n : Nat}, (∀ d, s < d → d ≤ s + n → f d = g d) → daySum f s n = daySum g s n
  | 0, _ => rfl
  | n + 1, h => by
    show daySum f s n + f (s + n + 1) = daySum g s n + g (s + n + 1)
    rw [daySum_congr (n := n) fun d h1 h2 => h d h1 (by omega), h (s + n + 1) (by omega) (by omega)]
theorem daySum_const {f : Int → Int} {s c : Int} : ∀ {n : Nat}, (∀ d, s < d → d ≤ s + n → f d = c) → daySum f s n = n * c
  | 0, _ => by simp [daySum]
  | n + 1, h => by
    show daySum f s n + f (s + n + 1) = _
    rw [daySum_const (n := n) fun d h1 h2 => h d h1 (by omega), h (s + n + 1) (by omega) (by omega), Int.natCast_add, Int.add_mul]
    simp
theorem daySum_add {f : Int → Int} {s : Int} (m : Nat) : ∀ n : Nat, daySum f s (m + n) = daySum f s m + daySum f (s + m) n
  | 0 => by simp [daySum]
  | n + 1 => by
    show daySum f s (m + n) + f (s + (m + n : Nat) + 1) = daySum f s m + (daySum f (s + m) n + f (s + m + n + 1))
    rw [daySum_add m n, Int.natCast_add, ← Int.add_assoc s m n]
    omega
/-- what a stretch of days brings -/
def gsum (ps : List Pr) (s e : Int) : Int := daySum (rateOn ps) s (e - s).toNat
theorem gsum_self (ps : List Pr) (s : Int) : gsum ps s s = 0 := by
  unfold gsum
  rw [Int.sub_self]
  rfl
theorem gsum_split {ps : List Pr} {s m e : Int} (h1 : s ≤ m) (h2 : m ≤ e) : gsum ps s e = gsum ps s m + gsum ps m e := by
  unfold gsum
  have e1 : (e - s).toNat = (m - s).toNat + (e - m).toNat := by omega
  have e2 : s + ((m - s).toNat : Int) = m := by omega
  rw [e1, daySum_add, e2]
theorem gsum_const {ps : List Pr} {s e c : Int} (h : s ≤ e) (hc : ∀ d, s < d → d ≤ e → rateOn ps d = c) : gsum ps s e = (e - s) * c := by
  unfold gsum
  have e1 : ((e - s).toNat : Int) = e - s := by omega
  rw [daySum_const (c := c) fun d h1 h2 => hc d h1 (by omega), e1]
theorem gsum_one {ps : List Pr} {s : Int} : gsum ps s (s + 1) = rateOn ps (s + 1) := by
  rw [gsum_const (c := rateOn ps (s + 1)) (by omega) fun d h1 h2 => by rw [show d = s + 1 by omega]]
  rw [show s + 1 - s = 1 by omega, Int.one_mul]
theorem Up.mem : ∀ {d : Int} {ps : List Pr}, Up d ps → ∀ q ∈ ps, d < q.1
  | _, [], _, q, hq => by cases hq
  | d, p :: r, h, q, hq => by
    rcases List.mem_cons.mp hq with e | e
    · rw [e]; exact h.1
    · have := Up.mem h.2 q e
      have := h.1
      omega
theorem Up.drop : ∀ {d : Int} {A B : List Pr} {p : Pr}, Up d (A ++ p :: B) → Up p.1 B
  | _, [], _, _, h => h.2
  | _, a :: A, _, _, h => Up.drop (A := A) h.2
/-- one turn of grown: behind the start s; what is summed, where it stops -/
def gStep (s : Int) (acc : Int × Int) (p : Pr) : Int × Int :=
  if (if p.1 - 1 > s then p.1 - 1 else s) < acc.2 then (acc.1 + (acc.2 - (if p.1 - 1 > s then p.1 - 1 else s)) * p.2, if p.1 - 1 > s then p.1 - 1 else s) else acc
def grown (ps : List Pr) (s e : Int) : Int := (ps.reverse.foldl (gStep s) (0, e)).1
theorem grown_go {ps : List Pr} {s e : Int} (hse : s ≤ e) (u : Up (-1) ps) : ∀ (B A : List Pr), ps = A ++ B →
    s ≤ (B.foldr (fun p acc => gStep s acc p) (0, e)).2 ∧ (B.foldr (fun p acc => gStep s acc p) (0, e)).2 ≤ e ∧
    (B.foldr (fun p acc => gStep s acc p) (0, e)).1 = gsum ps (B.foldr (fun p acc => gStep s acc p) (0, e)).2 e ∧
    ((B.foldr (fun p acc => gStep s acc p) (0, e)).2 = s ∨ ∀ q ∈ B, (B.foldr (fun p acc => gStep s acc p) (0, e)).2 < q.1)
  | [], A, h => ⟨hse, Int.le_refl _, (gsum_self _ _).symm, .inr fun q hq => by cases hq⟩
  | p :: B, A, h => by
    obtain ⟨h1, h2, h3, h4⟩ := grown_go hse u B (A ++ [p]) (by rw [h, List.append_assoc]; rfl)
    rw [List.foldr_cons]
    generalize B.foldr (fun p acc => gStep s acc p) (0, e) = r at h1 h2 h3 h4 ⊢
    obtain ⟨t, st⟩ := r
    simp only at h1 h2 h3 h4
    have hb : ∃ b, (if p.1 - 1 > s then p.1 - 1 else s) = b ∧ s ≤ b ∧ p.1 - 1 ≤ b ∧ (b = s ∨ b = p.1 - 1) := by
      refine ⟨_, rfl, ?_⟩
      split <;> omega
    obtain ⟨b, eb, b1, b2, b3⟩ := hb
    unfold gStep
    rw [eb]
    have hB : ∀ q ∈ B, p.1 < q.1 := by
      have u2 : Up (-1) (A ++ p :: B) := by rw [← h]; exact u
      exact u2.drop.mem
    by_cases c : b < st
    · rw [if_pos c]
      refine ⟨b1, by show b ≤ e; omega, ?_, ?_⟩
      · show t + (st - b) * p.2 = gsum ps b e
        rw [gsum_split (m := st) (by omega) h2, ← h3, gsum_const (c := p.2) (by omega) fun d d1 d2 => ?_]
        · omega
        · rw [h]
          refine rateOn_at (by omega) fun q hq => ?_
          rcases h4 with h4 | h4
          · omega
          · have := h4 q hq
            omega
      · show b = s ∨ ∀ q ∈ p :: B, b < q.1
        rcases b3 with b3 | b3
        · exact .inl b3
        · refine .inr fun q hq => ?_
          rcases List.mem_cons.mp hq with e1 | e1
          · rw [e1]; omega
          · have := hB q e1
            omega
    · rw [if_neg c]
      refine ⟨h1, h2, h3, ?_⟩
      show st = s ∨ ∀ q ∈ p :: B, st < q.1
      rcases h4 with h4 | h4
      · exact .inl h4
      · rcases b3 with b3 | b3
        · exact .inl (by omega)
        · refine .inr fun q hq => ?_
          rcases List.mem_cons.mp hq with e1 | e1
          · rw [e1]; omega
          · exact h4 q e1
theorem grown_eq {ps : List Pr} {s e : Int} (g : Good ps) (h0 : 0 ≤ s) (hse : s ≤ e) : grown ps s e = gsum ps s e := by
  unfold grown
  rw [List.foldl_reverse]
  obtain ⟨h1, h2, h3, h4⟩ := grown_go hse g.up ps [] rfl
  obtain ⟨r, rest, er⟩ := g.ne
  have hs : (ps.foldr (fun p acc => gStep s acc p) (0, e)).2 = s := by
    rcases h4 with h4 | h4
    · exact h4
    · have := h4 (0, r) (by rw [er]; simp)
      have : (ps.foldr (fun p acc => gStep s acc p) (0, e)).2 < 0 := this
      omega
  rw [h3, hs]
theorem rateOn_snoc {ps : List Pr} {p : Pr} {d : Int} : rateOn (ps ++ [p]) d = if p.1 ≤ d then p.2 else rateOn ps d := by
  unfold rateOn
  rw [List.foldl_append]
  rfl
theorem rateOn_ok {ps : List Pr} (hr : ∀ p ∈ ps, 0 ≤ p.2 ∧ p.2 ≤ 100000) (d : Int) : 0 ≤ rateOn ps d ∧ rateOn ps d ≤ 100000 := by
  have go : ∀ (l : List Pr) (x : Int), (∀ p ∈ l, 0 ≤ p.2 ∧ p.2 ≤ 100000) → 0 ≤ x ∧ x ≤ 100000 → 0 ≤ l.foldl (fun f p => if p.1 ≤ d then p.2 else f) x ∧ l.foldl (fun f p => if p.1 ≤ d then p.2 else f) x ≤ 100000 := by
    intro l
    induction l with
    | nil => intro x _ h; exact h
    | cons p l ih =>
      intro x hl h
      rw [List.foldl_cons]
      refine ih _ (fun q hq => hl q (by simp [hq])) ?_
      split
      · exact hl p (by simp)
      · exact h
  exact go ps 0 hr (by decide)
theorem daySum_ok {f : Int → Int} {s c : Int} (h : ∀ d, 0 ≤ f d ∧ f d ≤ c) : ∀ n : Nat, 0 ≤ daySum f s n ∧ daySum f s n ≤ n * c
  | 0 => by simp [daySum]
  | n + 1 => by
    have h1 := daySum_ok (s := s) h n
    have h2 := h (s + n + 1)
    show 0 ≤ daySum f s n + f (s + n + 1) ∧ daySum f s n + f (s + n + 1) ≤ _
    rw [Int.natCast_add, Int.add_mul]
    simp
    omega
theorem gsum_ok {ps : List Pr} (hr : ∀ p ∈ ps, 0 ≤ p.2 ∧ p.2 ≤ 100000) {s e : Int} (h : s ≤ e) : 0 ≤ gsum ps s e ∧ gsum ps s e ≤ (e - s) * 100000 := by
  have := daySum_ok (s := s) (rateOn_ok hr) (e - s).toNat
  have e1 : ((e - s).toNat : Int) = e - s := by omega
  rw [e1] at this
  exact this
end Toy
namespace Toy
theorem Good.le_last {ps : List Pr} (g : Good ps) {p : Pr} (h : p ∈ ps) : p.1 ≤ lastDay ps := by
  have go : ∀ (l : List Pr) (d : Int) (q : Pr), Up d l → q ∈ l → q.1 ≤ (l.getLastD (0, 0)).1 := by
    intro l
    induction l with
    | nil => intro d q _ h; cases h
    | cons a b ih =>
      intro d q u h
      cases b with
      | nil =>
        have e : q = a := by simpa using h
        rw [e]
        exact Int.le_refl _
      | cons c r =>
        have hl : ((a :: c :: r).getLastD (0, 0)).1 = ((c :: r).getLastD (0, 0)).1 := rfl
        rw [hl]
        rcases List.mem_cons.mp h with e | e
        · rw [e]
          have h1 := ih a.1 c u.2 (by simp)
          have := u.2.1
          omega
        · exact ih a.1 q u.2 e
  exact go ps (-1) p g.up h
theorem Up.to : ∀ {d : Int} {A : List Pr} {p : Pr} {B : List Pr}, Up d (A ++ p :: B) → ∀ q ∈ A, q.1 < p.1
  | _, [], _, _, _, _, hq => by cases hq
  | d, a :: A, p, B, u, q, hq => by
    rcases List.mem_cons.mp hq with e | e
    · rw [e]
      exact u.2.mem p (by simp)
    · exact Up.to (A := A) u.2 q e
end Toy
namespace Toy
theorem gsum_congr {ps qs : List Pr} {s e : Int} (h : ∀ d, s < d → d ≤ e → rateOn ps d = rateOn qs d) : gsum ps s e = gsum qs s e := by
  unfold gsum
  by_cases c : s ≤ e
  · exact daySum_congr fun d h1 h2 => h d h1 (by omega)
  · rw [show (e - s).toNat = 0 by omega]
    rfl
/-- the law's own way: how much each pair is more than the one ahead of it -/
def sumUp (ps : List Pr) (s e : Int) : Nat → Int
  | 0 => (ps.getD 0 (0, 0)).2 * (e - s)
  | k + 1 => if e - (if (ps.getD (k + 1) (0, 0)).1 - 1 > s then (ps.getD (k + 1) (0, 0)).1 - 1 else s) > 0 then sumUp ps s e k + ((ps.getD (k + 1) (0, 0)).2 - (ps.getD k (0, 0)).2) * (e - (if (ps.getD (k + 1) (0, 0)).1 - 1 > s then (ps.getD (k + 1) (0, 0)).1 - 1 else s)) else sumUp ps s e k
theorem getD_of {α : Type} {l : List α} {j : Nat} {a d : α} (h : l[j]? = some a) : l.getD j d = a := by
  rw [List.getD_eq_getElem?_getD, h]
  rfl
theorem sumUp_eq {ps : List Pr} {s e : Int} (g : Good ps) (h0 : 0 ≤ s) (hse : s ≤ e) : ∀ k, k < ps.length → sumUp ps s e k = gsum (ps.take (k + 1)) s e
  | 0, hk => by
    obtain ⟨r, rest, er⟩ := g.ne
    rw [er]
    show r * (e - s) = gsum [(0, r)] s e
    rw [gsum_const (c := r) hse fun d h1 h2 => ?_, Int.mul_comm]
    exact rateOn_at (A := []) (B := []) (p := (0, r)) (by show 0 ≤ d; omega) fun q hq => by cases hq
  | k + 1, hk => by
    have ih := sumUp_eq g h0 hse k (by omega)
    obtain ⟨p, hp⟩ := get_of (l := ps) (j := k + 1) hk
    obtain ⟨q, hq⟩ := get_of (l := ps) (j := k) (by omega)
    have et : ps.take (k + 1 + 1) = ps.take (k + 1) ++ [p] := by
      rw [List.take_add_one, hp]
      rfl
    have et2 : ps.take (k + 1) = ps.take k ++ [q] := by
      rw [List.take_add_one, hq]
      rfl
    have eall : ps = ps.take (k + 1) ++ p :: ps.drop (k + 2) := by
      have h2 : ps[k + 1] = p := (List.getElem?_eq_some_iff.mp hp).2
      rw [← h2, List.getElem_cons_drop, List.take_append_drop]
    have hA : ∀ u ∈ ps.take (k + 1), u.1 < p.1 := by
      have u2 : Up (-1) (ps.take (k + 1) ++ p :: ps.drop (k + 2)) := by rw [← eall]; exact g.up
      exact u2.to
    have hqp : q.1 < p.1 := hA q (by rw [et2]; simp)
    have hlo : ∀ d, d ≤ p.1 - 1 → rateOn (ps.take (k + 1) ++ [p]) d = rateOn (ps.take (k + 1)) d := fun d hd => by
      rw [rateOn_snoc, if_neg (by omega)]
    unfold sumUp
    rw [getD_of hp, getD_of hq, ih, et]
    have hb : ∃ b, (if p.1 - 1 > s then p.1 - 1 else s) = b ∧ s ≤ b ∧ p.1 - 1 ≤ b ∧ (b = s ∨ b = p.1 - 1) := by
      refine ⟨_, rfl, ?_⟩
      split <;> omega
    obtain ⟨b, eb, b1, b2, b3⟩ := hb
    rw [eb]
    by_cases c : e - b > 0
    · rw [if_pos c, gsum_split (ps := ps.take (k + 1) ++ [p]) (m := b) b1 (by omega), gsum_split (ps := ps.take (k + 1)) (m := b) b1 (by omega)]
      have e1 : gsum (ps.take (k + 1) ++ [p]) s b = gsum (ps.take (k + 1)) s b := gsum_congr fun d d1 d2 => by
        refine hlo d ?_
        omega
      have e2 : gsum (ps.take (k + 1) ++ [p]) b e = (e - b) * p.2 := gsum_const (by omega) fun d d1 d2 => by
        rw [rateOn_snoc, if_pos (by omega)]
      have e3 : gsum (ps.take (k + 1)) b e = (e - b) * q.2 := gsum_const (by omega) fun d d1 d2 => by
        rw [et2, rateOn_snoc, if_pos (by omega)]
      rw [e1, e2, e3, Int.sub_mul p.2 q.2, Int.mul_comm p.2, Int.mul_comm q.2]
      omega
    · rw [if_neg c]
      refine (gsum_congr fun d d1 d2 => hlo d ?_).symm
      omega
theorem sumUp_all {ps : List Pr} {s e : Int} (g : Good ps) (h0 : 0 ≤ s) (hse : s ≤ e) : sumUp ps s e (ps.length - 1) = gsum ps s e := by
  obtain ⟨r, rest, er⟩ := g.ne
  have hl : 0 < ps.length := by rw [er]; simp
  rw [sumUp_eq g h0 hse _ (by omega), List.take_of_length_le (by omega)]
theorem perm3 {ns : List Int} {a b c : Int} (p : ns.Perm [a, b, c]) (w : ns.Pairwise (· ≤ ·)) {lo hi : Int} (h1 : lo ≤ a ∧ a ≤ hi) (h2 : lo ≤ b ∧ b ≤ hi) (h3 : lo ≤ c ∧ c ≤ hi) :
    ∃ x y z, ns = [x, y, z] ∧ lo ≤ x ∧ x ≤ y ∧ y ≤ z ∧ z ≤ hi := by
  have hl := p.length_eq
  match ns, hl with
  | [x, y, z], _ =>
    have hb : ∀ u ∈ [x, y, z], lo ≤ u ∧ u ≤ hi := fun u hu => by
      have := p.mem_iff.mp hu
      simp only [List.mem_cons, List.not_mem_nil, or_false] at this
      rcases this with e | e | e <;> rw [e] <;> assumption
    have hx := hb x (by simp)
    have hz := hb z (by simp)
    simp only [List.pairwise_cons] at w
    exact ⟨x, y, z, rfl, hx.1, w.1 y (by simp), w.2.1 z (by simp), hz.2⟩
end Toy
namespace Toy
open PySem L2
/-! ### the text by places -/
def top (i : Nat) : Stmt := PySem.Challenge.pw_loanplan_k03_far_stretches.main.body.getD i (.Pass ⟨0, 0, 0, 0⟩)
abbrev s_grown : Stmt := top 1
abbrev s_law_cell_at : Stmt := top 3
abbrev s_law_whole : Stmt := top 4
abbrev s_law_mixed : Stmt := top 5
abbrev s_law_rate_by : Stmt := top 6
abbrev s_law_row_by : Stmt := top 7
abbrev s_law_sum_by : Stmt := top 8
abbrev s_law : Stmt := top 9
/-! ### the names of each def by slots -/
theorem sc_grown : FnScope ["rates", "start", "end", "total", "stop", "k", "day", "rate", "begin"] ["rates", "start", "end"] (defScope s_grown) := ⟨rfl, rfl, rfl, by decide +kernel, rfl, by decide +kernel, by decide +kernel⟩
theorem sc_law_cell_at : FnScope ["_law_script", "_law_k"] ["_law_script", "_law_k"] (defScope s_law_cell_at) := ⟨rfl, rfl, rfl, by decide +kernel, rfl, by decide +kernel, by decide +kernel⟩
theorem sc_law_whole : FnScope ["_law_found"] ["_law_found"] (defScope s_law_whole) := ⟨rfl, rfl, rfl, by decide +kernel, rfl, by decide +kernel, by decide +kernel⟩
theorem sc_law_mixed : FnScope ["_law_cell", "_law_many"] ["_law_cell", "_law_many"] (defScope s_law_mixed) := ⟨rfl, rfl, rfl, by decide +kernel, rfl, by decide +kernel, by decide +kernel⟩
theorem sc_law_rate_by : FnScope ["_law_cell"] ["_law_cell"] (defScope s_law_rate_by) := ⟨rfl, rfl, rfl, by decide +kernel, rfl, by decide +kernel, by decide +kernel⟩
theorem sc_law_row_by : FnScope ["_law_cell", "_law_many", "_law_wide", "_law_row", "_law_k", "_law_day"] ["_law_cell", "_law_many", "_law_wide"] (defScope s_law_row_by) := ⟨rfl, rfl, rfl, by decide +kernel, rfl, by decide +kernel, by decide +kernel⟩
theorem sc_law_sum_by : FnScope ["_law_row", "_law_start", "_law_end", "_law_total", "_law_k", "_law_days"] ["_law_row", "_law_start", "_law_end"] (defScope s_law_sum_by) := ⟨rfl, rfl, rfl, by decide +kernel, rfl, by decide +kernel, by decide +kernel⟩
theorem sc_law : FnScope ["_law_script", "_law_head", "_law_many", "_law_wide", "_law_row", "_law_some", "_law_middle", "_law_days", "_law_due", "_law_handed", "_law_found", "_law_halves"] ["_law_script"] (defScope s_law) := ⟨rfl, rfl, rfl, by decide +kernel, rfl, by decide +kernel, by decide +kernel⟩
/-! ### what the top has left -/
structure Txt (K : PySem.W.Frag) (mg : Str → Option Value) where
  b_len : mg "len" = none
  b_max : mg "max" = none
  b_int : mg "int" = none
  b_bool : mg "bool" = none
  b_list : mg "list" = none
  b_range : mg "range" = none
  b_isinstance : mg "isinstance" = none
  b_sorted : mg "sorted" = none
section
variable {K : PySem.W.Frag} {mg : Str → Option Value}
def sp_grown (_ : Txt K mg) : Sp := fun vs H Q _ => ∃ (l : Addr) (ts : List Trp) (s e : Int), vs = [.ref l, .int s, .int e] ∧ Row H l ts ∧ ts.length ≤ 1000 ∧ Good (vals ts) ∧ 0 ≤ s ∧ s ≤ e ∧ Q (.int (gsum (vals ts) s e)) H
def sp_law_cell_at (_ : Txt K mg) : Sp := fun vs H Q _ => ∃ (a : Addr) (ns : List Int) (k : Int), vs = [.ref a, .int k] ∧ SqL K H a (ns.map V.int) ∧ 0 ≤ k ∧ Q (.int (cellAt ns k)) H
def sp_law_whole (_ : Txt K mg) : Sp := fun vs H Q _ => ∃ (c : Int), vs = [.int c] ∧ Q (.bl true) H
def sp_law_mixed (_ : Txt K mg) : Sp := fun vs H Q _ => ∃ (c m : Int), vs = [.int c, .int m] ∧ 0 < m ∧ Q (.int (mixed c m)) H
def sp_law_rate_by (_ : Txt K mg) : Sp := fun vs H Q _ => ∃ (c : Int), vs = [.int c] ∧ ∀ H', Same H H' → Q (.int (rateBy c)) H'
def sp_law_row_by (_ : Txt K mg) : Sp := fun vs H Q _ => ∃ (c many wide : Int), vs = [.int c, .int many, .int wide] ∧ 1 ≤ many ∧ many ≤ 1000 ∧ 0 < wide ∧
  ∀ (l : Addr) (ts : List Trp) (H' : Hp), Same H H' → H l = none → Row H' l ts → vals ts = rowBy c many wide → Q (.ref l) H'
def sp_law_sum_by (_ : Txt K mg) : Sp := fun vs H Q _ => ∃ (l : Addr) (ts : List Trp) (s e : Int), vs = [.ref l, .int s, .int e] ∧ Row H l ts ∧ ts.length ≤ 1000 ∧ Good (vals ts) ∧ 0 ≤ s ∧ s ≤ e ∧ Q (.int (gsum (vals ts) s e)) H
def sp_law (K : PySem.W.Frag) : Sp := fun vs H Q _ => ∃ (a : Addr) (ns : List Int), vs = [.ref a] ∧ SqL K H a (ns.map V.int) ∧ ns.length ≤ 63 ∧ ∀ H', Q (.bl true) H'
end
section
variable {P : Program} {w : World} {K : PySem.W.Frag} {mg : Str → Option Value} {base : Heap}
theorem ok_grown {f : Addr} {fd : FuncData} (F : Fun K "grown" "grown" s_grown f fd) (T : Txt K mg)  :
    FnOk P w K mg base CX0 1 f fd ["rates", "start", "end"] (sp_grown T) := by
  refine F.ok sc_grown (fun vs H Q E h => ?_) (fun cdv A outer s H vs Q E hr h => ?_)
  · obtain ⟨l, ts, s, e, rfl, _⟩ := h
    rfl
  · obtain ⟨l, ts, s, e, rfl, R, hl, g, h0, hse, q⟩ := h
    have hr2 := g.rate
    rw [← grown_eq g h0 hse] at q
    refine ⟨_, (pss_cons (ps_set (i := 3) sc_grown.nd rfl (Or.inl rfl) pe_int)
            (pss_cons (ps_set (i := 4) sc_grown.nd rfl (Or.inl rfl) (pv 2))
            (pss_cons (ps_for PassesOwn.never rfl (pi_range1 rfl T.b_range (pa_cons (pe_callB call_len_seq (by rfl) T.b_len PySem.boot_len (pa_cons (pv 0) pa_nil)) pa_nil)) (pg_name (i := 5) sc_grown.nd rfl (Or.inl rfl)) (pss_cons (ps_asg (pe_ix ix_list (pv 0) (pe_op op_sub (pe_op op_sub (pe_callB call_len_seq (by rfl) T.b_len PySem.boot_len (pa_cons (pv 0) pa_nil)) pe_int) (pv 5)) (fun _ _ => rfl)) (pg_tup rfl (pgs_cons (pg_name (i := 6) sc_grown.nd rfl (Or.inl rfl)) (pgs_cons (pg_name (i := 7) sc_grown.nd rfl (Or.inl rfl)) pgs_nil))))
            (pss_cons (ps_set (i := 8) sc_grown.nd rfl (Or.inl rfl) (pe_callB (call_max2 rfl) (by rfl) T.b_max (by decide +kernel) (pa_cons (pv 1) (pa_cons (pe_op op_sub (pv 6) pe_int) pa_nil))))
            (pss_one (ps_if (pt_cmpR op_lt (pv 8) (pv 4) (nomark _)) (pss_cons (ps_set (i := 3) sc_grown.nd rfl (Or.inl rfl) (pe_op op_add (pv 3) (pe_op op_mulX (pe_op op_sub (pv 4) (pv 8)) (pv 7))))
            (pss_one (ps_set (i := 4) sc_grown.nd rfl (Or.inl rfl) (pv 8)))) pss_nil)))))
            (pss_one (ps_ret (pv 3)))))), ?_⟩
    walk_at "rd"
    refine ⟨l, _, rfl, .inl R.seq, _, rfl, by omega, by rw [rowV_len]; omega, for_range (lo := 0) (n := (((rowV ts).length : Int)).toNat)
      (fun i σ H1 => H1 = H ∧ ∃ v5 v6 v7 v8 : Option V, σ = [some (.ref l), some (.int s), some (.int e), some (.int (((vals ts).reverse.take i).foldl (gStep s) (0, e)).1), some (.int (((vals ts).reverse.take i).foldl (gStep s) (0, e)).2), v5, v6, v7, v8])
      ⟨rfl, none, none, none, none, rfl⟩ ?_ ?_⟩
    · rintro i σ H1 hi ⟨rfl, v5, v6, v7, v8, rfl⟩
      have hi2 : i < ts.length := by rw [rowV_len] at hi; omega
      obtain ⟨p, hp⟩ := get_of (l := vals ts) (j := ts.length - 1 - i) (by rw [vals_len]; omega)
      obtain ⟨a, ha, hap⟩ := R.at (z := ((rowV ts).length : Int) - 1 - (0 + (i : Int))) (j := ts.length - 1 - i) (by rw [rowV_len]; omega) hp
      have hm := hr2 p (List.mem_of_getElem? hp)
      have er : (vals ts).reverse[i]? = some p := by rw [List.getElem?_reverse (by rw [vals_len]; exact hi2), vals_len]; exact hp
      rw [List.take_add_one, er, List.foldl_append]
      generalize ((vals ts).reverse.take i).foldl (gStep s) (0, e) = acc
      walk_at "rd"
      refine ⟨l, _, rfl, .inl R.seq, _, _, rfl, rfl, _, rfl, _, _, rfl, rfl, l, _, _, _, rfl, rfl, R.seq, ha, a, _, rfl, SqT.of hap, rfl, _, _, rfl, _, _, rfl, rfl, ?_⟩
      walk_at "rd"
      refine ifd (fun c => ?_) (fun c => ?_)
      · walk_at "rd"
        refine ⟨IntMulOk.of_right (PySem.intBits_le_64 (by omega) (by omega)), _, _, rfl, rfl, _, rfl, rfl, some (.int (0 + (i : Int))), some (.int p.1), some (.int p.2), some (.int (if p.1 - 1 > s then p.1 - 1 else s)), ?_⟩
        show _ = [some (V.ref l), some (V.int s), some (V.int e), some (V.int (gStep s acc p).1), some (V.int (gStep s acc p).2), some (.int (0 + (i : Int))), some (.int p.1), some (.int p.2), some (.int (if p.1 - 1 > s then p.1 - 1 else s))]
        unfold gStep
        rw [if_pos c]
        rfl
      · refine ⟨rfl, some (.int (0 + (i : Int))), some (.int p.1), some (.int p.2), some (.int (if p.1 - 1 > s then p.1 - 1 else s)), ?_⟩
        show _ = [some (V.ref l), some (V.int s), some (V.int e), some (V.int (gStep s acc p).1), some (V.int (gStep s acc p).2), some (.int (0 + (i : Int))), some (.int p.1), some (.int p.2), some (.int (if p.1 - 1 > s then p.1 - 1 else s))]
        unfold gStep
        rw [if_neg c]
        rfl
    · rintro σ H1 ⟨rfl, v5, v6, v7, v8, rfl⟩
      refine ⟨_, rfl, ?_⟩
      rw [Int.toNat_natCast, rowV_len, List.take_of_length_le (by rw [List.length_reverse, vals_len]; exact Nat.le_refl _)]
      exact q

theorem ok_law_cell_at {f : Addr} {fd : FuncData} (F : Fun K "_law_cell_at" "_law_cell_at" s_law_cell_at f fd) (T : Txt K mg)  :
    FnOk P w K mg base CX0 1 f fd ["_law_script", "_law_k"] (sp_law_cell_at T) := by
  refine F.ok sc_law_cell_at (fun vs H Q E h => ?_) (fun cdv A outer s H vs Q E hr h => ?_)
  · obtain ⟨a, ns, k, rfl, _⟩ := h
    rfl
  · obtain ⟨a, ns, k, rfl, hS, h0, q⟩ := h
    refine ⟨_, (pss_cons (ps_if (pt_cmpR op_lt (pv 1) (pe_callB call_len_seq (by rfl) T.b_len PySem.boot_len (pa_cons (pv 0) pa_nil)) (nomark _)) (pss_one (ps_ret (pe_ix ix_list (pv 0) (pv 1) (fun _ _ => rfl)))) pss_nil)
            (pss_one (ps_ret pe_int))), ?_⟩
    refine ⟨_, rfl, _, rfl, a, _, rfl, Or.inl hS, _, _, rfl, rfl, _, rfl, ifd (fun c => ?_) (fun c => ?_)⟩
    · rw [List.length_map] at c
      obtain ⟨j, rfl⟩ : ∃ j : Nat, k = (j : Int) := ⟨k.toNat, by omega⟩
      have hj : j < ns.length := by omega
      refine ⟨_, rfl, _, rfl, a, _, _, _, rfl, rfl, hS, at_m rfl (List.getElem?_eq_getElem hj), ?_⟩
      have e : cellAt ns (j : Int) = ns[j] := by
        unfold cellAt
        rw [Int.toNat_natCast, List.getD_eq_getElem?_getD, List.getElem?_eq_getElem hj]
        rfl
      rw [← e]
      exact q
    · rw [List.length_map] at c
      have e : cellAt ns k = 0 := by
        unfold cellAt
        rw [List.getD_eq_getElem?_getD, List.getElem?_eq_none (by omega)]
        rfl
      rw [e] at q
      exact q

theorem ok_law_whole {f : Addr} {fd : FuncData} (F : Fun K "_law_whole" "_law_whole" s_law_whole f fd) (T : Txt K mg)  :
    FnOk P w K mg base CX0 1 f fd ["_law_found"] (sp_law_whole T) := by
  refine F.ok sc_law_whole (fun vs H Q E h => ?_) (fun cdv A outer s H vs Q E hr h => ?_)
  · obtain ⟨c, rfl, _⟩ := h
    rfl
  · obtain ⟨c, rfl, q⟩ := h
    refine ⟨_, (pss_one (ps_ret (pe_and (pe_callB call_isi (by rfl) T.b_isinstance (by decide +kernel) (pa_cons (pv 0) (pa_cons (pe_bltn (v := .ty "int") (u := .type "int") rfl T.b_int (by decide +kernel) rfl) pa_nil))) (pe_one (pe_not (pe_callB call_isi (by rfl) T.b_isinstance (by decide +kernel) (pa_cons (pv 0) (pa_cons (pe_bltn (v := .ty "bool") (u := .type "bool") rfl T.b_bool (by decide +kernel) rfl) pa_nil)))))))), ?_⟩
    refine ⟨_, rfl, _, _, _, _, _, rfl, .ty "int", .base (.int c), kit_ty (r := true) (by decide +kernel), true, rfl, iteT ?_⟩
    exact ⟨_, rfl, _, _, _, _, _, rfl, .ty "bool", .base (.int c), kit_ty (r := false) (by decide +kernel), false, rfl, q⟩

theorem ok_law_mixed {f : Addr} {fd : FuncData} (F : Fun K "_law_mixed" "_law_mixed" s_law_mixed f fd) (T : Txt K mg)  :
    FnOk P w K mg base CX0 1 f fd ["_law_cell", "_law_many"] (sp_law_mixed T) := by
  refine F.ok sc_law_mixed (fun vs H Q E h => ?_) (fun cdv A outer s H vs Q E hr h => ?_)
  · obtain ⟨c, m, rfl, _⟩ := h
    rfl
  · obtain ⟨c, m, rfl, h0, q⟩ := h
    refine ⟨_, (pss_one (ps_ret (pe_op op_mod (pe_op op_mod (pe_op op_add (pe_op op_mulX (pv 0) pe_int) pe_int) pe_int) (pv 1)))), ?_⟩
    refine ⟨_, rfl, _, _, rfl, rfl, mulR, _, _, rfl, rfl, _, _, rfl, rfl, md, _, rfl, _, _, rfl, rfl, h0, q⟩

theorem ok_law_rate_by {f : Addr} {fd : FuncData} (F : Fun K "_law_rate_by" "_law_rate_by" s_law_rate_by f fd) (T : Txt K mg) (D_law_mixed : Df P w K mg base CX0 1 "_law_mixed" ["_law_cell", "_law_many"] (sp_law_mixed T)) :
    FnOk P w K mg base CX0 2 f fd ["_law_cell"] (sp_law_rate_by T) := by
  refine F.ok sc_law_rate_by (fun vs H Q E h => ?_) (fun cdv A outer s H vs Q E hr h => ?_)
  · obtain ⟨c, rfl, _⟩ := h
    rfl
  · obtain ⟨c, rfl, q⟩ := h
    refine ⟨_, (pss_cons (ps_if (pt_cmpR op_eq (pe_op op_mod (pv 0) pe_int) pe_int (nomark _)) (pss_one (ps_ret (pe_ix ix_list (pe_lst (pa_cons pe_int (pa_cons pe_int (pa_cons pe_int (pa_cons pe_int pa_nil))))) (pe_op op_mod (pe_op op_fdiv (pv 0) pe_int) pe_int) (fun _ _ => rfl)))) pss_nil)
            (pss_cons (ps_if (pt_cmpR op_eq (pe_op op_mod (pv 0) pe_int) pe_int (nomark _)) (pss_one (ps_ret (pe_op op_mod (pe_op op_fdiv (pv 0) pe_int) pe_int))) pss_nil)
            (pss_one (ps_ret (pc0 D_law_mixed hr (pa_cons (pv 0) (pa_cons pe_int pa_nil))))))), ?_⟩
    unfold rateBy at q
    refine ⟨_, rfl, _, _, rfl, rfl, md, rfl, _, rfl, if_eq (fun c1 => ?_) (fun c1 => ?_)⟩
    · rw [if_pos c1] at q
      refine ⟨by decide, fun l hl => ⟨_, rfl, _, _, rfl, rfl, dv, _, _, rfl, rfl, md, ?_⟩⟩
      have g0 : 0 ≤ c / 5 % 4 := by omega
      have g1 : c / 5 % 4 < 4 := by omega
      obtain ⟨j, ej⟩ : ∃ j : Nat, c / 5 % 4 = (j : Int) := ⟨(c / 5 % 4).toNat, by omega⟩
      have hj : j < 4 := by omega
      refine ⟨l, _, _, V.int (([0, 1, 99999, 100000] : List Int).getD (c / 5 % 4).toNat 0), rfl, rfl, SqL.of upd_same, at_of ej ?_, q _ (Same.new hl)⟩
      rw [ej, Int.toNat_natCast]
      match j, hj with
      | 0, _ => rfl
      | 1, _ => rfl
      | 2, _ => rfl
      | 3, _ => rfl
    · rw [if_neg c1] at q
      refine ⟨_, rfl, _, _, rfl, rfl, md, rfl, _, rfl, if_eq (fun c2 => ?_) (fun c2 => ?_)⟩
      · rw [if_pos c2] at q
        exact ⟨_, rfl, _, _, rfl, rfl, dv, _, _, rfl, rfl, md, q _ (Same.refl H)⟩
      · rw [if_neg c2] at q
        exact ⟨_, rfl, _, _, rfl, by decide, q _ (Same.refl H)⟩

theorem ok_law_row_by {f : Addr} {fd : FuncData} (F : Fun K "_law_row_by" "_law_row_by" s_law_row_by f fd) (T : Txt K mg) (D_law_rate_by : Df P w K mg base CX0 2 "_law_rate_by" ["_law_cell"] (sp_law_rate_by T)) (D_law_mixed : Df P w K mg base CX0 1 "_law_mixed" ["_law_cell", "_law_many"] (sp_law_mixed T)) :
    FnOk P w K mg base CX0 3 f fd ["_law_cell", "_law_many", "_law_wide"] (sp_law_row_by T) := by
  refine F.ok sc_law_row_by (fun vs H Q E h => ?_) (fun cdv A outer s H vs Q E hr h => ?_)
  · obtain ⟨c, m, w', rfl, _⟩ := h
    rfl
  · obtain ⟨c, many, wide, rfl, h1, h2, h3, q⟩ := h
    refine ⟨_, (pss_cons (ps_set (i := 3) sc_law_row_by.nd rfl (Or.inl rfl) (pe_lst (pa_cons (pe_tup (pa_cons pe_int (pa_cons (pc0 D_law_rate_by hr (pa_cons (pv 0) pa_nil)) pa_nil))) pa_nil)))
            (pss_cons (ps_for PassesOwn.never rfl (pi_range2 rfl T.b_range (pa_cons pe_int (pa_cons (pv 1) pa_nil))) (pg_name (i := 4) sc_law_row_by.nd rfl (Or.inl rfl)) (pss_cons (ps_set (i := 5) sc_law_row_by.nd rfl (Or.inl rfl) (pe_op op_add (pe_op op_add (pe_ix ix_tup (pe_ix ix_list (pv 3) (pe_un un_neg pe_int) (fun _ _ => rfl)) pe_int (fun _ _ => rfl)) pe_int) (pc0 D_law_mixed hr (pa_cons (pe_op op_add (pv 0) (pe_op op_mulX pe_int (pv 4))) (pa_cons (pv 2) pa_nil)))))
            (pss_one (ps_expr (pe_bm PySem.F.plainAttrs_list PySem.F.slot_list_append PySem.F.type_list_append mt_append (pv 3) (pa_cons (pe_tup (pa_cons (pv 5) (pa_cons (pc0 D_law_rate_by hr (pa_cons (pe_op op_add (pe_op op_fdiv (pv 0) pe_int) (pe_op op_mulX pe_int (pv 4))) pa_nil)) pa_nil))) pa_nil))))))
            (pss_one (ps_ret (pv 3))))), ?_⟩
    refine ⟨_, rfl, c, rfl, fun H1 s1 => ⟨szl 2, fun p hp => ⟨szl 1, fun l hl => ?_⟩⟩⟩
    have s2 : Same H (L2.upd H1 p (tupV (0, rateBy c))) := s1.upd hp
    have hl0 : H l = none := s2.free hl
    have s3 : Same H (L2.upd (L2.upd H1 p (tupV (0, rateBy c))) l (.lst (rowV [(p, 0, rateBy c)]))) := s2.upd hl
    have R0 : Row (L2.upd (L2.upd H1 p (tupV (0, rateBy c))) l (.lst (rowV [(p, 0, rateBy c)]))) l [(p, 0, rateBy c)] := ⟨upd_same, fun t ht => by
      obtain rfl : t = (p, 0, rateBy c) := by simpa using ht
      show L2.upd _ _ _ p = _
      rw [L2.upd_ne (by intro e; rw [← e, upd_same] at hl; cases hl)]
      exact upd_same⟩
    refine ⟨_, rfl, 1, many, rfl, ⟨by omega, by omega, by omega, by omega⟩, for_range (lo := 1) (n := (many - 1).toNat)
      (fun i σ H2 => ∃ (ts : List Trp) (v4 v5 : Option V), σ = [some (.int c), some (.int many), some (.int wide), some (.ref l), v4, v5] ∧ Same H H2 ∧ Row H2 l ts ∧ vals ts = rowUp c wide i)
      ⟨_, none, none, rfl, s3, R0, rfl⟩ ?_ ?_⟩
    · rintro i σ H2 hi ⟨ts, v4, v5, rfl, s4, R, e⟩
      have hne : ts ≠ [] := vals_ne (by rw [e]; intro z; have := rowUp_len c wide i; rw [z] at this; cases this)
      obtain ⟨a, r, ha, hap, _⟩ := R.last hne
      refine ⟨_, rfl, _, rfl, l, _, _, _, rfl, rfl, R.seq, ha, a, _, _, _, rfl, rfl, SqT.of hap, at0 rfl, _, _, rfl, rfl, _, rfl, _, rfl, _, _, rfl, rfl, mulL, _, _, rfl, rfl, _, rfl, _, _, rfl, h3, _, _, rfl, rfl, ?_⟩
      have hlen : ts.length = i + 1 := by rw [← vals_len, e, rowUp_len]
      refine ⟨_, rfl, .inl ⟨rfl, _, R.seq⟩, _, rfl, _, rfl, _, _, rfl, rfl, dv, _, rfl, _, _, rfl, rfl, mulL, _, _, rfl, rfl, _, rfl, fun H3 s5 => ⟨szl 2, fun p2 hp2 => ?_⟩⟩
      have R3 := R.same s5
      have R4 := R3.same (Same.new (o := tupV (lastDay (vals ts) + 1 + mixed (c + 13 * (1 + (i : Int))) wide, rateBy (c / 7 + 31 * (1 + (i : Int))))) hp2)
      refine ⟨l, rowV ts, _, rfl, rfl, R4.lst, sz_lt (by rw [rowV_len, hlen]; omega), ?_⟩
      refine ⟨_, _, _, rfl, ((s4.trans s5).upd hp2).mut hl0, R4.snoc _ _ upd_same, ?_⟩
      rw [vals_append, e]
      show rowUp c wide i ++ _ = rowUp c wide i ++ _
      rw [Int.add_comm 1 (i : Int), ← e]
      rfl
    · rintro σ H2 ⟨ts, v4, v5, rfl, s4, R, e⟩
      exact ⟨_, rfl, q l ts H2 s4 hl0 R e⟩

theorem ok_law_sum_by {f : Addr} {fd : FuncData} (F : Fun K "_law_sum_by" "_law_sum_by" s_law_sum_by f fd) (T : Txt K mg)  :
    FnOk P w K mg base CX0 1 f fd ["_law_row", "_law_start", "_law_end"] (sp_law_sum_by T) := by
  refine F.ok sc_law_sum_by (fun vs H Q E h => ?_) (fun cdv A outer s H vs Q E hr h => ?_)
  · obtain ⟨l, ts, s, e, rfl, _⟩ := h
    rfl
  · obtain ⟨l, ts, s, e, rfl, R, hl, g, h0, hse, q⟩ := h
    rw [← sumUp_all g h0 hse] at q
    refine ⟨_, (pss_cons (ps_set (i := 3) sc_law_sum_by.nd rfl (Or.inl rfl) (pe_op op_mulX (pe_ix ix_tup (pe_ix ix_list (pv 0) pe_int (fun _ _ => rfl)) pe_int (fun _ _ => rfl)) (pe_op op_sub (pv 2) (pv 1))))
            (pss_cons (ps_for PassesOwn.never rfl (pi_range2 rfl T.b_range (pa_cons pe_int (pa_cons (pe_callB call_len_seq (by rfl) T.b_len PySem.boot_len (pa_cons (pv 0) pa_nil)) pa_nil))) (pg_name (i := 4) sc_law_sum_by.nd rfl (Or.inl rfl)) (pss_cons (ps_set (i := 5) sc_law_sum_by.nd rfl (Or.inl rfl) (pe_op op_sub (pv 2) (pe_callB (call_max2 rfl) (by rfl) T.b_max (by decide +kernel) (pa_cons (pv 1) (pa_cons (pe_op op_sub (pe_ix ix_tup (pe_ix ix_list (pv 0) (pv 4) (fun _ _ => rfl)) pe_int (fun _ _ => rfl)) pe_int) pa_nil)))))
            (pss_one (ps_if (pt_cmpR op_gt (pv 5) pe_int (nomark _)) (pss_one (ps_set (i := 3) sc_law_sum_by.nd rfl (Or.inl rfl) (pe_op op_add (pv 3) (pe_op op_mulX (pe_op op_sub (pe_ix ix_tup (pe_ix ix_list (pv 0) (pv 4) (fun _ _ => rfl)) pe_int (fun _ _ => rfl)) (pe_ix ix_tup (pe_ix ix_list (pv 0) (pe_op op_sub (pv 4) pe_int) (fun _ _ => rfl)) pe_int (fun _ _ => rfl))) (pv 5))))) pss_nil))))
            (pss_one (ps_ret (pv 3))))), ?_⟩
    have hlen : (vals ts).length = ts.length := vals_len ts
    obtain ⟨r0, f0⟩ := g.first
    have hpos := (List.getElem?_eq_some_iff.mp f0).1
    obtain ⟨b0, hb0, hbp0⟩ := R.at (z := 0) (j := 0) rfl f0
    have hr0 := g.rate _ (List.mem_of_getElem? f0)
    refine ⟨_, rfl, l, _, _, _, rfl, rfl, R.seq, hb0, b0, _, _, _, rfl, rfl, SqT.of hbp0, at_of (j := 1) rfl rfl, ?_⟩
    walk_at "rd"
    refine ⟨IntMulOk.of_left (PySem.intBits_le_64 (by simp only at hr0; omega) (by simp only at hr0; omega)), _, rfl, l, _, rfl, .inl R.seq, _, _, rfl, ⟨by omega, by omega, by omega, by rw [rowV_len]; omega⟩, for_range (lo := 1) (n := (((rowV ts).length : Int) - 1).toNat)
      (fun i σ H1 => H1 = H ∧ ∃ v4 v5 : Option V, σ = [some (.ref l), some (.int s), some (.int e), some (.int (sumUp (vals ts) s e i)), v4, v5])
      ⟨rfl, none, none, ?_⟩ ?_ ?_⟩
    · show _ = [_, _, _, some (V.int (((vals ts).getD 0 (0, 0)).2 * (e - s))), _, _]
      rw [getD_of f0]
      rfl
    · rintro i σ H1 hi ⟨rfl, v4, v5, rfl⟩
      rw [rowV_len] at hi
      obtain ⟨p, hp⟩ := get_of (l := vals ts) (j := i + 1) (by omega)
      obtain ⟨q2, hq⟩ := get_of (l := vals ts) (j := i) (by omega)
      obtain ⟨a, ha, hap⟩ := R.at (z := 1 + (i : Int)) (j := i + 1) (by omega) hp
      obtain ⟨c, hc, hcp⟩ := R.at (z := 1 + (i : Int) - 1) (j := i) (by omega) hq
      have hm := g.rate p (List.mem_of_getElem? hp)
      have hm2 := g.rate q2 (List.mem_of_getElem? hq)
      refine ⟨_, rfl, _, rfl, _, rfl, _, rfl, l, _, _, _, rfl, rfl, R.seq, ha, a, _, _, _, rfl, rfl, SqT.of hap, at0 rfl, ?_⟩
      walk_at "rd"
      refine ifd (fun c1 => ?_) (fun c1 => ?_)
      · refine ⟨_, rfl, _, rfl, _, rfl, l, _, _, _, rfl, rfl, R.seq, ha, a, _, _, _, rfl, rfl, SqT.of hap, at_of (j := 1) rfl rfl, _, rfl, _, rfl, _, _, rfl, rfl, l, _, _, _, rfl, rfl, R.seq, hc, c, _, _, _, rfl, rfl, SqT.of hcp, at_of (j := 1) rfl rfl, _, _, rfl, rfl, _, rfl, _, _, rfl, rfl,
          IntMulOk.of_left (PySem.intBits_le_64 (by omega) (by omega)), _, _, rfl, rfl, rfl, some (.int (1 + (i : Int))), some (.int (e - (if p.1 - 1 > s then p.1 - 1 else s))), ?_⟩
        have ee : sumUp (vals ts) s e (i + 1) = sumUp (vals ts) s e i + (p.2 - q2.2) * (e - (if p.1 - 1 > s then p.1 - 1 else s)) := by
          rw [sumUp, getD_of hp, getD_of hq, if_pos c1]
        rw [ee]
        rfl
      · refine ⟨rfl, some (.int (1 + (i : Int))), some (.int (e - (if p.1 - 1 > s then p.1 - 1 else s))), ?_⟩
        have ee : sumUp (vals ts) s e (i + 1) = sumUp (vals ts) s e i := by
          rw [sumUp, getD_of hp, getD_of hq, if_neg c1]
        rw [ee]
        rfl
    · rintro σ H1 ⟨rfl, v4, v5, rfl⟩
      refine ⟨_, rfl, ?_⟩
      rw [show (((rowV ts).length : Int) - 1).toNat = (vals ts).length - 1 by rw [rowV_len]; omega]
      exact q

theorem ok_law {f : Addr} {fd : FuncData} (F : Fun K "law" "law" s_law f fd) (T : Txt K mg) (D_law_cell_at : Df P w K mg base CX0 1 "_law_cell_at" ["_law_script", "_law_k"] (sp_law_cell_at T)) (D_law_row_by : Df P w K mg base CX0 3 "_law_row_by" ["_law_cell", "_law_many", "_law_wide"] (sp_law_row_by T)) (D_law_mixed : Df P w K mg base CX0 1 "_law_mixed" ["_law_cell", "_law_many"] (sp_law_mixed T)) (D_law_sum_by : Df P w K mg base CX0 1 "_law_sum_by" ["_law_row", "_law_start", "_law_end"] (sp_law_sum_by T)) (D_grown : Df P w K mg base CX0 1 "grown" ["rates", "start", "end"] (sp_grown T)) (D_law_whole : Df P w K mg base CX0 1 "_law_whole" ["_law_found"] (sp_law_whole T)) :
    FnOk P w K mg base CX0 4 f fd ["_law_script"] (sp_law K) := by
  refine F.ok sc_law (fun vs H Q E h => ?_) (fun cdv A outer s H vs Q E hr h => ?_)
  · obtain ⟨a, ns, rfl, _⟩ := h
    rfl
  · obtain ⟨a, ns, rfl, hS, hlen, k⟩ := h
    refine ⟨_, (pss_cons (ps_set (i := 1) sc_law.nd rfl (Or.inl rfl) (pc0 D_law_cell_at hr (pa_cons (pv 0) (pa_cons pe_int pa_nil))))
            (pss_cons (ps_set (i := 2) sc_law.nd rfl (Or.inl rfl) (pe_op op_add pe_int (pe_op op_mod (pv 1) pe_int)))
            (Evl.pss_cut (ps_if (pt_cmpR op_eq (pe_op op_mod (pe_op op_fdiv (pv 1) pe_int) pe_int) pe_int (nomark _)) (pss_one (ps_set (i := 2) sc_law.nd rfl (Or.inl rfl) (pe_op op_add pe_int (pe_op op_mod (pe_op op_fdiv (pv 1) pe_int) pe_int)))) pss_nil)
            (pss_cons (ps_set (i := 3) sc_law.nd rfl (Or.inl rfl) pe_int)
            (Evl.pss_cut (ps_if (pt_cmpR op_eq (pe_op op_mod (pc0 D_law_cell_at hr (pa_cons (pv 0) (pa_cons pe_int pa_nil))) pe_int) pe_int (nomark _)) (pss_one (ps_set (i := 3) sc_law.nd rfl (Or.inl rfl) pe_int)) pss_nil)
            (pss_cons (ps_set (i := 4) sc_law.nd rfl (Or.inl rfl) (pc0 D_law_row_by hr (pa_cons (pc0 D_law_cell_at hr (pa_cons (pv 0) (pa_cons pe_int pa_nil))) (pa_cons (pv 2) (pa_cons (pv 3) pa_nil)))))
            (pss_cons (ps_set (i := 5) sc_law.nd rfl (Or.inl rfl) (pe_lst (pa_cons (pc0 D_law_mixed hr (pa_cons (pc0 D_law_cell_at hr (pa_cons (pv 0) (pa_cons pe_int pa_nil))) (pa_cons pe_int pa_nil))) (pa_cons (pc0 D_law_mixed hr (pa_cons (pc0 D_law_cell_at hr (pa_cons (pv 0) (pa_cons pe_int pa_nil))) (pa_cons pe_int pa_nil))) pa_nil))))
            (pss_cons (ps_set (i := 6) sc_law.nd rfl (Or.inl rfl) (pc0 D_law_mixed hr (pa_cons (pc0 D_law_cell_at hr (pa_cons (pv 0) (pa_cons pe_int pa_nil))) (pa_cons pe_int pa_nil))))
            (Evl.pss_cut (ps_if (pt_cmpR op_gt (pe_op op_mod (pc0 D_law_cell_at hr (pa_cons (pv 0) (pa_cons pe_int pa_nil))) pe_int) pe_int (nomark _)) (pss_one (ps_set (i := 6) sc_law.nd rfl (Or.inl rfl) (pe_callB (call_max2 rfl) (by rfl) T.b_max (by decide +kernel) (pa_cons pe_int (pa_cons (pe_op op_sub (pe_op op_add (pe_ix ix_tup (pe_ix ix_list (pv 4) (pe_op op_mod (pe_op op_fdiv (pc0 D_law_cell_at hr (pa_cons (pv 0) (pa_cons pe_int pa_nil))) pe_int) (pv 2)) (fun _ _ => rfl)) pe_int (fun _ _ => rfl)) pe_int) (pe_op op_mod (pc0 D_law_cell_at hr (pa_cons (pv 0) (pa_cons pe_int pa_nil))) pe_int)) pa_nil))))) pss_nil)
            (pss_cons (ps_set (i := 7) sc_law.nd rfl (Or.inl rfl) (pe_callB cr_sorted (by rfl) T.b_sorted (by decide +kernel) (pa_cons (pe_op op_cat (pv 5) (pe_lst (pa_cons (pv 6) pa_nil))) pa_nil)))
            (pss_cons (ps_set (i := 8) sc_law.nd rfl (Or.inl rfl) (pc0 D_law_sum_by hr (pa_cons (pv 4) (pa_cons (pe_ix ix_list (pv 7) pe_int (fun _ _ => rfl)) (pa_cons (pe_ix ix_list (pv 7) pe_int (fun _ _ => rfl)) pa_nil)))))
            (pss_cons (ps_set (i := 9) sc_law.nd rfl (Or.inl rfl) (pe_callTy call_list_of (by rfl) T.b_list (by decide +kernel) (pa_cons (pv 4) pa_nil)))
            (pss_cons (ps_set (i := 10) sc_law.nd rfl (Or.inl rfl) (pc0 D_grown hr (pa_cons (pv 9) (pa_cons (pe_ix ix_list (pv 7) pe_int (fun _ _ => rfl)) (pa_cons (pe_ix ix_list (pv 7) pe_int (fun _ _ => rfl)) pa_nil)))))
            (pss_cons (ps_set (i := 11) sc_law.nd rfl (Or.inl rfl) (pe_lst (pa_cons (pc0 D_grown hr (pa_cons (pv 9) (pa_cons (pe_ix ix_list (pv 7) pe_int (fun _ _ => rfl)) (pa_cons (pe_ix ix_list (pv 7) pe_int (fun _ _ => rfl)) pa_nil)))) (pa_cons (pc0 D_grown hr (pa_cons (pv 9) (pa_cons (pe_ix ix_list (pv 7) pe_int (fun _ _ => rfl)) (pa_cons (pe_ix ix_list (pv 7) pe_int (fun _ _ => rfl)) pa_nil)))) pa_nil))))
            (pss_cons (ps_if (PW.pt (pw_or (pt_not (pt_val (pc0 D_law_whole hr (pa_cons (pv 10) pa_nil)))) (pw_or (pt_not (pt_val (pc0 D_law_whole hr (pa_cons (pe_ix ix_list (pv 11) pe_int (fun _ _ => rfl)) pa_nil)))) (pw_or1 (pt_not (pt_val (pc0 D_law_whole hr (pa_cons (pe_ix ix_list (pv 11) pe_int (fun _ _ => rfl)) pa_nil)))))))) (pss_one (ps_ret pe_bl)) pss_nil)
            (pss_cons (ps_if (PW.pt (pw_or (pt_cmpR op_ne (pe_ix ix_list (pv 11) pe_int (fun _ _ => rfl)) (pc0 D_law_sum_by hr (pa_cons (pv 4) (pa_cons (pe_ix ix_list (pv 7) pe_int (fun _ _ => rfl)) (pa_cons (pe_ix ix_list (pv 7) pe_int (fun _ _ => rfl)) pa_nil)))) (nomark _)) (pw_or1 (pt_cmpR op_ne (pc0 D_grown hr (pa_cons (pv 9) (pa_cons (pe_ix ix_list (pv 7) pe_int (fun _ _ => rfl)) (pa_cons (pe_ix ix_list (pv 7) pe_int (fun _ _ => rfl)) pa_nil)))) pe_int (nomark _))))) (pss_one (ps_ret pe_bl)) pss_nil)
            (pss_one (ps_ret (pe_and (pe_cmpR op_eq (pv 10) (pv 8) (nomark _)) (pe_and (pe_cmpR op_eq (pe_op op_add (pe_ix ix_list (pv 11) pe_int (fun _ _ => rfl)) (pe_ix ix_list (pv 11) pe_int (fun _ _ => rfl))) (pv 8) (nomark _)) (pe_one (pe_cmpR (op_eqD hr.units) (pv 9) (pv 4) (nomark _))))))))))))))))))))))), ?_⟩
    walk_at "rd"
    refine ⟨fun σ H1 => H1 = H ∧ ∃ many : Int, 1 ≤ many ∧ many ≤ 60 ∧ σ = [some (.ref a), some (.int (cellAt ns 0)), some (.int many), none, none, none, none, none, none, none, none, none], ?_, ?_⟩
    · walk_at "rd"
      refine if_eq (fun c => ?_) (fun c => ?_)
      · walk_at "rd"
        exact ⟨_, by omega, by omega, rfl⟩
      · exact ⟨rfl, _, by omega, by omega, rfl⟩
    rintro σ H1 ⟨rfl, many, m1, m2, rfl⟩
    refine ⟨fun σ H2 => H2 = H1 ∧ ∃ wide : Int, 0 < wide ∧ wide ≤ 1600 ∧ σ = [some (.ref a), some (.int (cellAt ns 0)), some (.int many), some (.int wide), none, none, none, none, none, none, none, none], ?_, ?_⟩
    · walk_at "rd"
      refine if_eq (fun c => ?_) (fun c => ?_)
      · exact ⟨rfl, _, by omega, by omega, rfl⟩
      · exact ⟨rfl, _, by omega, by omega, rfl⟩
    rintro σ H2 ⟨rfl, wide, w1, w2, rfl⟩
    refine ⟨_, rfl, a, ns, _, rfl, hS, by decide, _, rfl, _, rfl, _, _, _, rfl, m1, by omega, w1, fun l ts H3 s1 hl R er => ?_⟩
    have hS3 := s1.seq hS
    have g : Good (vals ts) := by rw [er]; exact rowBy_good w1
    have len : (vals ts).length = many.toNat := by rw [er]; exact rowBy_len m1
    have len2 : ts.length = many.toNat := by rw [← vals_len]; exact len
    have last : lastDay (vals ts) ≤ 100000 - 1 := by
      have h1 : lastDay (vals ts) ≤ (many - 1) * wide := by rw [er]; exact rowBy_last w1 m1
      have h2 : (many - 1) * wide ≤ 59 * 1600 := Int.mul_le_mul (by omega) w2 (by omega) (by omega)
      omega
    refine ⟨_, rfl, a, ns, _, rfl, hS3, by decide, _, _, rfl, by decide, _, rfl, a, ns, _, rfl, hS3, by decide, _, _, rfl, by decide, szl 2, fun l1 hl1 => ?_⟩
    have hS4 := (Same.new (o := .lst [.int (mixed (cellAt ns 3) 100001), .int (mixed (cellAt ns 4) 100001)]) hl1).seq hS3
    have R4 := R.same (Same.new (o := .lst [.int (mixed (cellAt ns 3) 100001), .int (mixed (cellAt ns 4) 100001)]) hl1)
    have hL4 : (L2.upd H3 l1 (.lst [.int (mixed (cellAt ns 3) 100001), .int (mixed (cellAt ns 4) 100001)])) l1 = _ := upd_same
    generalize L2.upd H3 l1 (.lst [.int (mixed (cellAt ns 3) 100001), .int (mixed (cellAt ns 4) 100001)]) = H4 at hS4 R4 hL4 ⊢
    have b1 := mixed_ge (c := cellAt ns 3) (m := 100001) (by decide)
    have b2 := mixed_lt (c := cellAt ns 3) (m := 100001) (by decide)
    have b3 := mixed_ge (c := cellAt ns 4) (m := 100001) (by decide)
    have b4 := mixed_lt (c := cellAt ns 4) (m := 100001) (by decide)
    have b5 := mixed_ge (c := cellAt ns 5) (m := 100001) (by decide)
    have b6 := mixed_lt (c := cellAt ns 5) (m := 100001) (by decide)
    generalize mixed (cellAt ns 3) 100001 = x3 at b1 b2 hL4 ⊢
    generalize mixed (cellAt ns 4) 100001 = x4 at b3 b4 hL4 ⊢
    refine ⟨_, rfl, a, ns, _, rfl, hS4, by decide, _, _, rfl, by decide, fun σ H5 => H5 = H4 ∧ ∃ mid : Int, 0 ≤ mid ∧ mid ≤ 100000 ∧ σ = [some (.ref a), some (.int (cellAt ns 0)), some (.int many), some (.int wide), some (.ref l), some (.ref l1), some (.int mid), none, none, none, none, none], ?_, ?_⟩
    · walk_at "rd"
      refine ifd (fun c => ?_) (fun c => ?_)
      · have p0 : 0 ≤ cellAt ns 5 / 3 % many := Int.emod_nonneg _ (by omega)
        have p1 : cellAt ns 5 / 3 % many < many := Int.emod_lt_of_pos _ (by omega)
        obtain ⟨j, ej⟩ : ∃ j : Nat, cellAt ns 5 / 3 % many = (j : Int) := ⟨(cellAt ns 5 / 3 % many).toNat, by omega⟩
        obtain ⟨p, hp⟩ := get_of (l := vals ts) (j := j) (by omega)
        obtain ⟨b, hb, hbp⟩ := R4.at ej hp
        have hpl := g.le_last (List.mem_of_getElem? hp)
        refine ⟨_, rfl, _, rfl, a, ns, _, rfl, hS4, by decide, _, _, rfl, rfl, dv, _, rfl, _, _, rfl, rfl, by omega, l, _, _, _, rfl, rfl, R4.seq, hb, b, _, _, _, rfl, rfl, SqT.of hbp, at0 rfl, ?_⟩
        walk_at "rd"
        refine ⟨_, ?_, ?_, rfl⟩
        · split <;> omega
        · split <;> omega
      · exact ⟨rfl, _, by omega, by omega, rfl⟩
    rintro σ H5 ⟨rfl, mid, d0, d1, rfl⟩
    refine ⟨_, rfl, _, rfl, szl 1, fun l2 hl2 => ?_⟩
    have n12 : l1 ≠ l2 := ne_of_none hL4 hl2
    refine ⟨l1, l2, [V.int x3, V.int x4], [V.int mid], rfl, rfl, by rw [L2.upd_ne n12]; exact hL4, upd_same, by show 3 ≤ sizeLine; decide, fun l3 hl3 => ?_⟩
    refine ⟨l3, [x3, x4, mid], rfl, SqL.of upd_same, by show 3 < 64; decide, fun ns' l4 pm pw hl4 => ?_⟩
    obtain ⟨x, y, z, rfl, z1, z2, z3, z4⟩ := perm3 (lo := 0) (hi := 100000) pm pw (by omega) (by omega) (by omega)
    have s5 : Same H5 (L2.upd (L2.upd (L2.upd H5 l2 (.lst [.int mid])) l3 (.lst ([.int x3, .int x4] ++ [.int mid]))) l4 (.lst ([x, y, z].map V.int))) := ((Same.new hl2).upd hl3).upd hl4
    have R6 := R4.same s5
    have hD : (L2.upd (L2.upd (L2.upd H5 l2 (.lst [.int mid])) l3 (.lst ([.int x3, .int x4] ++ [.int mid]))) l4 (.lst ([x, y, z].map V.int))) l4 = some (.lst [.int x, .int y, .int z]) := upd_same
    generalize (L2.upd (L2.upd (L2.upd H5 l2 (.lst [.int mid])) l3 (.lst ([V.int x3, V.int x4] ++ [V.int mid]))) l4 (.lst ([x, y, z].map V.int))) = H6 at R6 hD ⊢
    have d6 : SqL K H6 l4 [.int x, .int y, .int z] := SqL.of hD
    refine ⟨_, rfl, _, rfl, l4, _, _, _, rfl, rfl, d6, at0 rfl, _, rfl, l4, _, _, _, rfl, rfl, d6, at_of (j := 2) rfl rfl, l, ts, x, z, rfl, R6, by omega, g, z1, by omega, ?_⟩
    refine ⟨_, rfl, l, _, rfl, .inl R6.seq, fun lh hlh => ?_⟩
    have s7 : Same H6 (L2.upd H6 lh (.lst (rowV ts))) := Same.new hlh
    have R7 := R6.same s7
    have Rh : Row (L2.upd H6 lh (.lst (rowV ts))) lh ts := ⟨upd_same, R7.prs⟩
    have d7 := s7.seq d6
    generalize L2.upd H6 lh (.lst (rowV ts)) = H7 at s7 R7 Rh d7 ⊢
    refine ⟨_, rfl, _, rfl, l4, _, _, _, rfl, rfl, d7, at0 rfl, _, rfl, l4, _, _, _, rfl, rfl, d7, at_of (j := 2) rfl rfl, lh, ts, x, z, rfl, Rh, by omega, g, z1, by omega, ?_⟩
    refine ⟨_, rfl, _, rfl, l4, _, _, _, rfl, rfl, d7, at0 rfl, _, rfl, l4, _, _, _, rfl, rfl, d7, at_of (j := 1) rfl rfl, lh, ts, x, y, rfl, Rh, by omega, g, z1, by omega, ?_⟩
    refine ⟨_, rfl, _, rfl, l4, _, _, _, rfl, rfl, d7, at_of (j := 1) rfl rfl, _, rfl, l4, _, _, _, rfl, rfl, d7, at_of (j := 2) rfl rfl, lh, ts, y, z, rfl, Rh, by omega, g, by omega, by omega, ?_⟩
    refine ⟨szl 2, fun l8 hl8 => ?_⟩
    have s8 : Same H7 (L2.upd H7 l8 (.lst [.int (gsum (vals ts) x y), .int (gsum (vals ts) y z)])) := Same.new hl8
    have hE : (L2.upd H7 l8 (.lst [.int (gsum (vals ts) x y), .int (gsum (vals ts) y z)])) l8 = _ := upd_same
    have d8 := s8.seq d7
    have R8 := R7.same s8
    have Rh8 := Rh.same s8
    generalize L2.upd H7 l8 (.lst [.int (gsum (vals ts) x y), .int (gsum (vals ts) y z)]) = H8 at s8 d8 R8 Rh8 hE ⊢
    -- the tests
    refine ⟨_, rfl, _, rfl, true, rfl, ifnT ?_⟩
    refine ⟨_, rfl, l8, _, _, _, rfl, rfl, SqL.of hE, at0 rfl, _, rfl, true, rfl, ifnT ?_⟩
    refine ⟨_, rfl, l8, _, _, _, rfl, rfl, SqL.of hE, at_of (j := 1) rfl rfl, _, rfl, true, rfl, ?_⟩
    show (if (!true) = true then _ else _)
    refine ifnT ?_
    refine ⟨_, rfl, l8, _, _, _, rfl, rfl, SqL.of hE, at0 rfl, _, rfl, _, rfl, l4, _, _, _, rfl, rfl, d8, at0 rfl, _, rfl, l4, _, _, _, rfl, rfl, d8, at_of (j := 1) rfl rfl, l, ts, x, y, rfl, R8, by omega, g, z1, by omega, rfl, _, rfl, ?_⟩
    refine if_ne (fun c => absurd rfl c) fun _ => ?_
    refine ⟨_, rfl, _, rfl, l4, _, _, _, rfl, rfl, d8, at_of (j := 1) rfl rfl, _, rfl, l4, _, _, _, rfl, rfl, d8, at_of (j := 1) rfl rfl, lh, ts, y, y, rfl, Rh8, by omega, g, by omega, by omega, rfl, _, rfl, ?_⟩
    refine if_ne (fun c => absurd (gsum_self _ _) c) fun _ => ?_
    refine ⟨_, rfl, _, rfl, rfl, _, rfl, ?_⟩
    rw [eqInt rfl]
    refine iteT ⟨_, rfl, l8, _, _, _, rfl, rfl, SqL.of hE, at0 rfl, _, rfl, l8, _, _, _, rfl, rfl, SqL.of hE, at_of (j := 1) rfl rfl, _, _, rfl, rfl, _, rfl, rfl, _, rfl, ?_⟩
    rw [eqInt (gsum_split (by omega) (by omega)).symm]
    exact iteT ⟨_, rfl, _, rfl, row_eq Rh8 R8 rfl (k _)⟩

end
theorem all_mk {l : PySem.W.OpenLaw} {w : World} {K : PySem.W.Frag} {h : Heap} {mg : Str → Option Value} (X : K.In h) (G : h.Ns mainGlobals mg) {fa f_grown f_law_cell_at f_law_whole f_law_mixed f_law_rate_by f_law_row_by f_law_sum_by f_law : Addr}
    {od_grown an_grown : Option Addr} {sl_grown : Array (Option Value)} {oc_grown kV_grown dc_grown pm_grown cd_grown ct_grown : Value}
    {od_law_cell_at an_law_cell_at : Option Addr} {sl_law_cell_at : Array (Option Value)} {oc_law_cell_at kV_law_cell_at dc_law_cell_at pm_law_cell_at cd_law_cell_at ct_law_cell_at : Value}
    {od_law_whole an_law_whole : Option Addr} {sl_law_whole : Array (Option Value)} {oc_law_whole kV_law_whole dc_law_whole pm_law_whole cd_law_whole ct_law_whole : Value}
    {od_law_mixed an_law_mixed : Option Addr} {sl_law_mixed : Array (Option Value)} {oc_law_mixed kV_law_mixed dc_law_mixed pm_law_mixed cd_law_mixed ct_law_mixed : Value}
    {od_law_rate_by an_law_rate_by : Option Addr} {sl_law_rate_by : Array (Option Value)} {oc_law_rate_by kV_law_rate_by dc_law_rate_by pm_law_rate_by cd_law_rate_by ct_law_rate_by : Value}
    {od_law_row_by an_law_row_by : Option Addr} {sl_law_row_by : Array (Option Value)} {oc_law_row_by kV_law_row_by dc_law_row_by pm_law_row_by cd_law_row_by ct_law_row_by : Value}
    {od_law_sum_by an_law_sum_by : Option Addr} {sl_law_sum_by : Array (Option Value)} {oc_law_sum_by kV_law_sum_by dc_law_sum_by pm_law_sum_by cd_law_sum_by ct_law_sum_by : Value}
    {od_law an_law : Option Addr} {sl_law : Array (Option Value)} {oc_law kV_law dc_law pm_law cd_law ct_law : Value} (hfa : mg "law" = some (.ref fa))
    (z_len : PySem.W.nsIn K mainGlobals "len" = some none)
    (z_max : PySem.W.nsIn K mainGlobals "max" = some none)
    (z_int : PySem.W.nsIn K mainGlobals "int" = some none)
    (z_bool : PySem.W.nsIn K mainGlobals "bool" = some none)
    (z_list : PySem.W.nsIn K mainGlobals "list" = some none)
    (z_range : PySem.W.nsIn K mainGlobals "range" = some none)
    (z_isinstance : PySem.W.nsIn K mainGlobals "isinstance" = some none)
    (z_sorted : PySem.W.nsIn K mainGlobals "sorted" = some none)
    (at_grown : PySem.W.nsIn K mainGlobals "grown" = some (some (.ref f_grown)))
    (lk_grown : K.lookup f_grown = some ⟨oc_grown, od_grown, .func (PySem.W.fnOf "grown" "grown" (defArgs s_grown) (defBody s_grown) (defScope s_grown) .none kV_grown dc_grown pm_grown an_grown cd_grown ct_grown), sl_grown⟩)
    (cd_grown_in : PySem.W.codeIn K cd_grown "grown" = true)
    (kp_grown : PySem.W.keepIn K (.ref f_grown) = true)
    (at_law_cell_at : PySem.W.nsIn K mainGlobals "_law_cell_at" = some (some (.ref f_law_cell_at)))
    (lk_law_cell_at : K.lookup f_law_cell_at = some ⟨oc_law_cell_at, od_law_cell_at, .func (PySem.W.fnOf "_law_cell_at" "_law_cell_at" (defArgs s_law_cell_at) (defBody s_law_cell_at) (defScope s_law_cell_at) .none kV_law_cell_at dc_law_cell_at pm_law_cell_at an_law_cell_at cd_law_cell_at ct_law_cell_at), sl_law_cell_at⟩)
    (cd_law_cell_at_in : PySem.W.codeIn K cd_law_cell_at "_law_cell_at" = true)
    (kp_law_cell_at : PySem.W.keepIn K (.ref f_law_cell_at) = true)
    (at_law_whole : PySem.W.nsIn K mainGlobals "_law_whole" = some (some (.ref f_law_whole)))
    (lk_law_whole : K.lookup f_law_whole = some ⟨oc_law_whole, od_law_whole, .func (PySem.W.fnOf "_law_whole" "_law_whole" (defArgs s_law_whole) (defBody s_law_whole) (defScope s_law_whole) .none kV_law_whole dc_law_whole pm_law_whole an_law_whole cd_law_whole ct_law_whole), sl_law_whole⟩)
    (cd_law_whole_in : PySem.W.codeIn K cd_law_whole "_law_whole" = true)
    (kp_law_whole : PySem.W.keepIn K (.ref f_law_whole) = true)
    (at_law_mixed : PySem.W.nsIn K mainGlobals "_law_mixed" = some (some (.ref f_law_mixed)))
    (lk_law_mixed : K.lookup f_law_mixed = some ⟨oc_law_mixed, od_law_mixed, .func (PySem.W.fnOf "_law_mixed" "_law_mixed" (defArgs s_law_mixed) (defBody s_law_mixed) (defScope s_law_mixed) .none kV_law_mixed dc_law_mixed pm_law_mixed an_law_mixed cd_law_mixed ct_law_mixed), sl_law_mixed⟩)
    (cd_law_mixed_in : PySem.W.codeIn K cd_law_mixed "_law_mixed" = true)
    (kp_law_mixed : PySem.W.keepIn K (.ref f_law_mixed) = true)
    (at_law_rate_by : PySem.W.nsIn K mainGlobals "_law_rate_by" = some (some (.ref f_law_rate_by)))
    (lk_law_rate_by : K.lookup f_law_rate_by = some ⟨oc_law_rate_by, od_law_rate_by, .func (PySem.W.fnOf "_law_rate_by" "_law_rate_by" (defArgs s_law_rate_by) (defBody s_law_rate_by) (defScope s_law_rate_by) .none kV_law_rate_by dc_law_rate_by pm_law_rate_by an_law_rate_by cd_law_rate_by ct_law_rate_by), sl_law_rate_by⟩)
    (cd_law_rate_by_in : PySem.W.codeIn K cd_law_rate_by "_law_rate_by" = true)
    (kp_law_rate_by : PySem.W.keepIn K (.ref f_law_rate_by) = true)
    (at_law_row_by : PySem.W.nsIn K mainGlobals "_law_row_by" = some (some (.ref f_law_row_by)))
    (lk_law_row_by : K.lookup f_law_row_by = some ⟨oc_law_row_by, od_law_row_by, .func (PySem.W.fnOf "_law_row_by" "_law_row_by" (defArgs s_law_row_by) (defBody s_law_row_by) (defScope s_law_row_by) .none kV_law_row_by dc_law_row_by pm_law_row_by an_law_row_by cd_law_row_by ct_law_row_by), sl_law_row_by⟩)
    (cd_law_row_by_in : PySem.W.codeIn K cd_law_row_by "_law_row_by" = true)
    (kp_law_row_by : PySem.W.keepIn K (.ref f_law_row_by) = true)
    (at_law_sum_by : PySem.W.nsIn K mainGlobals "_law_sum_by" = some (some (.ref f_law_sum_by)))
    (lk_law_sum_by : K.lookup f_law_sum_by = some ⟨oc_law_sum_by, od_law_sum_by, .func (PySem.W.fnOf "_law_sum_by" "_law_sum_by" (defArgs s_law_sum_by) (defBody s_law_sum_by) (defScope s_law_sum_by) .none kV_law_sum_by dc_law_sum_by pm_law_sum_by an_law_sum_by cd_law_sum_by ct_law_sum_by), sl_law_sum_by⟩)
    (cd_law_sum_by_in : PySem.W.codeIn K cd_law_sum_by "_law_sum_by" = true)
    (kp_law_sum_by : PySem.W.keepIn K (.ref f_law_sum_by) = true)
    (at_law : PySem.W.nsIn K mainGlobals "law" = some (some (.ref f_law)))
    (lk_law : K.lookup f_law = some ⟨oc_law, od_law, .func (PySem.W.fnOf "law" "law" (defArgs s_law) (defBody s_law) (defScope s_law) .none kV_law dc_law pm_law an_law cd_law ct_law), sl_law⟩)
    (cd_law_in : PySem.W.codeIn K cd_law "law" = true)
    (kp_law : PySem.W.keepIn K (.ref f_law) = true) :
    ∃ fd : FuncData, (∀ (s : Shared) (v : Value), BindsTo s fd ⟨[v], []⟩ [("_law_script", v)]) ∧ ∀ base : Heap, K.In base → base.Ns mainGlobals mg → FnOk l.prog w K mg base CX0 4 fa fd ["_law_script"] (sp_law K) := by
  have e := hfa.symm.trans (PySem.W.mg_of X G at_law)
  cases e
  let T : Txt K mg := ⟨PySem.W.mg_none_of X G z_len, PySem.W.mg_none_of X G z_max, PySem.W.mg_none_of X G z_int, PySem.W.mg_none_of X G z_bool, PySem.W.mg_none_of X G z_list, PySem.W.mg_none_of X G z_range, PySem.W.mg_none_of X G z_isinstance, PySem.W.mg_none_of X G z_sorted⟩
  have F_grown := fun_mk (st := s_grown) lk_grown cd_grown_in kp_grown
  have B_grown := F_grown.binds (ps := ["rates", "start", "end"]) fun _ _ _ _ _ _ us hl => match us, hl with | [_, _, _], _ => rfl
  have F_law_cell_at := fun_mk (st := s_law_cell_at) lk_law_cell_at cd_law_cell_at_in kp_law_cell_at
  have B_law_cell_at := F_law_cell_at.binds (ps := ["_law_script", "_law_k"]) fun _ _ _ _ _ _ us hl => match us, hl with | [_, _], _ => rfl
  have F_law_whole := fun_mk (st := s_law_whole) lk_law_whole cd_law_whole_in kp_law_whole
  have B_law_whole := F_law_whole.binds (ps := ["_law_found"]) fun _ _ _ _ _ _ us hl => match us, hl with | [_], _ => rfl
  have F_law_mixed := fun_mk (st := s_law_mixed) lk_law_mixed cd_law_mixed_in kp_law_mixed
  have B_law_mixed := F_law_mixed.binds (ps := ["_law_cell", "_law_many"]) fun _ _ _ _ _ _ us hl => match us, hl with | [_, _], _ => rfl
  have F_law_rate_by := fun_mk (st := s_law_rate_by) lk_law_rate_by cd_law_rate_by_in kp_law_rate_by
  have B_law_rate_by := F_law_rate_by.binds (ps := ["_law_cell"]) fun _ _ _ _ _ _ us hl => match us, hl with | [_], _ => rfl
  have F_law_row_by := fun_mk (st := s_law_row_by) lk_law_row_by cd_law_row_by_in kp_law_row_by
  have B_law_row_by := F_law_row_by.binds (ps := ["_law_cell", "_law_many", "_law_wide"]) fun _ _ _ _ _ _ us hl => match us, hl with | [_, _, _], _ => rfl
  have F_law_sum_by := fun_mk (st := s_law_sum_by) lk_law_sum_by cd_law_sum_by_in kp_law_sum_by
  have B_law_sum_by := F_law_sum_by.binds (ps := ["_law_row", "_law_start", "_law_end"]) fun _ _ _ _ _ _ us hl => match us, hl with | [_, _, _], _ => rfl
  have F_law := fun_mk (st := s_law) lk_law cd_law_in kp_law
  have B_law := F_law.binds (ps := ["_law_script"]) fun _ _ _ _ _ _ us hl => match us, hl with | [_], _ => rfl
  refine ⟨PySem.W.fnOf "law" "law" (defArgs s_law) (defBody s_law) (defScope s_law) .none kV_law dc_law pm_law an_law cd_law ct_law, fun s v => .of_eq rfl, fun base _ _ => ?_⟩
  let D_grown : Df l.prog w K mg base CX0 1 "grown" ["rates", "start", "end"] (sp_grown T) := ⟨f_grown, _, ok_grown F_grown T , PySem.W.mg_of X G at_grown, kp_grown, B_grown⟩
  let D_law_cell_at : Df l.prog w K mg base CX0 1 "_law_cell_at" ["_law_script", "_law_k"] (sp_law_cell_at T) := ⟨f_law_cell_at, _, ok_law_cell_at F_law_cell_at T , PySem.W.mg_of X G at_law_cell_at, kp_law_cell_at, B_law_cell_at⟩
  let D_law_whole : Df l.prog w K mg base CX0 1 "_law_whole" ["_law_found"] (sp_law_whole T) := ⟨f_law_whole, _, ok_law_whole F_law_whole T , PySem.W.mg_of X G at_law_whole, kp_law_whole, B_law_whole⟩
  let D_law_mixed : Df l.prog w K mg base CX0 1 "_law_mixed" ["_law_cell", "_law_many"] (sp_law_mixed T) := ⟨f_law_mixed, _, ok_law_mixed F_law_mixed T , PySem.W.mg_of X G at_law_mixed, kp_law_mixed, B_law_mixed⟩
  let D_law_rate_by : Df l.prog w K mg base CX0 2 "_law_rate_by" ["_law_cell"] (sp_law_rate_by T) := ⟨f_law_rate_by, _, ok_law_rate_by F_law_rate_by T D_law_mixed, PySem.W.mg_of X G at_law_rate_by, kp_law_rate_by, B_law_rate_by⟩
  let D_law_row_by : Df l.prog w K mg base CX0 3 "_law_row_by" ["_law_cell", "_law_many", "_law_wide"] (sp_law_row_by T) := ⟨f_law_row_by, _, ok_law_row_by F_law_row_by T D_law_rate_by D_law_mixed, PySem.W.mg_of X G at_law_row_by, kp_law_row_by, B_law_row_by⟩
  let D_law_sum_by : Df l.prog w K mg base CX0 1 "_law_sum_by" ["_law_row", "_law_start", "_law_end"] (sp_law_sum_by T) := ⟨f_law_sum_by, _, ok_law_sum_by F_law_sum_by T , PySem.W.mg_of X G at_law_sum_by, kp_law_sum_by, B_law_sum_by⟩
  exact ok_law F_law T D_law_cell_at D_law_row_by D_law_mixed D_law_sum_by D_grown D_law_whole
theorem walk {l : PySem.W.OpenLaw} {q : Program} {loose : List Str} {XP : (Str → Option Value) → Heap → Prop} {YP : World → Heap → Prop} {d : DefRec} {K : Params → PySem.W.Frag} (hn : l.most = some 63) (hdf : d.params.defaults = [])
    (hY : ∀ (w : World) (h : Heap), YP w h → (K w.params).In h)
    (F : ∀ (w : World) (mg : Str → Option Value) (fa : Addr) (h : Heap), (K w.params).In h → h.Ns mainGlobals mg → mg d.name = some (.ref fa) →
      ∃ fd : FuncData, (∀ (s : Shared) (u : Value), BindsTo s fd ⟨[u], []⟩ [("_law_script", u)]) ∧ ∀ base : Heap, (K w.params).In base → base.Ns mainGlobals mg → FnOk l.prog w (K w.params) mg base CX0 4 fa fd ["_law_script"] (sp_law (K w.params))) :
    PySem.W.WalkO q loose XP YP l.row.toRowW d [] (fun f vs => PySem.call f vs) :=
  L2.walk_of (n := 63) (k := 4) (x := "_law_script") (CX := fun _ => CX0) (sp := fun w => sp_law (K w.params)) hn (by decide) hdf ⟨rfl, by decide, by decide⟩ hY F (fun _ _ a ns hl _ hS => ⟨a, ns, rfl, hS, hl, fun _ => rfl⟩) fun _ _ _ _ _ z => z
end Toy
open PySem PySem.W PyProof.Rows
set_option maxRecDepth 100000 in
set_option maxHeartbeats 0 in
theorem PySem.Challenge.cw_loanplan_k03_far_stretches_holds : PySem.Challenge.rw_loanplan_k03_far_stretches.Holds := by
  w_on; o_law; k_head; (case hw => w_witness2)
  k_fill
  refine Toy.walk (l := PySem.Challenge.rw_loanplan_k03_far_stretches) rfl rfl (fun w h Y => PySem.W.kIn_of Y) ?F
  case F =>
    intro w mg fa h KX G hmg
    refine' Toy.all_mk KX G hmg ?z_len ?z_max ?z_int ?z_bool ?z_list ?z_range ?z_isinstance ?z_sorted ?at_grown ?lk_grown ?cd_grown_in ?kp_grown ?at_law_cell_at ?lk_law_cell_at ?cd_law_cell_at_in ?kp_law_cell_at ?at_law_whole ?lk_law_whole ?cd_law_whole_in ?kp_law_whole ?at_law_mixed ?lk_law_mixed ?cd_law_mixed_in ?kp_law_mixed ?at_law_rate_by ?lk_law_rate_by ?cd_law_rate_by_in ?kp_law_rate_by ?at_law_row_by ?lk_law_row_by ?cd_law_row_by_in ?kp_law_row_by ?at_law_sum_by ?lk_law_sum_by ?cd_law_sum_by_in ?kp_law_sum_by ?at_law ?lk_law ?cd_law_in ?kp_law
    (case z_len => k_is)
    (case z_max => k_is)
    (case z_int => k_is)
    (case z_bool => k_is)
    (case z_list => k_is)
    (case z_range => k_is)
    (case z_isinstance => k_is)
    (case z_sorted => k_is)
    (case at_grown => k_is)
    (case lk_grown => k_is)
    (case cd_grown_in => k_is)
    (case kp_grown => k_is)
    (case at_law_cell_at => k_is)
    (case lk_law_cell_at => k_is)
    (case cd_law_cell_at_in => k_is)
    (case kp_law_cell_at => k_is)
    (case at_law_whole => k_is)
    (case lk_law_whole => k_is)
    (case cd_law_whole_in => k_is)
    (case kp_law_whole => k_is)
    (case at_law_mixed => k_is)
    (case lk_law_mixed => k_is)
    (case cd_law_mixed_in => k_is)
    (case kp_law_mixed => k_is)
    (case at_law_rate_by => k_is)
    (case lk_law_rate_by => k_is)
    (case cd_law_rate_by_in => k_is)
    (case kp_law_rate_by => k_is)
    (case at_law_row_by => k_is)
    (case lk_law_row_by => k_is)
    (case cd_law_row_by_in => k_is)
    (case kp_law_row_by => k_is)
    (case at_law_sum_by => k_is)
    (case lk_law_sum_by => k_is)
    (case cd_law_sum_by_in => k_is)
    (case kp_law_sum_by => k_is)
    (case at_law => k_is)
    (case lk_law => k_is)
    (case cd_law_in => k_is)
    (case kp_law => k_is)
