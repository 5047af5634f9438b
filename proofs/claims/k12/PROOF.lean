import PyProof.Rows.All
import Wide.All
import OpenK.AllK
import Wide.FinOn
import HandS.ForMost
import HandS.ForExc
import HandS.Evl
import HandS.IsInst
import HandS.TryMany
import HandS.TryOnly
import HandS.Style
import HandS.Conv
import HandS.FStr
import HandS.EndBits
import HandS.HotCalls
import HandS.ExcIs
import PySem.Challenge.RW_loanplan_k12_plans_refused
set_option Elab.async false
set_option linter.all false
set_option maxRecDepth 100000
set_option maxHeartbeats 4000000
/-! ### short words -/
namespace L2
open PySem PySem.Spec PyProof.Rows
section
variable {X : Cx}
/-- * of ints of any size that the machine takes -/
theorem op_mulX : OpR X (binaryOp .Mult) (rI IntMulOk fun i j => .int (i * j)) := opI fun _ _ _ _ _ _ _ hc q => mul_int q hc
end
/-- a def of the text with its promise, as its callers see it -/
structure Df (P : Program) (w : World) (K : PySem.W.Frag) (mg : Str → Option Value) (base : Heap) (CX : CXT) (k : Nat) (x : Str) (ps : List Str) (sp : Sp) where
  f : Addr
  fd : FuncData
  G : FnOk P w K mg base CX k f fd ps sp
  m : mg x = some (.ref f)
  kp : PySem.W.keepIn K (.ref f) = true
  b : Binds K fd ps []
/-- a method of the class at C -/
structure Dm (P : Program) (w : World) (K : PySem.W.Frag) (mg : Str → Option Value) (base : Heap) (CX : CXT) (k : Nat) (C : Addr) (x : Str) (ps : List Str) (sp : Sp) where
  f : Addr
  fd : FuncData
  G : FnOk P w K mg base CX k f fd ps sp
  me : Meth K C x f
  b : Binds K fd ps []
/-- the class's __init__ -/
structure Di (P : Program) (w : World) (K : PySem.W.Frag) (mg : Str → Option Value) (base : Heap) (CX : CXT) (k : Nat) (C : Addr) (x : Str) (ps : List Str) (sp : Sp) where
  f : Addr
  fd : FuncData
  G : FnOk P w K mg base CX k f fd ps sp
  mC : Mk K C f
  g : mg x = some (.ref C)
  b : Binds K fd ps []
section
variable {X : Cx} {k j : Nat} {x m : Str} {ps : List Str} {sp : Sp} {e o : Expr} {es : List Expr} {t : TA} {ta : TE} {p pos apos : Pos} {C : Addr}
/-- a call of a def that lets nothing out -/
theorem pc0 (D : Df X.prog X.w X.K X.mg X.base CX0 k x ps sp) (hr : Room j X.A) (ha : PA X (e :: es) t) (hle : k ≤ j := by decide) (hg : Gl X x := by rfl) (hdb : (x == ("__debug__" : Str)) = false := by decide) (he : starEach (e :: es) X.env = (false, eval e X.env) :: starEach es X.env := by rfl) (hpl : (backTo pos (starEach es X.env)).any (·.1) = false := by rfl) :
    PE X (.Call (.Name x p) (e :: es) [] pos) (tCall sp [] E0 t) := pe_call D.G (hr.mono hle) hg D.m D.kp D.b .nil pass0 ha hdb he hpl
/-- a call of a def that may raise, where nothing may be let out -/
theorem pcL (D : Df X.prog X.w X.K X.mg X.base (L2.CX X.prog X.w) k x ps sp) (hr : Room j X.A) (ha : PA X (e :: es) t) (hle : k ≤ j := by decide) (hg : Gl X x := by rfl) (hdb : (x == ("__debug__" : Str)) = false := by decide) (he : starEach (e :: es) X.env = (false, eval e X.env) :: starEach es X.env := by rfl) (hpl : (backTo pos (starEach es X.env)).any (·.1) = false := by rfl) :
    PE X (.Call (.Name x p) (e :: es) [] pos) (tCall sp [] E0 t) := pe_call D.G (hr.mono hle) hg D.m D.kp D.b .nil passL ha hdb he hpl
end
section
variable {X : Cx} {x : Str} {pos : Pos}
theorem pe_gint {i : Int} (hm : ∃ t, X.mg x = some (.int i t)) (hg : Gl X x := by rfl) (hd : (x == ("__debug__" : Str)) = false := by decide) : PE X (.Name x pos) (tC (.int i)) := by
  obtain ⟨t, hm⟩ := hm
  exact pe_glob hg hm ⟨t, rfl⟩ hd
theorem pe_gstr {z : Str} (hm : ∃ t, X.mg x = some (.str z t)) (hg : Gl X x := by rfl) (hd : (x == ("__debug__" : Str)) = false := by decide) : PE X (.Name x pos) (tC (.str z)) := by
  obtain ⟨t, hm⟩ := hm
  exact pe_glob hg hm ⟨t, rfl⟩ hd
end
theorem pe_gref {X : Cx} {x : Str} {pos : Pos} {a : Addr} (hm : X.mg x = some (.ref a)) (hg : Gl X x := by rfl) (hd : (x == ("__debug__" : Str)) = false := by decide) : PE X (.Name x pos) (tC (.ref a)) := pe_glob hg hm rfl hd
/-- what the top says of an own exception class -/
structure ExC (K : PySem.W.Frag) (C : Addr) : Prop where
  x : PySem.W.excIn K C [.type "ValueError", .type "Exception", .type "BaseException", .type "object"] "ValueError.__new__" = true
  k : PySem.W.keepIn K (.ref C) = true
  s : PySem.W.subIn K (.ref C) (.type "BaseException") = some true
  t : PySem.W.typeIn K (.ref C) = some (.type "type")
theorem md {j : Int} (h : 0 < j := by decide) : 0 < j := h
theorem dv {i j : Int} (h : 0 < j := by decide) (h2 : j < 1073741824 := by decide) : CDiv i j := ⟨h, h2⟩
theorem mulR {i j : Int} (h : Builtin.Int.intBits j ≤ 64 := by decide) : IntMulOk i j := IntMulOk.of_right h
theorem mulL {i j : Int} (h : Builtin.Int.intBits i ≤ 64 := by decide) : IntMulOk i j := IntMulOk.of_left h
/-! ### ifs -/
theorem ifd {c A B : Prop} [Decidable c] (h1 : c → A) (h2 : ¬ c → B) : if decide c = true then A else B := by
  by_cases h : c
  · rw [if_pos (decide_eq_true h)]
    exact h1 h
  · rw [if_neg (by rw [decide_eq_false h]; exact Bool.false_ne_true)]
    exact h2 h
theorem ifdn {c A B : Prop} [Decidable c] (h1 : ¬ c → A) (h2 : c → B) : if (!decide c) = true then A else B := by
  by_cases h : c
  · rw [if_neg (by rw [decide_eq_true h]; decide)]
    exact h2 h
  · rw [if_pos (by rw [decide_eq_false h]; rfl)]
    exact h1 h
theorem if_eq {i j : Int} {A B : Prop} (h1 : i = j → A) (h2 : i ≠ j → B) : if decide (V.int i = V.int j) = true then A else B := ifd (fun h => h1 (V.int.inj h)) (fun h => h2 fun e => h (by rw [e]))
theorem if_ne {i j : Int} {A B : Prop} (h1 : i ≠ j → A) (h2 : i = j → B) : if (!decide (V.int i = V.int j)) = true then A else B := ifdn (fun h => h1 fun e => h (by rw [e])) (fun h => h2 (V.int.inj h))
theorem ifb {b : Bool} {A B : Prop} (h1 : b = true → A) (h2 : b = false → B) : if b = true then A else B := by
  cases b with
  | true => rw [if_pos rfl]; exact h1 rfl
  | false => rw [if_neg Bool.false_ne_true]; exact h2 rfl
theorem ifnT {A B : Prop} (h : B) : if (!true) = true then A else B := h
theorem ifnF {A B : Prop} (h : A) : if (!false) = true then A else B := h
theorem decT {c : Prop} [Decidable c] (h : c) : decide c = true := decide_eq_true h
/-- what follows, of an equal value -/
theorem vq {Q : V → Hp → Prop} {v u : V} {H : Hp} (e : v = u) (q : Q u H) : Q v H := by
  rw [e]
  exact q
theorem eqInt {i j : Int} (h : i = j) : decide (V.int i = V.int j) = true := decide_eq_true (by rw [h])
/-! ### heaps -/
theorem Same.upd {H H' : Hp} (e : Same H H') {p : Addr} {o : HO} (h : H' p = none) : Same H (L2.upd H' p o) := fun b u q => by
  rw [upd_ne (ne_of_none (e b u q) h)]
  exact e b u q
theorem Same.new {H : Hp} {p : Addr} {o : HO} (h : H p = none) : Same H (L2.upd H p o) := Same.upd (Same.refl H) h
/-- an object that H does not know may change -/
theorem Same.mut {H H' : Hp} (e : Same H H') {p : Addr} {o : HO} (h : H p = none) : Same H (L2.upd H' p o) := fun b u q => by
  rw [upd_ne (ne_of_none q h)]
  exact e b u q
theorem Same.seqT {K : PySem.W.Frag} {H H' : Hp} {a : Addr} {xs : List V} (e : Same H H') (h : SqT K H a xs) : SqT K H' a xs := by
  rcases h with (h | ⟨o, h⟩) | h
  · exact .inl (.inl (e _ _ h))
  · exact .inl (.inr ⟨o, e _ _ h⟩)
  · exact .inr h
theorem pow62 {i : Int} (h0 : 0 ≤ i) (h1 : i ≤ 1000000) : -(2 ^ 62) ≤ i ∧ i < 2 ^ 62 := ⟨by omega, by omega⟩
theorem sz_small {n : Nat} (h : n ≤ 100000) : n ≤ sizeLine := Nat.le_trans h (by decide)
theorem szl {xs : List V} (n : Nat) (h : xs.length = n := by rfl) (h2 : n ≤ 100000 := by decide) : xs.length ≤ sizeLine := by rw [h]; exact sz_small h2
theorem sz_lt {n : Nat} (h : n < 100000) : n < sizeLine := Nat.lt_of_lt_of_le h (by decide)
theorem at0 {xs : List V} {v : V} (h : xs[0]? = some v) : atI xs 0 = some v := atI_nat (j := 0) h
theorem at_m {α : Type} {f : α → V} {l : List α} {z : Int} {j : Nat} {a : α} (e : z = (j : Int)) (h : l[j]? = some a) : atI (l.map f) z = some (f a) := at_of e (by rw [List.getElem?_map, h]; rfl)
theorem map_get {α : Type} {f : α → V} {l : List α} {j : Nat} {v : V} (h : (l.map f)[j]? = some v) : ∃ a, l[j]? = some a ∧ v = f a := by
  rw [List.getElem?_map] at h
  cases e : l[j]? with
  | none => rw [e] at h; cases h
  | some a => rw [e] at h; exact ⟨a, rfl, (Option.some.inj h).symm⟩
end L2

local macro_rules | `(tactic| walk_at "rd1") => `(tactic| first
  | refine ⟨_, rfl, ?_⟩
  | refine ⟨_, _, rfl, rfl, ?_⟩
  | refine ⟨L2.dv, ?_⟩
  | refine ⟨L2.md, ?_⟩
  | refine ⟨L2.mulL, ?_⟩
  | refine ⟨L2.mulR, ?_⟩
  | refine ⟨rfl, ?_⟩
  | refine ⟨_, _, _, rfl, by assumption, by decide, ?_⟩
  | refine ⟨_, _, rfl, ?_⟩)
local macro_rules | `(tactic| walk_at "rd") => `(tactic| repeat (walk_at "rd1"))
/-! ### the mathematics: what the program and the laws reckon, as plain functions -/
namespace Toy
/-- a cell of the script -/
def cellAt (ns : List Int) (k : Int) : Int := ns.getD k.toNat 0
def mixed (c m : Int) : Int := (c * 48271 + 12345) % 2147483647 % m
theorem mixed_ge {c m : Int} (h : 0 < m) : 0 ≤ mixed c m := Int.emod_nonneg _ (by omega)
theorem mixed_lt {c m : Int} (h : 0 < m) : mixed c m < m := Int.emod_lt_of_pos _ h
def rateBy (c : Int) : Int := if c % 5 = 0 then ([0, 1, 99999, 100000] : List Int).getD (c / 5 % 4).toNat 0 else if c % 5 = 1 then c / 5 % 400 else mixed c 100001
theorem rateBy_ok (c : Int) : 0 ≤ rateBy c ∧ rateBy c ≤ 100000 := by
  unfold rateBy
  split
  · have h0 : 0 ≤ c / 5 % 4 := by omega
    have h1 : c / 5 % 4 < 4 := by omega
    obtain ⟨j, ej⟩ : ∃ j : Nat, c / 5 % 4 = (j : Int) := ⟨(c / 5 % 4).toNat, by omega⟩
    rw [ej]
    have hj : j < 4 := by omega
    match j, hj with
    | 0, _ => decide
    | 1, _ => decide
    | 2, _ => decide
    | 3, _ => decide
  · split
    · omega
    · have h1 := mixed_ge (c := c) (m := 100001) (by decide)
      have h2 := mixed_lt (c := c) (m := 100001) (by decide)
      omega
abbrev Pr := Int × Int
/-- the last pair's day -/
def lastDay (ps : List Pr) : Int := (ps.getLastD (0, 0)).1
def rowUp (c wide : Int) : Nat → List Pr
  | 0 => [(0, rateBy c)]
  | n + 1 => rowUp c wide n ++ [(lastDay (rowUp c wide n) + 1 + mixed (c + 13 * ((n : Int) + 1)) wide, rateBy (c / 7 + 31 * ((n : Int) + 1)))]
def rowBy (c many wide : Int) : List Pr := rowUp c wide (many - 1).toNat
theorem rowUp_len (c wide : Int) : ∀ n, (rowUp c wide n).length = n + 1
  | 0 => rfl
  | n + 1 => by
    show (rowUp c wide n ++ [_]).length = _
    rw [List.length_append, rowUp_len c wide n]
    rfl
/-- the days go up, behind d -/
def Up : Int → List Pr → Prop
  | _, [] => True
  | d, p :: r => d < p.1 ∧ Up p.1 r
theorem Up.snoc : ∀ {d : Int} {ps : List Pr} {p : Pr}, Up d ps → (ps.getLastD (d, 0)).1 < p.1 → Up d (ps ++ [p])
  | d, [], p, _, h => ⟨h, trivial⟩
  | d, q :: r, p, h, h2 => by
    refine ⟨h.1, Up.snoc (d := q.1) (ps := r) h.2 ?_⟩
    cases r with
    | nil => exact h2
    | cons a b => exact h2
/-- a good row of rates -/
structure Good (ps : List Pr) : Prop where
  ne : ∃ r rest, ps = (0, r) :: rest
  up : Up (-1) ps
  rate : ∀ p ∈ ps, 0 ≤ p.2 ∧ p.2 ≤ 100000
theorem getLastD_append {α : Type} (l : List α) (a d : α) : (l ++ [a]).getLastD d = a := by
  rw [List.getLastD_eq_getLast?, List.getLast?_append]
  rfl
theorem lastDay_ge {ps : List Pr} (g : Good ps) : 0 ≤ lastDay ps := by
  obtain ⟨r, rest, rfl⟩ := g.ne
  have h2 : Up 0 rest := g.up.2
  clear g
  have go : ∀ (l : List Pr) (q : Pr), 0 ≤ q.1 → Up q.1 l → 0 ≤ ((q :: l).getLastD (0, 0)).1 := by
    intro l
    induction l with
    | nil => intro q h _; exact h
    | cons a b ih => intro q h u; exact ih a (by have := u.1; omega) u.2
  exact go rest (0, r) (by show (0 : Int) ≤ 0; decide) h2
theorem getLastD_ne {α : Type} : ∀ {l : List α} (_ : l ≠ []) (a b : α), l.getLastD a = l.getLastD b
  | [], h, _, _ => absurd rfl h
  | _ :: _, _, _, _ => rfl
theorem Good.snoc {ps : List Pr} {p : Pr} (g : Good ps) (h : lastDay ps < p.1) (h0 : 0 ≤ p.2) (h1 : p.2 ≤ 100000) : Good (ps ++ [p]) := by
  refine ⟨?_, g.up.snoc ?_, ?_⟩
  · obtain ⟨r, rest, rfl⟩ := g.ne
    exact ⟨r, rest ++ [p], rfl⟩
  · obtain ⟨r, rest, e⟩ := g.ne
    rw [getLastD_ne (by rw [e]; simp) _ (0, 0)]
    exact h
  · intro q hq
    rcases List.mem_append.mp hq with e | e
    · exact g.rate q e
    · have e2 : q = p := by simpa using e
      rw [e2]
      exact ⟨h0, h1⟩
theorem rowUp_good {c wide : Int} (hw : 0 < wide) : ∀ n, Good (rowUp c wide n) ∧ lastDay (rowUp c wide n) ≤ n * wide
  | 0 => ⟨⟨⟨_, _, rfl⟩, ⟨by show (-1 : Int) < 0; decide, trivial⟩, fun p hp => by
      have e : p = (0, rateBy c) := by simpa [rowUp] using hp
      rw [e]
      exact rateBy_ok c⟩, by show (0 : Int) ≤ _; simp⟩
  | n + 1 => by
    obtain ⟨g, l⟩ := rowUp_good (c := c) hw n
    have h1 := mixed_ge (c := c + 13 * ((n : Int) + 1)) hw
    have h2 := mixed_lt (c := c + 13 * ((n : Int) + 1)) hw
    have h3 := rateBy_ok (c / 7 + 31 * ((n : Int) + 1))
    refine ⟨g.snoc (by show lastDay _ < lastDay _ + 1 + _; omega) h3.1 h3.2, ?_⟩
    unfold lastDay at l ⊢
    show ((rowUp c wide n ++ [_]).getLastD (0, 0)).1 ≤ _
    rw [getLastD_append]
    show lastDay _ + 1 + _ ≤ _
    have e : ((n + 1 : Nat) : Int) * wide = n * wide + wide := by
      rw [Int.natCast_add, Int.add_mul]
      simp
    rw [e]
    unfold lastDay
    omega
/-- the rate of a day -/
def rateOn (ps : List Pr) (d : Int) : Int := ps.foldl (fun f p => if p.1 ≤ d then p.2 else f) 0
end Toy
namespace Toy
theorem rateOn_at {A B : List Pr} {p : Pr} {d : Int} (h : p.1 ≤ d) (hB : ∀ q ∈ B, d < q.1) : rateOn (A ++ p :: B) d = p.2 := by
  unfold rateOn
  rw [List.foldl_append, List.foldl_cons, if_pos h]
  generalize p.2 = x
  clear h
  induction B with
  | nil => rfl
  | cons q B ih =>
    rw [List.foldl_cons, if_neg (by have := hB q (by simp); omega)]
    exact ih fun u hu => hB u (by simp [hu])
/-- by the place in the row -/
theorem rateOn_place {ps : List Pr} {j : Nat} {p : Pr} {d : Int} (hj : ps[j]? = some p) (h : p.1 ≤ d) (hB : ∀ (i : Nat) q, j < i → ps[i]? = some q → d < q.1) : rateOn ps d = p.2 := by
  have hl := (List.getElem?_eq_some_iff.mp hj).1
  have e : ps = ps.take j ++ p :: ps.drop (j + 1) := by
    have h2 : ps[j] = p := (List.getElem?_eq_some_iff.mp hj).2
    rw [← h2, List.getElem_cons_drop, List.take_append_drop]
  rw [e]
  refine rateOn_at h fun q hq => ?_
  obtain ⟨i, hi⟩ := List.mem_iff_getElem?.mp hq
  rw [List.getElem?_drop] at hi
  exact hB (j + 1 + i) q (by omega) hi
theorem rowBy_len {c many wide : Int} (h : 1 ≤ many) : (rowBy c many wide).length = many.toNat := by
  unfold rowBy
  rw [rowUp_len]
  omega
theorem rowBy_good {c many wide : Int} (hw : 0 < wide) : Good (rowBy c many wide) := (rowUp_good hw _).1
theorem rowBy_last {c many wide : Int} (hw : 0 < wide) (h : 1 ≤ many) : lastDay (rowBy c many wide) ≤ (many - 1) * wide := by
  have := (rowUp_good (c := c) hw (many - 1).toNat).2
  have e : (((many - 1).toNat : Nat) : Int) = many - 1 := by omega
  rw [e] at this
  exact this
theorem Good.first {ps : List Pr} (g : Good ps) : ∃ r, ps[0]? = some (0, r) := by
  obtain ⟨r, rest, e⟩ := g.ne
  exact ⟨r, by rw [e]; rfl⟩
theorem get_of {α : Type} {l : List α} {j : Nat} (h : j < l.length) : ∃ a, l[j]? = some a := ⟨l[j], List.getElem?_eq_getElem h⟩
end Toy
namespace Toy
theorem cellAt_bits {ns : List Int} (hb : ∀ z ∈ ns, PySem.Builtin.Int.intBits z ≤ 1048576) (k : Int) : PySem.Builtin.Int.intBits (cellAt ns k) ≤ 1048576 := by
  unfold cellAt
  rw [List.getD_eq_getElem?_getD]
  cases e : ns[k.toNat]? with
  | none => decide
  | some z => exact hb z (List.mem_of_getElem? e)
end Toy
/-! ### rows of rates in the heap -/
namespace Toy
open PySem L2
/-- a pair's address, its day, its rate -/
abbrev Trp := Addr × Int × Int
def rowV (ts : List Trp) : List V := ts.map fun t => V.ref t.1
def vals (ts : List Trp) : List Pr := ts.map fun t => t.2
def tupV (p : Pr) : HO := .tup [.int p.1, .int p.2]
def Prs (H : Hp) (ts : List Trp) : Prop := ∀ t ∈ ts, H t.1 = some (tupV t.2)
structure Row (H : Hp) (l : Addr) (ts : List Trp) : Prop where
  lst : H l = some (.lst (rowV ts))
  prs : Prs H ts
theorem rowV_len (ts : List Trp) : (rowV ts).length = ts.length := by unfold rowV; rw [List.length_map]
theorem vals_len (ts : List Trp) : (vals ts).length = ts.length := by unfold vals; rw [List.length_map]
theorem rowV_append (a b : List Trp) : rowV (a ++ b) = rowV a ++ rowV b := by unfold rowV; rw [List.map_append]
theorem vals_append (a b : List Trp) : vals (a ++ b) = vals a ++ vals b := by unfold vals; rw [List.map_append]
theorem Prs.same {H H' : Hp} {ts : List Trp} (h : Prs H ts) (e : Same H H') : Prs H' ts := fun t ht => e _ _ (h t ht)
/-- a list may change, the pairs stay -/
theorem Prs.lst {H : Hp} {ts : List Trp} {l : Addr} {xs ys : List V} (h : Prs H ts) (hl : H l = some (.lst xs)) : Prs (L2.upd H l (.lst ys)) ts := fun t ht => by
  have q := h t ht
  rw [L2.upd_ne (ne_of q hl (by intro z; cases z))]
  exact q
theorem Row.same {H H' : Hp} {l : Addr} {ts : List Trp} (R : Row H l ts) (e : Same H H') : Row H' l ts := ⟨e _ _ R.lst, R.prs.same e⟩
theorem Row.seq {K : PySem.W.Frag} {H : Hp} {l : Addr} {ts : List Trp} (R : Row H l ts) : SqL K H l (rowV ts) := SqL.of R.lst
theorem Row.get {H : Hp} {l : Addr} {ts : List Trp} (R : Row H l ts) {j : Nat} {p : Pr} (h : (vals ts)[j]? = some p) : ∃ a, (rowV ts)[j]? = some (.ref a) ∧ H a = some (tupV p) ∧ (a, p) ∈ ts := by
  unfold vals at h
  rw [List.getElem?_map] at h
  cases e : ts[j]? with
  | none => rw [e] at h; cases h
  | some t =>
    rw [e] at h
    obtain rfl : t.2 = p := Option.some.inj h
    have m := List.mem_of_getElem? e
    exact ⟨t.1, by unfold rowV; rw [List.getElem?_map, e]; rfl, R.prs t m, m⟩
theorem Row.getV {H : Hp} {l : Addr} {ts : List Trp} (R : Row H l ts) {j : Nat} {v : V} (h : (rowV ts)[j]? = some v) : ∃ a p, v = .ref a ∧ (vals ts)[j]? = some p ∧ H a = some (tupV p) := by
  obtain ⟨t, e, rfl⟩ := map_get h
  exact ⟨t.1, t.2, rfl, by unfold vals; rw [List.getElem?_map, e]; rfl, R.prs t (List.mem_of_getElem? e)⟩
theorem Row.at {H : Hp} {l : Addr} {ts : List Trp} (R : Row H l ts) {z : Int} {j : Nat} {p : Pr} (e : z = (j : Int)) (h : (vals ts)[j]? = some p) : ∃ a, atI (rowV ts) z = some (.ref a) ∧ H a = some (tupV p) := by
  obtain ⟨a, h1, h2, _⟩ := R.get h
  exact ⟨a, at_of e h1, h2⟩
theorem snoc_of {α : Type} : ∀ {l : List α}, l ≠ [] → ∃ r a, l = r ++ [a]
  | [], h => absurd rfl h
  | [a], _ => ⟨[], a, rfl⟩
  | a :: b :: l, _ => by
    obtain ⟨r, c, e⟩ := snoc_of (l := b :: l) (by simp)
    exact ⟨a :: r, c, by rw [e]; rfl⟩
theorem Row.last {H : Hp} {l : Addr} {ts : List Trp} (R : Row H l ts) (h : ts ≠ []) : ∃ a r, atI (rowV ts) (-1) = some (.ref a) ∧ H a = some (tupV (lastDay (vals ts), r)) ∧ (vals ts).getLast? = some (lastDay (vals ts), r) := by
  obtain ⟨q, t, rfl⟩ := snoc_of h
  have e : lastDay (vals (q ++ [t])) = t.2.1 := by
    unfold lastDay
    rw [vals_append]
    exact congrArg Prod.fst (getLastD_append _ _ _)
  refine ⟨t.1, t.2.2, ?_, ?_, ?_⟩
  · rw [rowV_append]
    exact atI_last _ _
  · rw [e]
    exact R.prs t (by simp)
  · rw [e, vals_append, List.getLast?_append]
    rfl
theorem Row.snoc {H : Hp} {l p : Addr} {ts : List Trp} (R : Row H l ts) (d r : Int) (hp : H p = some (tupV (d, r))) : Row (L2.upd H l (.lst (rowV ts ++ [.ref p]))) l (ts ++ [(p, d, r)]) := by
  refine ⟨by rw [rowV_append]; exact upd_same, ?_⟩
  have q : Prs H (ts ++ [(p, d, r)]) := fun t ht => by
    rcases List.mem_append.mp ht with e | e
    · exact R.prs t e
    · obtain rfl : t = (p, d, r) := by simpa using e
      exact hp
  exact q.lst R.lst
theorem vals_ne {ts : List Trp} (h : vals ts ≠ []) : ts ≠ [] := fun e => h (by rw [e]; rfl)
theorem good_ne {ts : List Trp} (g : Good (vals ts)) : ts ≠ [] := by
  obtain ⟨r, rest, e⟩ := g.ne
  exact vals_ne (by rw [e]; simp)
/-- the data of a row -/
def prD (p : Pr) : PyData := .tuple [.int p.1, .int p.2]
def rowD (ps : List Pr) : PyData := .list (ps.map prD)
theorem prs_dp {K : PySem.W.Frag} {H : Hp} : ∀ {ts : List Trp}, Prs H ts → DpAll K H (rowV ts) ((vals ts).map prD)
  | [], _ => .nil
  | t :: r, h => .cons (.tup (SqT.of (h t (by simp))) (.cons (.int _) (.cons (.int _) .nil))) (prs_dp fun u hu => h u (by simp [hu]))
theorem Row.dp {K : PySem.W.Frag} {H : Hp} {l : Addr} {ts : List Trp} (R : Row H l ts) : Dp K H (.ref l) (rowD (vals ts)) := .lst R.seq (prs_dp R.prs)
theorem can_all {α : Type} {f : α → PyData} (h : ∀ a, (f a).canLay0 = true) : ∀ l : List α, PyData.canLayAll0 (l.map f) = true
  | [] => by simp only [List.map_nil, PyData.canLayAll0]
  | a :: l => by simp only [List.map_cons, PyData.canLayAll0, h a, can_all h l, Bool.and_self]
theorem dep_all {α : Type} {f : α → PyData} {n : Nat} (h : ∀ a, (f a).depth ≤ n) : ∀ l : List α, PyData.depthAll (l.map f) ≤ n
  | [] => by simp only [List.map_nil, PyData.depthAll, Nat.zero_le]
  | a :: l => by
    have h1 := h a
    have h2 := dep_all h l
    simp only [List.map_cons, PyData.depthAll]
    omega
theorem shaped_of {d : PyData} (h1 : d.canLay0 = true) (h2 : d.depth ≤ 64) : SeqAt.shaped d = true := by
  unfold SeqAt.shaped
  rw [h1, decide_eq_true h2]
  rfl
/-- a tuple of ints, a list of ints -/
def tupD (l : List Int) : PyData := .tuple (l.map .int)
def intsD (l : List Int) : PyData := .list (l.map .int)
theorem int_can (i : Int) : (PyData.int i).canLay0 = true := by simp only [PyData.canLay0]
theorem int_dep (i : Int) : (PyData.int i).depth ≤ 0 := by simp only [PyData.depth, Nat.le_refl]
theorem tupD_can (l : List Int) : (tupD l).canLay0 = true := by
  unfold tupD
  simp only [PyData.canLay0]
  exact can_all int_can l
theorem tupD_dep (l : List Int) : (tupD l).depth ≤ 1 := by
  unfold tupD
  simp only [PyData.depth]
  have := dep_all int_dep l
  omega
theorem intsD_can (l : List Int) : (intsD l).canLay0 = true := by
  unfold intsD
  simp only [PyData.canLay0]
  exact can_all int_can l
theorem intsD_dep (l : List Int) : (intsD l).depth ≤ 1 := by
  unfold intsD
  simp only [PyData.depth]
  have := dep_all int_dep l
  omega
theorem tupD_shaped (l : List Int) : SeqAt.shaped (tupD l) = true := shaped_of (tupD_can l) (Nat.le_trans (tupD_dep l) (by decide))
theorem intsD_shaped (l : List Int) : SeqAt.shaped (intsD l) = true := shaped_of (intsD_can l) (Nat.le_trans (intsD_dep l) (by decide))
theorem prD_eq (p : Pr) : prD p = tupD [p.1, p.2] := rfl
theorem rowD_can (ps : List Pr) : (rowD ps).canLay0 = true := by
  unfold rowD
  simp only [PyData.canLay0]
  exact can_all (fun p => tupD_can [p.1, p.2]) ps
theorem rowD_dep (ps : List Pr) : (rowD ps).depth ≤ 2 := by
  unfold rowD
  simp only [PyData.depth]
  have := dep_all (f := prD) (n := 1) (fun p => tupD_dep [p.1, p.2]) ps
  omega
theorem rowD_shaped (ps : List Pr) : SeqAt.shaped (rowD ps) = true := shaped_of (rowD_can ps) (Nat.le_trans (rowD_dep ps) (by decide))
theorem rowD_eqv (ps : List Pr) : PyData.eqv (rowD ps) (rowD ps) = true := SeqAt.eqv_refl _ (rowD_can ps)
theorem tupD_eqv (l : List Int) : PyData.eqv (tupD l) (tupD l) = true := SeqAt.eqv_refl _ (tupD_can l)
theorem intsD_eqv (l : List Int) : PyData.eqv (intsD l) (intsD l) = true := SeqAt.eqv_refl _ (intsD_can l)
theorem ints_dpAll {K : PySem.W.Frag} {H : Hp} : ∀ l : List Int, DpAll K H (l.map V.int) (l.map PyData.int)
  | [] => .nil
  | i :: l => .cons (.int i) (ints_dpAll l)
theorem tup_dp {K : PySem.W.Frag} {H : Hp} {a : Addr} {l : List Int} (h : SqT K H a (l.map V.int)) : Dp K H (.ref a) (tupD l) := .tup h (ints_dpAll l)
theorem ints_dp {K : PySem.W.Frag} {H : Hp} {a : Addr} {l : List Int} (h : SqL K H a (l.map V.int)) : Dp K H (.ref a) (intsD l) := .lst h (ints_dpAll l)
/-- two rows that say the same -/
theorem row_eq {K : PySem.W.Frag} {H : Hp} {a b : Addr} {ts us : List Trp} {Q : V → Hp → Prop} (R : Row H a ts) (S : Row H b us) (e : vals ts = vals us) (q : Q (.bl true) H) : rEqD K (.ref a) (.ref b) H Q :=
  ⟨_, _, R.dp, S.dp, rowD_shaped _, rowD_shaped _, by rw [e, rowD_eqv]; exact q⟩
theorem row_ne {K : PySem.W.Frag} {H : Hp} {a b : Addr} {ts us : List Trp} {Q : V → Hp → Prop} (R : Row H a ts) (S : Row H b us) (e : vals ts = vals us) (q : Q (.bl false) H) : rNeD K (.ref a) (.ref b) H Q :=
  ⟨_, _, R.dp, S.dp, rowD_shaped _, rowD_shaped _, by rw [e, rowD_eqv]; exact q⟩
theorem tups_eq {K : PySem.W.Frag} {H : Hp} {a b : Addr} {l : List Int} {Q : V → Hp → Prop} (h1 : SqT K H a (l.map V.int)) (h2 : SqT K H b (l.map V.int)) (q : Q (.bl true) H) : rEqD K (.ref a) (.ref b) H Q :=
  ⟨_, _, tup_dp h1, tup_dp h2, tupD_shaped _, tupD_shaped _, by rw [tupD_eqv]; exact q⟩
theorem tups_ne {K : PySem.W.Frag} {H : Hp} {a b : Addr} {l : List Int} {Q : V → Hp → Prop} (h1 : SqT K H a (l.map V.int)) (h2 : SqT K H b (l.map V.int)) (q : Q (.bl false) H) : rNeD K (.ref a) (.ref b) H Q :=
  ⟨_, _, tup_dp h1, tup_dp h2, tupD_shaped _, tupD_shaped _, by rw [tupD_eqv]; exact q⟩
theorem ints_eq {K : PySem.W.Frag} {H : Hp} {a b : Addr} {l : List Int} {Q : V → Hp → Prop} (h1 : SqL K H a (l.map V.int)) (h2 : SqL K H b (l.map V.int)) (q : Q (.bl true) H) : rEqD K (.ref a) (.ref b) H Q :=
  ⟨_, _, ints_dp h1, ints_dp h2, intsD_shaped _, intsD_shaped _, by rw [intsD_eqv]; exact q⟩
theorem ints_ne {K : PySem.W.Frag} {H : Hp} {a b : Addr} {l : List Int} {Q : V → Hp → Prop} (h1 : SqL K H a (l.map V.int)) (h2 : SqL K H b (l.map V.int)) (q : Q (.bl false) H) : rNeD K (.ref a) (.ref b) H Q :=
  ⟨_, _, ints_dp h1, ints_dp h2, intsD_shaped _, intsD_shaped _, by rw [intsD_eqv]; exact q⟩
end Toy
/-! ### sums over days -/
namespace Toy
def daySum (f : Int → Int) (s : Int) : Nat → Int
  | 0 => 0
  | n + 1 => daySum f s n + f (s + n + 1)
theorem daySum_congr {f g : Int → Int} {s : Int} : ∀ {n : Nat}, (∀ d, s < d → d ≤ s + n → f d = g d) → daySum f s n = daySum g s n
  | 0, _ => rfl
  | n + 1, h => by
    show daySum f s n + f (s + n + 1) = daySum g s n + g (s + n + 1)
    rw [daySum_congr (n := n) fun d h1 h2 => h d h1 (by omega), h (s + n + 1) (by omega) (by omega)]
theorem daySum_const {f : Int → Int} {s c : Int} : ∀ {n : Nat}, (∀ d, s < d → d ≤ s + n → f d = c) → daySum f s n = n * c
  | 0, _ => by simp [daySum]
  | n + 1, h => by
    show daySum f s n + f (s + n + 1) = _
    rw [daySum_const (n := n) fun d h1 h2 => h d h1 (by omega), h (s + n + 1) (by omega) (by omega), Int.natCast_add, Int.add_mul]
    simp
theorem daySum_add {f : Int → Int} {s : Int} (m : Nat) : ∀ n : Nat, daySum f s (m + n) = daySum f s m + daySum f (s + m) n
  | 0 => by simp [daySum]
  | n + 1 => by
    show daySum f s (m + n) + f (s + (m + n : Nat) + 1) = daySum f s m + (daySum f (s + m) n + f (s + m + n + 1))
    rw [daySum_add m n, Int.natCast_add, ← Int.add_assoc s m n]
    omega
/-- what a stretch of days brings -/
def gsum (ps : List Pr) (s e : Int) : Int := daySum (rateOn ps) s (e - s).toNat
theorem gsum_self (ps : List Pr) (s : Int) : gsum ps s s = 0 := by
  unfold gsum
  rw [Int.sub_self]
  rfl
theorem gsum_split {ps : List Pr} {s m e : Int} (h1 : s ≤ m) (h2 : m ≤ e) : gsum ps s e = gsum ps s m + gsum ps m e := by
  unfold gsum
  have e1 : (e - s).toNat = (m - s).toNat + (e - m).toNat := by omega
  have e2 : s + ((m - s).toNat : Int) = m := by omega
  rw [e1, daySum_add, e2]
theorem gsum_const {ps : List Pr} {s e c : Int} (h : s ≤ e) (hc : ∀ d, s < d → d ≤ e → rateOn ps d = c) : gsum ps s e = (e - s) * c := by
  unfold gsum
  have e1 : ((e - s).toNat : Int) = e - s := by omega
  rw [daySum_const (c := c) fun d h1 h2 => hc d h1 (by omega), e1]
theorem gsum_one {ps : List Pr} {s : Int} : gsum ps s (s + 1) = rateOn ps (s + 1) := by
  rw [gsum_const (c := rateOn ps (s + 1)) (by omega) fun d h1 h2 => by rw [show d = s + 1 by omega]]
  rw [show s + 1 - s = 1 by omega, Int.one_mul]
theorem Up.mem : ∀ {d : Int} {ps : List Pr}, Up d ps → ∀ q ∈ ps, d < q.1
  | _, [], _, q, hq => by cases hq
  | d, p :: r, h, q, hq => by
    rcases List.mem_cons.mp hq with e | e
    · rw [e]; exact h.1
    · have := Up.mem h.2 q e
      have := h.1
      omega
theorem Up.drop : ∀ {d : Int} {A B : List Pr} {p : Pr}, Up d (A ++ p :: B) → Up p.1 B
  | _, [], _, _, h => h.2
  | _, a :: A, _, _, h => Up.drop (A := A) h.2
/-- one turn of grown: behind the start s; what is summed, where it stops -/
def gStep (s : Int) (acc : Int × Int) (p : Pr) : Int × Int :=
  if (if p.1 - 1 > s then p.1 - 1 else s) < acc.2 then (acc.1 + (acc.2 - (if p.1 - 1 > s then p.1 - 1 else s)) * p.2, if p.1 - 1 > s then p.1 - 1 else s) else acc
def grown (ps : List Pr) (s e : Int) : Int := (ps.reverse.foldl (gStep s) (0, e)).1
theorem grown_go {ps : List Pr} {s e : Int} (hse : s ≤ e) (u : Up (-1) ps) : ∀ (B A : List Pr), ps = A ++ B →
    s ≤ (B.foldr (fun p acc => gStep s acc p) (0, e)).2 ∧ (B.foldr (fun p acc => gStep s acc p) (0, e)).2 ≤ e ∧
    (B.foldr (fun p acc => gStep s acc p) (0, e)).1 = gsum ps (B.foldr (fun p acc => gStep s acc p) (0, e)).2 e ∧
    ((B.foldr (fun p acc => gStep s acc p) (0, e)).2 = s ∨ ∀ q ∈ B, (B.foldr (fun p acc => gStep s acc p) (0, e)).2 < q.1)
  | [], A, h => ⟨hse, Int.le_refl _, (gsum_self _ _).symm, .inr fun q hq => by cases hq⟩
  | p :: B, A, h => by
    obtain ⟨h1, h2, h3, h4⟩ := grown_go hse u B (A ++ [p]) (by rw [h, List.append_assoc]; rfl)
    rw [List.foldr_cons]
    generalize B.foldr (fun p acc => gStep s acc p) (0, e) = r at h1 h2 h3 h4 ⊢
    obtain ⟨t, st⟩ := r
    simp only at h1 h2 h3 h4
    have hb : ∃ b, (if p.1 - 1 > s then p.1 - 1 else s) = b ∧ s ≤ b ∧ p.1 - 1 ≤ b ∧ (b = s ∨ b = p.1 - 1) := by
      refine ⟨_, rfl, ?_⟩
      split <;> omega
    obtain ⟨b, eb, b1, b2, b3⟩ := hb
    unfold gStep
    rw [eb]
    have hB : ∀ q ∈ B, p.1 < q.1 := by
      have u2 : Up (-1) (A ++ p :: B) := by rw [← h]; exact u
      exact u2.drop.mem
    by_cases c : b < st
    · rw [if_pos c]
      refine ⟨b1, by show b ≤ e; omega, ?_, ?_⟩
      · show t + (st - b) * p.2 = gsum ps b e
        rw [gsum_split (m := st) (by omega) h2, ← h3, gsum_const (c := p.2) (by omega) fun d d1 d2 => ?_]
        · omega
        · rw [h]
          refine rateOn_at (by omega) fun q hq => ?_
          rcases h4 with h4 | h4
          · omega
          · have := h4 q hq
            omega
      · show b = s ∨ ∀ q ∈ p :: B, b < q.1
        rcases b3 with b3 | b3
        · exact .inl b3
        · refine .inr fun q hq => ?_
          rcases List.mem_cons.mp hq with e1 | e1
          · rw [e1]; omega
          · have := hB q e1
            omega
    · rw [if_neg c]
      refine ⟨h1, h2, h3, ?_⟩
      show st = s ∨ ∀ q ∈ p :: B, st < q.1
      rcases h4 with h4 | h4
      · exact .inl h4
      · rcases b3 with b3 | b3
        · exact .inl (by omega)
        · refine .inr fun q hq => ?_
          rcases List.mem_cons.mp hq with e1 | e1
          · rw [e1]; omega
          · exact h4 q e1
theorem grown_eq {ps : List Pr} {s e : Int} (g : Good ps) (h0 : 0 ≤ s) (hse : s ≤ e) : grown ps s e = gsum ps s e := by
  unfold grown
  rw [List.foldl_reverse]
  obtain ⟨h1, h2, h3, h4⟩ := grown_go hse g.up ps [] rfl
  obtain ⟨r, rest, er⟩ := g.ne
  have hs : (ps.foldr (fun p acc => gStep s acc p) (0, e)).2 = s := by
    rcases h4 with h4 | h4
    · exact h4
    · have := h4 (0, r) (by rw [er]; simp)
      have : (ps.foldr (fun p acc => gStep s acc p) (0, e)).2 < 0 := this
      omega
  rw [h3, hs]
theorem rateOn_snoc {ps : List Pr} {p : Pr} {d : Int} : rateOn (ps ++ [p]) d = if p.1 ≤ d then p.2 else rateOn ps d := by
  unfold rateOn
  rw [List.foldl_append]
  rfl
theorem rateOn_ok {ps : List Pr} (hr : ∀ p ∈ ps, 0 ≤ p.2 ∧ p.2 ≤ 100000) (d : Int) : 0 ≤ rateOn ps d ∧ rateOn ps d ≤ 100000 := by
  have go : ∀ (l : List Pr) (x : Int), (∀ p ∈ l, 0 ≤ p.2 ∧ p.2 ≤ 100000) → 0 ≤ x ∧ x ≤ 100000 → 0 ≤ l.foldl (fun f p => if p.1 ≤ d then p.2 else f) x ∧ l.foldl (fun f p => if p.1 ≤ d then p.2 else f) x ≤ 100000 := by
    intro l
    induction l with
    | nil => intro x _ h; exact h
    | cons p l ih =>
      intro x hl h
      rw [List.foldl_cons]
      refine ih _ (fun q hq => hl q (by simp [hq])) ?_
      split
      · exact hl p (by simp)
      · exact h
  exact go ps 0 hr (by decide)
theorem daySum_ok {f : Int → Int} {s c : Int} (h : ∀ d, 0 ≤ f d ∧ f d ≤ c) : ∀ n : Nat, 0 ≤ daySum f s n ∧ daySum f s n ≤ n * c
  | 0 => by simp [daySum]
  | n + 1 => by
    have h1 := daySum_ok (s := s) h n
    have h2 := h (s + n + 1)
    show 0 ≤ daySum f s n + f (s + n + 1) ∧ daySum f s n + f (s + n + 1) ≤ _
    rw [Int.natCast_add, Int.add_mul]
    simp
    omega
theorem gsum_ok {ps : List Pr} (hr : ∀ p ∈ ps, 0 ≤ p.2 ∧ p.2 ≤ 100000) {s e : Int} (h : s ≤ e) : 0 ≤ gsum ps s e ∧ gsum ps s e ≤ (e - s) * 100000 := by
  have := daySum_ok (s := s) (rateOn_ok hr) (e - s).toNat
  have e1 : ((e - s).toNat : Int) = e - s := by omega
  rw [e1] at this
  exact this
end Toy
namespace Toy
theorem Good.le_last {ps : List Pr} (g : Good ps) {p : Pr} (h : p ∈ ps) : p.1 ≤ lastDay ps := by
  have go : ∀ (l : List Pr) (d : Int) (q : Pr), Up d l → q ∈ l → q.1 ≤ (l.getLastD (0, 0)).1 := by
    intro l
    induction l with
    | nil => intro d q _ h; cases h
    | cons a b ih =>
      intro d q u h
      cases b with
      | nil =>
        have e : q = a := by simpa using h
        rw [e]
        exact Int.le_refl _
      | cons c r =>
        have hl : ((a :: c :: r).getLastD (0, 0)).1 = ((c :: r).getLastD (0, 0)).1 := rfl
        rw [hl]
        rcases List.mem_cons.mp h with e | e
        · rw [e]
          have h1 := ih a.1 c u.2 (by simp)
          have := u.2.1
          omega
        · exact ih a.1 q u.2 e
  exact go ps (-1) p g.up h
theorem Up.to : ∀ {d : Int} {A : List Pr} {p : Pr} {B : List Pr}, Up d (A ++ p :: B) → ∀ q ∈ A, q.1 < p.1
  | _, [], _, _, _, _, hq => by cases hq
  | d, a :: A, p, B, u, q, hq => by
    rcases List.mem_cons.mp hq with e | e
    · rw [e]
      exact u.2.mem p (by simp)
    · exact Up.to (A := A) u.2 q e
end Toy
namespace Toy
theorem gsum_congr {ps qs : List Pr} {s e : Int} (h : ∀ d, s < d → d ≤ e → rateOn ps d = rateOn qs d) : gsum ps s e = gsum qs s e := by
  unfold gsum
  by_cases c : s ≤ e
  · exact daySum_congr fun d h1 h2 => h d h1 (by omega)
  · rw [show (e - s).toNat = 0 by omega]
    rfl
/-- the law's own way: how much each pair is more than the one ahead of it -/
def sumUp (ps : List Pr) (s e : Int) : Nat → Int
  | 0 => (ps.getD 0 (0, 0)).2 * (e - s)
  | k + 1 => if e - (if (ps.getD (k + 1) (0, 0)).1 - 1 > s then (ps.getD (k + 1) (0, 0)).1 - 1 else s) > 0 then sumUp ps s e k + ((ps.getD (k + 1) (0, 0)).2 - (ps.getD k (0, 0)).2) * (e - (if (ps.getD (k + 1) (0, 0)).1 - 1 > s then (ps.getD (k + 1) (0, 0)).1 - 1 else s)) else sumUp ps s e k
theorem getD_of {α : Type} {l : List α} {j : Nat} {a d : α} (h : l[j]? = some a) : l.getD j d = a := by
  rw [List.getD_eq_getElem?_getD, h]
  rfl
theorem sumUp_eq {ps : List Pr} {s e : Int} (g : Good ps) (h0 : 0 ≤ s) (hse : s ≤ e) : ∀ k, k < ps.length → sumUp ps s e k = gsum (ps.take (k + 1)) s e
  | 0, hk => by
    obtain ⟨r, rest, er⟩ := g.ne
    rw [er]
    show r * (e - s) = gsum [(0, r)] s e
    rw [gsum_const (c := r) hse fun d h1 h2 => ?_, Int.mul_comm]
    exact rateOn_at (A := []) (B := []) (p := (0, r)) (by show 0 ≤ d; omega) fun q hq => by cases hq
  | k + 1, hk => by
    have ih := sumUp_eq g h0 hse k (by omega)
    obtain ⟨p, hp⟩ := get_of (l := ps) (j := k + 1) hk
    obtain ⟨q, hq⟩ := get_of (l := ps) (j := k) (by omega)
    have et : ps.take (k + 1 + 1) = ps.take (k + 1) ++ [p] := by
      rw [List.take_add_one, hp]
      rfl
    have et2 : ps.take (k + 1) = ps.take k ++ [q] := by
      rw [List.take_add_one, hq]
      rfl
    have eall : ps = ps.take (k + 1) ++ p :: ps.drop (k + 2) := by
      have h2 : ps[k + 1] = p := (List.getElem?_eq_some_iff.mp hp).2
      rw [← h2, List.getElem_cons_drop, List.take_append_drop]
    have hA : ∀ u ∈ ps.take (k + 1), u.1 < p.1 := by
      have u2 : Up (-1) (ps.take (k + 1) ++ p :: ps.drop (k + 2)) := by rw [← eall]; exact g.up
      exact u2.to
    have hqp : q.1 < p.1 := hA q (by rw [et2]; simp)
    have hlo : ∀ d, d ≤ p.1 - 1 → rateOn (ps.take (k + 1) ++ [p]) d = rateOn (ps.take (k + 1)) d := fun d hd => by
      rw [rateOn_snoc, if_neg (by omega)]
    unfold sumUp
    rw [getD_of hp, getD_of hq, ih, et]
    have hb : ∃ b, (if p.1 - 1 > s then p.1 - 1 else s) = b ∧ s ≤ b ∧ p.1 - 1 ≤ b ∧ (b = s ∨ b = p.1 - 1) := by
      refine ⟨_, rfl, ?_⟩
      split <;> omega
    obtain ⟨b, eb, b1, b2, b3⟩ := hb
    rw [eb]
    by_cases c : e - b > 0
    · rw [if_pos c, gsum_split (ps := ps.take (k + 1) ++ [p]) (m := b) b1 (by omega), gsum_split (ps := ps.take (k + 1)) (m := b) b1 (by omega)]
      have e1 : gsum (ps.take (k + 1) ++ [p]) s b = gsum (ps.take (k + 1)) s b := gsum_congr fun d d1 d2 => by
        refine hlo d ?_
        omega
      have e2 : gsum (ps.take (k + 1) ++ [p]) b e = (e - b) * p.2 := gsum_const (by omega) fun d d1 d2 => by
        rw [rateOn_snoc, if_pos (by omega)]
      have e3 : gsum (ps.take (k + 1)) b e = (e - b) * q.2 := gsum_const (by omega) fun d d1 d2 => by
        rw [et2, rateOn_snoc, if_pos (by omega)]
      rw [e1, e2, e3, Int.sub_mul p.2 q.2, Int.mul_comm p.2, Int.mul_comm q.2]
      omega
    · rw [if_neg c]
      refine (gsum_congr fun d d1 d2 => hlo d ?_).symm
      omega
theorem sumUp_all {ps : List Pr} {s e : Int} (g : Good ps) (h0 : 0 ≤ s) (hse : s ≤ e) : sumUp ps s e (ps.length - 1) = gsum ps s e := by
  obtain ⟨r, rest, er⟩ := g.ne
  have hl : 0 < ps.length := by rw [er]; simp
  rw [sumUp_eq g h0 hse _ (by omega), List.take_of_length_le (by omega)]
theorem perm3 {ns : List Int} {a b c : Int} (p : ns.Perm [a, b, c]) (w : ns.Pairwise (· ≤ ·)) {lo hi : Int} (h1 : lo ≤ a ∧ a ≤ hi) (h2 : lo ≤ b ∧ b ≤ hi) (h3 : lo ≤ c ∧ c ≤ hi) :
    ∃ x y z, ns = [x, y, z] ∧ lo ≤ x ∧ x ≤ y ∧ y ≤ z ∧ z ≤ hi := by
  have hl := p.length_eq
  match ns, hl with
  | [x, y, z], _ =>
    have hb : ∀ u ∈ [x, y, z], lo ≤ u ∧ u ≤ hi := fun u hu => by
      have := p.mem_iff.mp hu
      simp only [List.mem_cons, List.not_mem_nil, or_false] at this
      rcases this with e | e | e <;> rw [e] <;> assumption
    have hx := hb x (by simp)
    have hz := hb z (by simp)
    simp only [List.pairwise_cons] at w
    exact ⟨x, y, z, rfl, hx.1, w.1 y (by simp), w.2.1 z (by simp), hz.2⟩
end Toy
/-! ### a loan: the mathematics, and how it stands in the heap -/
namespace Toy
open PySem L2
/-- what a row of rates is told -/
inductive Vd where | ok | day | rate
  deriving DecidableEq
def chk : Int → List Pr → Vd
  | a, [] => if a = -1 then .day else .ok
  | a, p :: r => if p.1 ≤ a ∨ p.1 > 100000 ∨ (a = -1 ∧ p.1 > 0) then .day else if 0 ≤ p.2 ∧ p.2 ≤ 100000 then chk p.1 r else .rate
theorem chk_nil (a : Int) : chk a [] = if a = -1 then .day else .ok := rfl
theorem chk_cons (a : Int) (p : Pr) (r : List Pr) : chk a (p :: r) = if p.1 ≤ a ∨ p.1 > 100000 ∨ (a = -1 ∧ p.1 > 0) then .day else if 0 ≤ p.2 ∧ p.2 ≤ 100000 then chk p.1 r else .rate := rfl
theorem chk_up : ∀ {ps : List Pr} {a : Int}, Up a ps → 0 ≤ a → (∀ p ∈ ps, 0 ≤ p.2 ∧ p.2 ≤ 100000) → (∀ p ∈ ps, p.1 ≤ 100000) → chk a ps = .ok
  | [], a, _, h, _, _ => by
    unfold chk
    rw [if_neg (by omega)]
  | p :: r, a, u, h, h1, h2 => by
    unfold chk
    have := u.1
    have := h2 p (by simp)
    rw [if_neg (by omega), if_pos (h1 p (by simp))]
    exact chk_up u.2 (by omega) (fun q hq => h1 q (by simp [hq])) fun q hq => h2 q (by simp [hq])
theorem chk_good {ps : List Pr} (g : Good ps) (h : lastDay ps ≤ 100000) : chk (-1) ps = .ok := by
  have h2 : ∀ p ∈ ps, p.1 ≤ 100000 := fun p hp => Int.le_trans (g.le_last hp) h
  obtain ⟨r, rest, e⟩ := g.ne
  have gu := g.up
  have gr := g.rate
  rw [e] at gu gr h2 ⊢
  unfold chk
  rw [if_neg (by simp), if_pos (gr (0, r) (by simp))]
  exact chk_up gu.2 (Int.le_refl 0) (fun q hq => gr q (by simp [hq])) fun q hq => h2 q (by simp [hq])
/-- the whole cents that settle it -/
def owedF (left begun : Int) : Int := left + (begun + 1000000 - 1) / 1000000
/-- a payment's interest, its part off the amount, what is left, what is begun -/
def payF (left begun cents : Int) : Int × Int × Int × Int :=
  if cents = owedF left begun then (owedF left begun - left, left, 0, 0)
  else ((if begun / 1000000 < cents then begun / 1000000 else cents), cents - (if begun / 1000000 < cents then begun / 1000000 else cents),
    left - (cents - (if begun / 1000000 < cents then begun / 1000000 else cents)), begun - (if begun / 1000000 < cents then begun / 1000000 else cents) * 1000000)
structure Ln where
  left : Int
  begun : Int
  day : Int
/-- a loan's numbers are in their bounds -/
structure LnOk (z : Ln) : Prop where
  l0 : 0 ≤ z.left
  l1 : z.left ≤ 1000000000000
  b0 : 0 ≤ z.begun
  d0 : 0 ≤ z.day
  d1 : z.day ≤ 100000
/-- a good row whose days are in bounds -/
structure Rok (ps : List Pr) : Prop where
  g : Good ps
  last : lastDay ps ≤ 100000
  len : ps.length ≤ 1000
/-- what is begun on a day -/
def begunAt (ps : List Pr) (z : Ln) (d : Int) : Int := z.begun + z.left * gsum ps z.day d
theorem begunAt_ge {ps : List Pr} {z : Ln} {d : Int} (h : LnOk z) (g : Good ps) (hd : z.day ≤ d) : 0 ≤ begunAt ps z d := by
  have h1 := (gsum_ok g.rate hd).1
  have h2 := Int.mul_nonneg h.l0 h1
  have := h.b0
  unfold begunAt
  omega
def payLn (ps : List Pr) (z : Ln) (d c : Int) : Ln := ⟨(payF z.left (begunAt ps z d) c).2.2.1, (payF z.left (begunAt ps z d) c).2.2.2, d⟩
theorem payF_ok {l b c : Int} (hl : 0 ≤ l) (hb : 0 ≤ b) (h1 : 1 ≤ c) (h2 : c ≤ owedF l b) : 0 ≤ (payF l b c).1 ∧ 0 ≤ (payF l b c).2.1 ∧ (payF l b c).1 + (payF l b c).2.1 = c ∧ 0 ≤ (payF l b c).2.2.1 ∧ (payF l b c).2.2.1 ≤ l ∧ 0 ≤ (payF l b c).2.2.2 ∧ (payF l b c).2.2.2 ≤ b := by
  unfold payF
  by_cases c1 : c = owedF l b
  · rw [if_pos c1]
    unfold owedF at *
    simp only
    omega
  · rw [if_neg c1]
    unfold owedF at *
    simp only
    have := Int.mul_comm (b / 1000000) 1000000
    split <;> omega
theorem payLn_ok {ps : List Pr} {z : Ln} {d c : Int} (h : LnOk z) (g : Good ps) (hd : z.day ≤ d) (hd2 : d ≤ 100000) (h1 : 1 ≤ c) (h2 : c ≤ owedF z.left (begunAt ps z d)) : LnOk (payLn ps z d c) := by
  have p := payF_ok h.l0 (begunAt_ge h g hd) h1 h2
  have := h.l1
  have := h.d0
  exact ⟨p.2.2.2.1, by show (payF z.left (begunAt ps z d) c).2.2.1 ≤ _; omega, p.2.2.2.2.2.1, by show 0 ≤ d; omega, hd2⟩
/-! ### in the heap -/
def lf (l : Addr) (z : Ln) : List (Str × V) := [("rates", .ref l), ("left", .int z.left), ("begun", .int z.begun), ("day", .int z.day)]
theorem str_ne {a b : Str} (h : decide (a = b) = false) : (a == b) = false := by
  have : ¬ a = b := of_decide_eq_false h
  exact beq_eq_false_iff_ne.mpr this
theorem lf_rates (l : Addr) (z : Ln) : (lf l z).lookup ("rates" : Str) = some (.ref l) := by simp [lf, List.lookup]
theorem lf_left (l : Addr) (z : Ln) : (lf l z).lookup ("left" : Str) = some (.int z.left) := by
  simp [lf, List.lookup, str_ne (a := "left") (b := "rates") (by decide +kernel)]
theorem lf_begun (l : Addr) (z : Ln) : (lf l z).lookup ("begun" : Str) = some (.int z.begun) := by
  simp [lf, List.lookup, str_ne (a := "begun") (b := "rates") (by decide +kernel), str_ne (a := "begun") (b := "left") (by decide +kernel)]
theorem lf_day (l : Addr) (z : Ln) : (lf l z).lookup ("day" : Str) = some (.int z.day) := by
  simp [lf, List.lookup, str_ne (a := "day") (b := "rates") (by decide +kernel), str_ne (a := "day") (b := "left") (by decide +kernel), str_ne (a := "day") (b := "begun") (by decide +kernel)]
theorem lf_no (l : Addr) (z : Ln) {m : Str} (h1 : decide (m = "rates") = false) (h2 : decide (m = "left") = false) (h3 : decide (m = "begun") = false) (h4 : decide (m = "day") = false) : (lf l z).lookup m = none := by
  simp [lf, List.lookup, str_ne h1, str_ne h2, str_ne h3, str_ne h4]
theorem putF_hit (f : Str) (v x : V) (r : List (Str × V)) : putF f v ((f, x) :: r) = (f, v) :: r := by
  show (if f = f then _ else _) = _
  rw [if_pos rfl]
theorem putF_miss {f g : Str} (h : decide (g = f) = false) (v x : V) (r : List (Str × V)) : putF f v ((g, x) :: r) = (g, x) :: putF f v r := by
  show (if g = f then _ else _) = _
  rw [if_neg (of_decide_eq_false h)]
theorem lf_putLeft (l : Addr) (z : Ln) (y : Int) : putF "left" (.int y) (lf l z) = lf l { z with left := y } := by
  unfold lf
  rw [putF_miss (by decide +kernel), putF_hit]
theorem lf_putBegun (l : Addr) (z : Ln) (y : Int) : putF "begun" (.int y) (lf l z) = lf l { z with begun := y } := by
  unfold lf
  rw [putF_miss (by decide +kernel), putF_miss (by decide +kernel), putF_hit]
theorem lf_putDay (l : Addr) (z : Ln) (y : Int) : putF "day" (.int y) (lf l z) = lf l { z with day := y } := by
  unfold lf
  rw [putF_miss (by decide +kernel), putF_miss (by decide +kernel), putF_miss (by decide +kernel), putF_hit]
theorem lf_len (l : Addr) (z : Ln) : (lf l z).length < 1000 := by show 4 < 1000; decide
theorem lf_made (l : Addr) (am : Int) : putF "day" (V.int 0) (putF "begun" (V.int 0) (putF "left" (V.int am) (putF "rates" (V.ref l) []))) = lf l ⟨am, 0, 0⟩ := by
  show putF "day" (V.int 0) (putF "begun" (V.int 0) (putF "left" (V.int am) [("rates", V.ref l)])) = _
  rw [putF_miss (by decide +kernel)]
  show putF "day" (V.int 0) (putF "begun" (V.int 0) [("rates", V.ref l), ("left", V.int am)]) = _
  rw [putF_miss (by decide +kernel), putF_miss (by decide +kernel)]
  show putF "day" (V.int 0) [("rates", V.ref l), ("left", V.int am), ("begun", V.int 0)] = _
  rw [putF_miss (by decide +kernel), putF_miss (by decide +kernel), putF_miss (by decide +kernel)]
  rfl
/-- a loan stands at x (its dict at dx), its row of rates at l -/
structure LoanAt (C : Addr) (H : Hp) (x dx l : Addr) (ts : List Trp) (z : Ln) : Prop where
  ob : H x = some (.ins C dx (lf l z))
  row : Row H l ts
theorem LoanAt.same {C : Addr} {H H' : Hp} {x dx l : Addr} {ts : List Trp} {z : Ln} (h : LoanAt C H x dx l ts z) (e : Same H H') : LoanAt C H' x dx l ts z := ⟨e _ _ h.ob, h.row.same e⟩
/-- all but what stands at x is as it was -/
def But (x : Addr) (H H' : Hp) : Prop := ∀ b o, H b = some o → b ≠ x → H' b = some o
theorem But.of {x : Addr} {H H' : Hp} (e : Same H H') : But x H H' := fun b o h _ => e b o h
theorem But.trans {x : Addr} {H H1 H2 : Hp} (a : But x H H1) (b : But x H1 H2) : But x H H2 := fun c o h n => b c o (a c o h n) n
theorem But.upd {x : Addr} {H H' : Hp} (a : But x H H') (o : HO) : But x H (L2.upd H' x o) := fun b u h n => by
  rw [L2.upd_ne n]
  exact a b u h n
theorem But.new {x p : Addr} {H H' : Hp} (a : But x H H') {o : HO} (hp : H' p = none) : But x H (L2.upd H' p o) := fun b u h n => by
  have q := a b u h n
  rw [L2.upd_ne (ne_of_none q hp)]
  exact q
theorem But.row {x l : Addr} {H H' : Hp} {ts : List Trp} {C dx : Addr} {fs : List (Str × V)} (a : But x H H') (hx : H x = some (.ins C dx fs)) (R : Row H l ts) : Row H' l ts :=
  ⟨a _ _ R.lst (ne_of R.lst hx (by intro q; cases q)), fun t ht => a _ _ (R.prs t ht) (ne_of (R.prs t ht) hx (by intro q; cases q))⟩
/-- another object that was not known before -/
theorem But.fresh {x : Addr} {H H' : Hp} (a : But x H H') (hx : H x = none) : Same H H' := fun b o h => a b o h (ne_of_none h hx)
end Toy
namespace Toy
open PySem L2
theorem cut_to {xs : List V} {k : Int} {n : Nat} (e : k = (n : Int)) (h : n ≤ xs.length) : cutV xs none (some k) = xs.take n := by
  subst e
  unfold cutV
  rw [HT.sIx_none, HT.sIx_nat, List.drop_zero, Nat.min_eq_left h, Nat.sub_zero]
theorem cut_from {xs : List V} {k : Int} {n : Nat} (e : k = (n : Int)) (h : n ≤ xs.length) : cutV xs (some k) none = xs.drop n := by
  subst e
  unfold cutV
  rw [HT.sIx_none, HT.sIx_nat, Nat.min_eq_left h]
  exact List.take_of_length_le (by rw [List.length_drop]; exact Nat.le_refl _)
theorem rowV_take (ts : List Trp) (n : Nat) : (rowV ts).take n = rowV (ts.take n) := by unfold rowV; rw [List.map_take]
theorem rowV_drop (ts : List Trp) (n : Nat) : (rowV ts).drop n = rowV (ts.drop n) := by unfold rowV; rw [List.map_drop]
theorem vals_take (ts : List Trp) (n : Nat) : vals (ts.take n) = (vals ts).take n := by unfold vals; rw [List.map_take]
theorem vals_drop (ts : List Trp) (n : Nat) : vals (ts.drop n) = (vals ts).drop n := by unfold vals; rw [List.map_drop]
theorem Up.take : ∀ {d : Int} {ps : List Pr}, Up d ps → ∀ n, Up d (ps.take n)
  | _, [], _, 0 => trivial
  | _, [], _, _ + 1 => trivial
  | _, _ :: _, _, 0 => trivial
  | _, p :: r, h, n + 1 => ⟨h.1, Up.take h.2 n⟩
theorem Good.take {ps : List Pr} (g : Good ps) (n : Nat) : Good (ps.take (n + 1)) := by
  obtain ⟨r, rest, e⟩ := g.ne
  refine ⟨⟨r, rest.take n, by rw [e]; rfl⟩, g.up.take _, fun p hp => g.rate p (List.mem_of_mem_take hp)⟩
/-- the last pair's day is that pair's -/
theorem lastDay_mem {ps : List Pr} (h : ps ≠ []) : ∃ p ∈ ps, p.1 = lastDay ps := by
  obtain ⟨r, a, e⟩ := snoc_of h
  refine ⟨a, by rw [e]; simp, ?_⟩
  rw [e]
  unfold lastDay
  rw [getLastD_append]
theorem Rok.take {ps : List Pr} (k : Rok ps) (n : Nat) : Rok (ps.take (n + 1)) := by
  have g := k.g.take n
  refine ⟨g, ?_, Nat.le_trans (List.length_take_le' _ _) k.len⟩
  obtain ⟨p, hp, e⟩ := lastDay_mem (ps := ps.take (n + 1)) (by obtain ⟨r, rest, e⟩ := g.ne; rw [e]; simp)
  rw [← e]
  exact Int.le_trans (k.g.le_last (List.mem_of_mem_take hp)) k.last
/-- the next pair's day lies behind those ahead of it -/
theorem next_day {ps : List Pr} (g : Good ps) {n : Nat} {p : Pr} (h : ps[n + 1]? = some p) : lastDay (ps.take (n + 1)) < p.1 := by
  have g2 := g.take n
  obtain ⟨q, hq, e⟩ := lastDay_mem (ps := ps.take (n + 1)) (by obtain ⟨r, rest, e⟩ := g2.ne; rw [e]; simp)
  rw [← e]
  have eall : ps = ps.take (n + 1) ++ p :: ps.drop (n + 2) := by
    have h2 : ps[n + 1]'(List.getElem?_eq_some_iff.mp h).1 = p := (List.getElem?_eq_some_iff.mp h).2
    rw [← h2, List.getElem_cons_drop, List.take_append_drop]
  have u2 : Up (-1) (ps.take (n + 1) ++ p :: ps.drop (n + 2)) := by rw [← eall]; exact g.up
  exact u2.to q hq
def amountBy (c : Int) : Int := if c % 4 = 0 then ([1, 2, 999999999999, 1000000000000] : List Int).getD (c / 4 % 4).toNat 0 else if c % 4 = 1 then 1 + c / 4 % 5000 else 1 + (mixed c 2147483647 * 467 + 5) % 1000000000000
theorem amountBy_ok (c : Int) : 1 ≤ amountBy c ∧ amountBy c ≤ 1000000000000 := by
  unfold amountBy
  split
  · obtain ⟨j, ej⟩ : ∃ j : Nat, c / 4 % 4 = (j : Int) := ⟨(c / 4 % 4).toNat, by omega⟩
    have hj : j < 4 := by omega
    rw [ej]
    match j, hj with
    | 0, _ => decide
    | 1, _ => decide
    | 2, _ => decide
    | 3, _ => decide
  · split <;> omega
theorem tup2 {a b : Int} {v : V} {j : Nat} (h : ([V.int a, V.int b] : List V)[j]? = some v) : ([V.int a, V.int b] : List V)[j]? = some v := h
end Toy
namespace Toy
open PySem L2
def vdS : Vd → Str
  | .ok => ""
  | .day => "day"
  | .rate => "rate"
end Toy
namespace Toy
open PySem L2
/-- a list that is read stays where an object changes -/
theorem seq_but {K : PySem.W.Frag} {H H' : Hp} {x C dx a : Addr} {fs : List (Str × V)} {xs : List V} (b : But x H H') (hx : H x = some (.ins C dx fs)) (h : SqL K H a xs) : SqL K H' a xs := by
  rcases h with (h | ⟨o, h⟩) | h
  · exact .inl (.inl (b _ _ h (ne_of h hx (by intro q; cases q))))
  · exact .inl (.inr ⟨o, b _ _ h (ne_of h hx (by intro q; cases q))⟩)
  · exact .inr h
end Toy
namespace Toy
open PySem L2
theorem But.rowl {q l : Addr} {H H' : Hp} {ts : List Trp} {xs : List V} (b : But q H H') (hq : H q = some (.lst xs)) (n : l ≠ q) (R : Row H l ts) : Row H' l ts :=
  ⟨b _ _ R.lst n, fun t ht => b _ _ (R.prs t ht) (ne_of (R.prs t ht) hq (by intro z; cases z))⟩
theorem But.loan {q x dx l C : Addr} {H H' : Hp} {ts : List Trp} {z : Ln} {xs : List V} (b : But q H H') (hq : H q = some (.lst xs)) (n : l ≠ q) (A : LoanAt C H x dx l ts z) : LoanAt C H' x dx l ts z :=
  ⟨b _ _ A.ob (ne_of A.ob hq (by intro z; cases z)), b.rowl hq n A.row⟩
theorem But.loanx {y dy x dx l C : Addr} {fs : List (Str × V)} {H H' : Hp} {ts : List Trp} {z : Ln} (b : But y H H') (hy : H y = some (.ins C dy fs)) (n : x ≠ y) (A : LoanAt C H x dx l ts z) : LoanAt C H' x dx l ts z :=
  ⟨b _ _ A.ob n, b.row hy A.row⟩
theorem seq_butl {K : PySem.W.Frag} {H H' : Hp} {q a : Addr} {xs ys : List V} (b : But q H H') (n : a ≠ q) (h : SqL K H a xs) : SqL K H' a xs := by
  rcases h with (h | ⟨o, h⟩) | h
  · exact .inl (.inl (b _ _ h n))
  · exact .inl (.inr ⟨o, b _ _ h n⟩)
  · exact .inr h
theorem Rok.snoc {ps : List Pr} (k : Rok ps) {d r : Int} (h1 : lastDay ps < d) (h2 : d ≤ 100000) (h3 : 0 ≤ r) (h4 : r ≤ 100000) (h5 : ps.length < 1000) : Rok (ps ++ [(d, r)]) := by
  refine ⟨k.g.snoc h1 h3 h4, ?_, by rw [List.length_append]; exact h5⟩
  unfold lastDay
  rw [getLastD_append]
  exact h2
theorem lastDay_snoc (ps : List Pr) (d r : Int) : lastDay (ps ++ [(d, r)]) = d := by
  unfold lastDay
  rw [getLastD_append]
/-- what a change of the rate is told -/
def dueC (ps : List Pr) (at1 d r : Int) : Vd := if d ≤ at1 ∨ d ≤ lastDay ps ∨ d > 100000 then .day else if 0 ≤ r ∧ r ≤ 100000 then .ok else .rate
theorem dueC_ok {ps : List Pr} {at1 d r : Int} (h : dueC ps at1 d r = .ok) : ¬ (d ≤ at1 ∨ d ≤ lastDay ps ∨ d > 100000) ∧ 0 ≤ r ∧ r ≤ 100000 := by
  unfold dueC at h
  split at h
  · cases h
  · rename_i c
    split at h
    · rename_i c2
      exact ⟨c, c2⟩
    · cases h
/-- what is owed does not fall by itself -/
theorem owedF_mono {l b b2 : Int} (h : b ≤ b2) : owedF l b ≤ owedF l b2 := by unfold owedF; omega
theorem begunAt_mono {ps : List Pr} {z : Ln} {d : Int} (h : LnOk z) (g : Good ps) (hd : z.day ≤ d) : z.begun ≤ begunAt ps z d := by
  have h1 := (gsum_ok g.rate hd).1
  have h2 := Int.mul_nonneg h.l0 h1
  unfold begunAt
  omega
theorem begunAt_self (ps : List Pr) (z : Ln) : begunAt ps z z.day = z.begun := by
  unfold begunAt
  rw [gsum_self, Int.mul_zero, Int.add_zero]
end Toy
/-! ### errors: calls in a try, clauses with and without a name, isinstance of the error in hand, a def asked about it -/
namespace L2
open PySem PySem.Spec PyProof.Rows
section
variable {X : Cx} {CX : CXT} {k : Nat} {f C : Addr} {fd : FuncData} {ps : List Str} {sp : Sp} {E : St → XK} {x m : Str} {p pos apos : Pos} {e o : Expr} {es : List Expr} {ta : TE} {t : TA}
/-- a method's call in a try: what it lets out is wished for at the slots -/
def tMethT (C : Addr) (m : Str) (sp : Sp) (E : St → XK) (ta : TE) (t : TA) : TE := fun σ H Q => ta σ H fun v H1 => ∃ a dx fs, v = .ref a ∧ H1 a = some (.ins C dx fs) ∧ fs.lookup m = none ∧ t σ H1 fun vs H2 => sp (v :: vs) H2 Q (E σ)
theorem pe_methT {pl : Sem Bool} (he : PE X o ta) (c : Cls X.K C) (hm : Meth X.K C m f) (F : FnOk X.prog X.w X.K X.mg X.base CX k f fd ps sp) (hr : Room k X.A) (hb : Binds X.K fd ps []) (hx : ∀ σ, PassesAt CX X σ (E σ)) (ha : PA X (e :: es) t)
    (hst : starEach (e :: es) X.env = (false, eval e X.env) :: starEach es X.env := by rfl) (hpl : (backTo pos (starEach es X.env)).any (·.1) = false := by rfl)
    (ht : eval (.Call (.Attribute o m apos) (e :: es) [] pos) X.env = (do
      let ov ← eval o X.env
      standAt apos.atName
      let (g, first) ← holding [ov] (getMethod ov m pl)
      callWith pos g first (backTo pos (starEach (e :: es) X.env)) (backToKw pos (keywordEach [] X.env))) := by rfl) :
    PE X (.Call (.Attribute o m apos) (e :: es) [] pos) (tMethT C m sp E ta t) := by
  refine ⟨fun pins s σ H Q I h => ?_⟩
  refine PySem.W.methodCall_KW (pl := pl) (thn (he.run pins s σ H _ I h) fun u s1 ⟨y, H1, I1, ry, a, dx, fs, ey, ea, l, q⟩ => ?_) ht
  subst ey
  obtain rfl : u = Value.ref a := ry
  refine getmeth_ok I1 ea c hm l ?_
  refine PySem.W.callWith_K (first := [.ref a]) (h₀ := X.base) I.ok.mod.kin hm.kp (thn (ha.run pos pins s1 σ H1 _ I1 q) fun us s2 ⟨vs, H2, I2, r, q2⟩ => ⟨I2.kIn, ?_⟩) hst hpl
  exact run_fnS (us := .ref a :: us) (vs := .ref a :: vs) F hr hb (hx σ) I2 (.cons rfl r) q2
/-- C(..) in a try -/
def tMakeT (C : Addr) (sp : Sp) (E : St → XK) (t : TA) : TE := fun σ H Q => t σ H fun vs H1 => ∀ x dx, H1 x = none → H1 dx = none → dx ≠ x →
  sp (.ref x :: vs) (upd (upd H1 dx (.own x)) x (.ins C dx [])) (fun v H2 => v = .non ∧ Q (.ref x) H2) (E σ)
theorem run_makeT {pins : List (Addr × Obj)} {σ : St} {H : Hp} {s : Shared} {Q : VK} {us : List Value} {vs : List V} (M : Mk X.K C f) (F : FnOk X.prog X.w X.K X.mg X.base CX k f fd ps sp) (hr : Room (k + 1) X.A) (hb : Binds X.K fd ps [])
    (hx : PassesAt CX X σ (E σ)) (I : Inv X pins σ H s) (r : Vals vs us)
    (h : ∀ x dx, H x = none → H dx = none → dx ≠ x → sp (.ref x :: vs) (upd (upd H dx (.own x)) x (.ins C dx [])) (fun v H2 => v = .non ∧ Q (.ref x) H2) (E σ)) :
    wpAny (model X.prog X.w) X.A (call (.ref C) us) (EP X pins σ Q) X.xe s := by
  have hq := h (s.heap.objs.size + 1) s.heap.objs.size (I.hok.fresh (Nat.le_succ _)) (I.hok.fresh (Nat.le_refl _)) (Nat.ne_of_lt (Nat.lt_succ_self _))
  have I2 := Inv.made (C := C) I
  have r2 : Vals (V.ref (s.heap.objs.size + 1) :: vs) (Value.ref (s.heap.objs.size + 1) :: us) := .cons rfl r
  have hl : ((Value.ref (s.heap.objs.size + 1) :: us) ++ []).length = ps.length := by
    rw [List.append_nil]
    have e1 := r2.length
    rw [F.len _ _ _ _ hq] at e1
    exact e1.symm
  have b := hb _ (Value.ref (s.heap.objs.size + 1) :: us) I2.kIn hl
  rw [List.append_nil] at b
  refine wpAny_call (make_map (f := f) I.kIn M.makes M.init (beq_iff_eq.mp M.fn) (codeAny_mono (F.run _ X.stack _ _ ⟨Value.ref (s.heap.objs.size + 1) :: us, []⟩ (Value.ref (s.heap.objs.size + 1) :: us) _ _ (E σ) (hr.make C us [])
    (I2.env0.make C us []) b r2 hq) fun r s' hq' => ?_))
  cases r with
  | error e => exact hx pins _ _ e s' I2 hq'
  | ok fl =>
    cases fl with
    | ret u =>
      obtain ⟨v, H', I3, rv, ev, q3⟩ := I2.after hq'
      subst ev
      exact ⟨rv, ⟨V.ref (s.heap.objs.size + 1), H', I3, rfl, q3⟩⟩
    | next => exact False.elim hq'
    | brk => exact False.elim hq'
    | cont => exact False.elim hq'
theorem pe_makeT (M : Mk X.K C f) (F : FnOk X.prog X.w X.K X.mg X.base CX k f fd ps sp) (hr : Room (k + 1) X.A) (hm : X.mg x = some (.ref C)) (hb : Binds X.K fd ps []) (hx : ∀ σ, PassesAt CX X σ (E σ))
    (ha : PA X (e :: es) t) (hg : Gl X x := by rfl) (hdb : (x == ("__debug__" : Str)) = false := by decide) (he : starEach (e :: es) X.env = (false, eval e X.env) :: starEach es X.env := by rfl) (hpl : (backTo pos (starEach es X.env)).any (·.1) = false := by rfl) :
    PE X (.Call (.Name x p) (e :: es) [] pos) (tMakeT C sp E t) := by
  refine ⟨fun pins s σ H Q I h => ?_⟩
  refine wpAny_Call_Name_kw (ld_glob I hg hm ?_ hdb)
  refine PySem.W.callWith_K (h₀ := X.base) I.ok.mod.kin M.kp (thn (ha.run pos pins s σ H _ I h) fun us s1 ⟨vs, H1, I1, r, q⟩ => ⟨I1.kIn, ?_⟩) he hpl
  exact run_makeT M F hr hb (hx σ) I1 r q
end

/-! #### isinstance(e, c), e the error in hand (a pinned object) -/
def rIsX (K : PySem.W.Frag) (cls : Value) (d : Option Addr) (a : Addr) : List V → Hp → VK → Prop := fun xs H Q => ∃ (D : Addr) (c : V) (cv : Value) (b : Bool), cls = .ref D ∧ d = none ∧ ExcC K D ∧ xs = [.ref a, c] ∧ (∀ u, RelV c u → u = cv) ∧ PySem.W.kitOne K (.ref D) cv = some b ∧ Q (.bl b) H
theorem call_isX {X : Cx} {a : Addr} {oe : Obj} {cls : Value} {d : Option Addr} (hz : Zc cls d oe) (hf : ∃ vs, oe.data = .fields vs) (hp : (a, oe) ∈ X.pn) : CallR X (.builtin "isinstance") (rIsX X.K cls d a) := by
  intro pins s σ H xs us Q I r h
  obtain ⟨D, c, cv, b, rfl, rfl, C, rfl, hcv, e, q⟩ := h
  obtain ⟨u1, u2, rfl, r1, r2⟩ := vals2 r
  obtain rfl : u1 = Value.ref a := r1
  obtain rfl := hcv _ r2
  have hget := (I.pin (a, oe) (List.mem_append_left _ hp)).1
  have J : PySem.W.InstAt s.heap a oe D none := by
    obtain ⟨oc, od, oda, osl⟩ := oe
    obtain ⟨h1, h2⟩ := hz
    obtain ⟨vs, hv⟩ := hf
    dsimp only at h1 h2 hv
    subst h1 h2 hv
    exact ⟨hget, rfl, rfl, trivial⟩
  exact PySem.W.kia_one (PySem.W.handS_kitx_exc C.hg C.hk C.hs C.hd C.ha C.hn C.ht C.hm) I.kIn J e (fun z => nomatch z) fun tk => ⟨.bl b, H, I.kept (t' := tk) fun _ _ z => z, rfl, q⟩

/-! #### a def that is asked about the error in hand: it answers v, all stays -/
def FnE (P : Program) (w : World) (K : PySem.W.Frag) (mg : Str → Option Value) (base : Heap) (k : Nat) (f : Addr) (fd : FuncData) (ps : List Str) (ok : Addr × Obj → Prop) (v : V) : Prop :=
  ∀ (A : Around) (outer : List Env) (s : Shared) (H : Hp) (args : Args) (p : Addr × Obj), L2H.RoomH k A → L2H.PinOk outer H s p → Env0 P w K mg base A outer s H → BindsTo s fd args (ps.zip [.ref p.1]) → ok p →
    codeAny (model P w) A (.call (.ref f) args) (CR CX0 outer P w H s (fun u H' => u = v ∧ H' = H) E0) s
theorem fnE_of {P : Program} {w : World} {K : PySem.W.Frag} {mg : Str → Option Value} {base : Heap} {k : Nat} {f : Addr} {fd : FuncData} {x : Str} {st : Stmt} {N ps : List Str} {ok : Addr × Obj → Prop} {v : V} (F : Fun K x x st f fd) (S : FnScope N ps (defScope st)) (one : ps.length = 1)
    (hbody : ∀ (cdv : Value) (A : Around) (outer : List Env) (s : Shared) (H : Hp) (p : Addr × Obj), L2H.RoomH k (A.deeper (envOfC x (defScope st) s.heap.objs.size f cdv)) → ok p →
      ∃ t, PSs (L2H.cxH CX0 P w K mg base N x (defScope st) f cdv A outer s H E0 p) (defBody st) t ∧ t { nx := fun _ H' => V.non = v ∧ H' = H, rt := fun u H' => u = v ∧ H' = H } (start N [.ref p.1]) H) :
    FnE P w K mg base (k + 1) f fd ps ok v := by
  obtain ⟨oc, od, kV, doc, pm, an, cdv, ct, osl, rfl, lk, hcd⟩ := F.ex
  intro A outer s H args p hr hpin e0 hb hok
  have KX : K.In s.heap := e0.mod.kin.keeps fun b o e => (e0.bs b o e).1
  have lim : s.heap.NoLimit := e0.mod.nolimit.keeps fun b o e => (e0.bs b o e).1
  have hkind : ∀ y ∈ ps.zip [Value.ref p.1], (defScope st).names.lookup y.1 = some .local ∨ ((defScope st).names.lookup y.1 = some .cell ∧ ((cellsFrom (s.heap.objs.size + 1) (defScope st).names []).lookup y.1).isSome = true) := fun ⟨n, u⟩ hy => by
    rcases S.par n (List.of_mem_zip hy).1 with q | q
    · exact .inl q
    · exact .inr ⟨q, PySem.W.cellsFrom_some _ _ _ (.inl q)⟩
  refine codeAny_call_function hr.depth (KX _ _ lk) rfl S.co S.gen rfl (PySem.W.codeRec_of KX hcd) (hb _ _ _ _ ?_)
  refine wpAny_newFunctionEnv_cells S.kind hkind fun env he s1 y => ?_
  subst he
  refine ⟨lim.keeps y.toInCall.keep, codeAny_func ?_⟩
  obtain ⟨t, ht, hq⟩ := hbody cdv A outer s H p (hr.deeper _) hok
  have I : Inv (L2H.cxH CX0 P w K mg base N x (defScope st) f cdv A outer s H E0 p) [] (start N [.ref p.1]) H s1 := L2H.inv_startH (vs := [.ref p.1]) S hpin e0 (by rw [one]; rfl) (.cons rfl .nil) y
  refine wpAny_mono (ht.run [] s1 (start N [.ref p.1]) H _ I hq) (fun fl s' hs => ?_) fun e s' hs => hs
  cases fl with
  | ret u =>
    obtain ⟨u', σ', H', J, rv, q⟩ := hs
    exact ⟨u', H', J.os, J.bare, J.base, J.hok, rv, q⟩
  | next =>
    obtain ⟨σ', H', J, q⟩ := hs
    exact ⟨V.non, H', J.os, J.bare, J.base, J.hok, rfl, q⟩
  | brk =>
    obtain ⟨_, _, _, q⟩ := hs
    exact False.elim q
  | cont =>
    obtain ⟨_, _, _, q⟩ := hs
    exact False.elim q
/-- such a def, as its callers see it -/
structure De (P : Program) (w : World) (K : PySem.W.Frag) (mg : Str → Option Value) (base : Heap) (k : Nat) (x : Str) (ps : List Str) (ok : Addr × Obj → Prop) (v : V) where
  f : Addr
  fd : FuncData
  G : FnE P w K mg base k f fd ps ok v
  m : mg x = some (.ref f)
  kp : PySem.W.keepIn K (.ref f) = true
  b : Binds K fd ps []
/-- its call in a suite -/
theorem pe_callE {X : Cx} {k : Nat} {x : Str} {ps : List Str} {ok : Addr × Obj → Prop} {v : V} {a : Addr} {oe : Obj} {e : Expr} {te : TE} {q pos : Pos} {okc : Prop} (D : De X.prog X.w X.K X.mg X.base k x ps ok v) (hr : L2H.RoomH k X.A) (hp : (a, oe) ∈ X.pn) (one : ps.length = 1) (he : PE X e te) (hok : okc → ok (a, oe))
    (hg : Gl X x := by rfl) (hdb : (x == ("__debug__" : Str)) = false := by decide) (hs : starEach (e :: []) X.env = (false, eval e X.env) :: starEach [] X.env := by rfl) (hpl : (backTo pos (starEach [] X.env)).any (·.1) = false := by rfl) :
    PE X (.Call (.Name x q) [e] [] pos) (fun σ H Q => te σ H fun y H1 => [y] = [.ref a] ∧ okc ∧ Q v H1) := by
  refine ⟨fun pins s σ H Q I h => ?_⟩
  have ha : PA X [e] (tCons te tNil) := pa_cons he pa_nil (hs := hs)
  refine wpAny_Call_Name_kw (ld_glob I hg D.m ?_ hdb)
  refine PySem.W.callWith_K (h₀ := X.base) I.ok.mod.kin D.kp (thn (ha.run pos pins s σ H (fun vs H1 => vs = [.ref a] ∧ okc ∧ Q v H1) I h) fun us s1 hh => ?_) hs hpl
  obtain ⟨vs, H1, I1, r, rfl, hc, q1⟩ := hh
  refine ⟨I1.kIn, ?_⟩
  cases r with
  | cons r1 r2 =>
    cases r2
    obtain rfl := r1
    have P1 := I1.pin (a, oe) (List.mem_append_left _ hp)
    have hpin : L2H.PinOk X.stack H1 s1 (a, oe) := ⟨P1.1, P1.2.1, fun hm => (List.mem_cons.mp (I1.stkSub a hm)).elim P1.2.2.1 P1.2.2.2.1, P1.2.2.2.2⟩
    have hb := D.b s1 [.ref a] I1.kIn (by rw [List.append_nil, one]; rfl)
    rw [List.append_nil] at hb
    refine wpAny_call (codeAny_mono (D.G X.A X.stack s1 H1 ⟨[.ref a], []⟩ (a, oe) hr hpin I1.env0 hb (hok hc)) fun r s' hq => ?_)
    cases r with
    | error e => exact False.elim hq
    | ok fl =>
      cases fl with
      | ret u =>
        obtain ⟨u', H', I3, rv, rfl, rfl⟩ := I1.after hq
        exact ⟨_, _, I3, rv, q1⟩
      | next => exact False.elim hq
      | brk => exact False.elim hq
      | cont => exact False.elim hq

/-! #### a try whose clauses may bear a name -/
/-- a suite's ways out; where its clause has a name, the name's slot is emptied behind it -/
def sOut (o : Option Nat) (ts : TS) (a : Addr) : TS := match o with
  | none => ts
  | some i => fun D σ H => ts { nx := fun σ' H' => D.nx (σ'.set i none) H', rt := D.rt, bk := fun σ' H' => D.bk (σ'.set i none) H', ct := fun σ' H' => D.ct (σ'.set i none) H' } (σ.set i (some (.ref a))) H
abbrev Cl := Value × Option Nat × (Addr → Value → Option Addr → TS)
def wMix (K : PySem.W.Frag) (Wout : WX) (D : Ends) : List Cl → WX
  | [] => Wout
  | (c, o, ts) :: r => fun cls d σ H => ∃ b, PySem.W.exmOne K cls c = some b ∧ (b = true → ∀ a, H a = none → sOut o (ts a cls d) a D σ H) ∧ (b = false → wMix K Wout D r cls d σ H)
inductive MixOk (X : Cx) : List ExceptHandler → List Cl → Prop
  | nil : MixOk X [] []
  | plain {x : Str} {c : Value} {ts : Addr → Value → Option Addr → TS} {b1 : Stmt} {suite : List Stmt} {np pos' : Pos} {hds : List ExceptHandler} {l : List Cl} (hc : Names X x c)
      (hsu : ∀ (a : Addr) (oe : Obj) (cls : Value) (d : Option Addr) (pn : List (Addr × Obj)), Zc cls d oe → (∃ vs, oe.data = .fields vs) → PSs (X.suite a ((a, oe) :: pn)) (b1 :: suite) (ts a cls d)) (r : MixOk X hds l) :
      MixOk X (.ExceptHandler (some (.Name x np)) none (b1 :: suite) pos' :: hds) ((c, none, ts) :: l)
  | named {x n : Str} {c : Value} {i : Nat} {ts : Addr → Value → Option Addr → TS} {b1 : Stmt} {suite : List Stmt} {np pos' : Pos} {hds : List ExceptHandler} {l : List Cl} (hN : X.N.Nodup) (hi : X.N[i]? = some n) (hln : X.env.kindOf n = some .local) (hc : Names X x c)
      (hsu : ∀ (a : Addr) (oe : Obj) (cls : Value) (d : Option Addr) (pn : List (Addr × Obj)), Zc cls d oe → (∃ vs, oe.data = .fields vs) → PSs (X.suite a ((a, oe) :: pn)) (b1 :: suite) (ts a cls d)) (r : MixOk X hds l) :
      MixOk X (.ExceptHandler (some (.Name x np)) (some n) (b1 :: suite) pos' :: hds) ((c, some i, ts) :: l)
section
variable {X : Cx} {body : List Stmt} {hd1 : ExceptHandler} {hds : List ExceptHandler} {l : List Cl} {pos : Pos} {tb : WX → TS} {Wout : WX}
theorem ps_try_mix (hs : X.stack = X.env :: X.outer) (hf : X.env.frame = some X.env.locals) (tk : Takes X Wout)
    (hb : ∀ (W : WX) (pn : List (Addr × Obj)) (xe : Value → Shared → Prop), Takes (X.tr pn xe) W → PassesOwn (model X.prog X.w) X.A X.env xe → PSs (X.tr pn xe) body (tb W))
    (hh : MixOk X (hd1 :: hds) l) : PS X (.Try body (hd1 :: hds) [] [] pos) (fun D σ H => tb (wMix X.K Wout D l) D σ H) := by
  refine ⟨fun pins s σ H D I h => ?_⟩
  have ok := I.ok
  have hfr : X.A.frames = some (X.env :: X.outer) := by rw [ok.frames, hs]
  refine wpAny_Try_except ?_
  refine wpAny_mono ((hb (wMix X.K Wout D l) (X.pn ++ pins) (fun e sa => wpAny (model X.prog X.w) X.A (noteFrame e X.env) (fun _ sb => wpAny (model X.prog X.w) X.A (setFlight e none) (fun _ sc =>
    wpAny (model X.prog X.w) X.A (handleBy e X.env (hd1 :: hds)) (SP X pins D) X.xe sc) X.xe sb) X.xe sa) (fun u s' xx => ?_) PassesOwn.looking).run [] s σ H D (I.toTry _) h) (fun f s1 hsp => ?_) (fun e s1 he => he)
  · obtain ⟨a, B, sI, pins', σ', H', cls, d, rfl, J', nb, up, sky, na, os, ag, w⟩ := xx
    have J : Inv X pins σ' H' sI := J'.ofTry ok
    have sky' : Sky B (X.env :: X.outer) a (Zc cls d) X.env.locals s'.heap := by rw [← hs]; exact sky
    show wpAny (model X.prog X.w) X.A (noteFrame (.ref a) X.env) _ _ _
    refine Sky.land Zc.steady hfr hf sky' fun h3 fl3 up3 => ?_
    have J3 : Inv X pins σ' H' { s' with heap := h3 } := J.landed nb fl3.1 (up.trans up3) os ag
    obtain ⟨oe3, vs3, he3, hz3, hd3⟩ := fl3.there
    have nfr : a ∉ frs (X.env :: X.outer) := fun hm => by
      obtain ⟨_, o', e', hnf⟩ := fl3.2.2.1.mem hm
      rw [he3] at e'
      cases e'
      exact hnf _ hd3
    have nL : a ≠ X.env.locals := fun z => nfr (List.mem_filterMap.mpr ⟨X.env, List.mem_cons_self, by rw [hf, z]⟩)
    have nF : a ∉ X.fs := fun hm => by
      obtain ⟨e, he, q⟩ := List.mem_filterMap.mp hm
      exact nfr (List.mem_filterMap.mpr ⟨e, List.mem_cons_of_mem _ he, q⟩)
    have S3 := J3.suite he3 hd3 na nL nF
    have test : ∀ {x : Str} {c : Value} {np : Pos} {Q : Value → Shared → Prop} {E : Value → Shared → Prop}, Names X x c → Q c { s' with heap := h3 } → wpAny (model X.prog X.w) (X.A.mark (some (.ref a))) (eval (.Name x np) X.env) Q E { s' with heap := h3 } := fun {x c np Q E} hc q => by
      obtain ⟨hg, hdbg, hm | ⟨hm, hv, hnn⟩⟩ := hc
      · exact ld_glob (X := X.suite a ((a, oe3) :: (X.pn ++ pins))) S3 hg hm q hdbg
      · exact ld_blt (X := X.suite a ((a, oe3) :: (X.pn ++ pins))) S3 hg hm hv q hnn hdbg
    have LT : PySem.W.Looks (model X.prog X.w) h3 (typeOf (.ref a)) cls := fun A Q E s k q => wpAny_typeOf_ref (k _ _ he3) (by rw [hz3.1]; exact q)
    have go : ∀ {hs2 : List ExceptHandler} {l2 : List Cl}, MixOk X hs2 l2 → wMix X.K Wout D l2 cls d σ' H' →
        wpAny (model X.prog X.w) X.A (handleBy (.ref a) X.env hs2) (SP X pins D) X.xe { s' with heap := h3 } := by
      intro hs2 l2 hk
      induction hk with
      | nil =>
        intro w
        refine wpAny_handleBy_nil ?_
        obtain ⟨k1, k2, k3, oe, vs, T, oT, ts', he, hz, hd, h1, hr⟩ := id fl3
        unfold PySem.passOn
        refine wpAny_bind (wpAny_field he hd h1 ?_)
        rw [if_neg (show ¬ ((Value.ref T == Value.none) = true) from by simp)]
        have fin : wpAny (model X.prog X.w) X.A (setFlight (.ref a) X.env.frame) (fun _ s4 => wpAny (model X.prog X.w) X.A (throw (.ref a) : Sem Flow) (SP X pins D) X.xe s4) X.xe { s' with heap := h3 } := by
          rw [hf]
          refine HandSPX.setFlight_upZ fl3 fun h4 hh4 up4 => wpAny_throw (tk _ _ ?_)
          exact ⟨a, B, sI, pins, σ', H', cls, d, rfl, J, nb, (up.trans up3).trans up4, .inr (.inr (by rw [hs]; exact hh4)), na, os, ag, w⟩
        first
          | exact wpAny_bind (wpAny_pure (wpAny_bind fin))
          | exact wpAny_bind fin
      | @plain x c ts b1 suite np pos' hds2 l3 hc hsu r ih =>
        intro w
        obtain ⟨b, hb1, hyes, hno⟩ := w
        refine wpAny_handleBy_cons (codeAny_handlers_test ?_) (by intro q; cases q)
        have LM := PySem.W.exm_one (M := model X.prog X.w) (J3.kIn) LT hb1
        refine test hc (LM.here ?_)
        cases b with
        | false =>
          show wpAny _ X.A (handleBy (.ref a) X.env hds2) _ _ _
          exact ih (hno rfl)
        | true =>
          refine codeAny_handlers_suite ?_
          refine HandSPX.lands_againZ fl3 fun h4 fl4 up4 => ?_
          have J4 : Inv X pins σ' H' { s' with heap := h4 } := J.landed nb fl4.1 ((up.trans up3).trans up4) os ag
          obtain ⟨oe4, vs4, he4, hz4, hd4⟩ := fl4.there
          have S4 := J4.suite he4 hd4 na nL nF
          refine wpAny_mono ((hsu a oe4 cls d (X.pn ++ pins) hz4 ⟨_, hd4⟩).run [] _ _ H' _ S4 (hyes rfl a na)) (fun fl s6 hsp => ?_) (fun _ _ z => False.elim z)
          cases fl with
          | ret u =>
            obtain ⟨v6, σ6, H6, S6, r6, q6⟩ := hsp
            exact ⟨_, _, _, S6.unsuite ok, r6, q6⟩
          | next => exact hsp.elim fun σ6 ⟨H6, S6, q6⟩ => ⟨_, _, S6.unsuite ok, q6⟩
          | brk => exact hsp.elim fun σ6 ⟨H6, S6, q6⟩ => ⟨_, _, S6.unsuite ok, q6⟩
          | cont => exact hsp.elim fun σ6 ⟨H6, S6, q6⟩ => ⟨_, _, S6.unsuite ok, q6⟩
      | @named x n c i ts b1 suite np pos' hds2 l3 hN hi hln hc hsu r ih =>
        intro w
        obtain ⟨b, hb1, hyes, hno⟩ := w
        refine wpAny_handleBy_cons (codeAny_handlers_test ?_) (by intro q; cases q)
        have LM := PySem.W.exm_one (M := model X.prog X.w) (J3.kIn) LT hb1
        refine test hc (LM.here ?_)
        cases b with
        | false =>
          show wpAny _ X.A (handleBy (.ref a) X.env hds2) _ _ _
          exact ih (hno rfl)
        | true =>
          refine codeAny_handlers_suite_as ?_
          refine HandSPX.lands_againZ fl3 fun h4 fl4 up4 => ?_
          have J4 : Inv X pins σ' H' { s' with heap := h4 } := J.landed nb fl4.1 ((up.trans up3).trans up4) os ag
          obtain ⟨oe4, vs4, he4, hz4, hd4⟩ := fl4.there
          have S4 := J4.suite he4 hd4 na nL nF
          refine store_ok (X := X.suite a ((a, oe4) :: (X.pn ++ pins))) (v := .ref a) S4 hN hi (.inl hln) rfl (fun s5 S5 => ?_) (.inr hln)
          refine wpAny_mono ((hsu a oe4 cls d (X.pn ++ pins) hz4 ⟨_, hd4⟩).run [] s5 _ H' _ S5 (hyes rfl a na)) (fun fl s6 hsp => ?_) (fun _ _ z => False.elim z)
          have gone : ∀ {σ6 : St} {H6 : Hp} {Q : Shared → Prop}, Inv (X.suite a ((a, oe4) :: (X.pn ++ pins))) [] σ6 H6 s6 → (∀ s7, Inv X pins (σ6.set i none) H6 s7 → Q s7) →
              wpAny (model X.prog X.w) X.A (do bindName X.env n .none; unbindBehindTheSuite X.env n pos') (fun _ s7 => Q s7) X.xe s6 := fun {σ6 H6 Q} S6 hq => gone_ok (S6.unsuite ok) hN hi hln hq
          cases fl with
          | ret u =>
            obtain ⟨v6, σ6, H6, S6, r6, q6⟩ := hsp
            exact gone S6 fun s7 J7 => ⟨_, _, _, J7, r6, q6⟩
          | next => exact hsp.elim fun σ6 ⟨H6, S6, q6⟩ => gone S6 fun s7 J7 => ⟨_, _, J7, q6⟩
          | brk => exact hsp.elim fun σ6 ⟨H6, S6, q6⟩ => gone S6 fun s7 J7 => ⟨_, _, J7, q6⟩
          | cont => exact hsp.elim fun σ6 ⟨H6, S6, q6⟩ => gone S6 fun s7 J7 => ⟨_, _, J7, q6⟩
    exact go hh w
  · cases f with
    | ret u =>
      obtain ⟨v, σ', H', J', r, q⟩ := hsp
      exact ⟨v, σ', H', J'.ofTry ok, r, q⟩
    | next =>
      obtain ⟨σ', H', J', q⟩ := hsp
      exact wpAny_execs_nil ⟨σ', H', J'.ofTry ok, q⟩
    | brk =>
      obtain ⟨σ', H', J', q⟩ := hsp
      exact ⟨σ', H', J'.ofTry ok, q⟩
    | cont =>
      obtain ⟨σ', H', J', q⟩ := hsp
      exact ⟨σ', H', J'.ofTry ok, q⟩
end
end L2
namespace L2
open PySem PySem.Spec PyProof.Rows
theorem roomH_mark {j k : Nat} {A : Around} (r : Room j A) (v : Option Value) (h : k ≤ j := by decide) : L2H.RoomH k (A.mark v) := ⟨(r.mono h).dp, (r.mono h).un⟩
/-- what a law asks of an error in hand: it is of one of the classes in l, in order amount, rate, day, pay, note: the places at which it answers -/
theorem kit_own {K : PySem.W.Frag} {C D : Addr} {b : Bool} (h : PySem.W.kitOne K (.ref C) (.ref D) = some b) : PySem.W.kitOne K (.ref C) (.ref D) = some b := h
end L2
namespace L2
open PySem PySem.Spec PyProof.Rows
theorem kit_sub {K : PySem.W.Frag} {C D : Addr} {b : Bool} (hd : PySem.W.hasDictIn K D = true) (ht : PySem.W.typeIn K (.ref D) = some (.type "type")) (hs : PySem.W.subIn K (.ref D) (.ref D) = some true) (h : PySem.W.subIn K (.ref C) (.ref D) = some b) : PySem.W.kitOne K (.ref C) (.ref D) = some b := by
  unfold PySem.W.kitOne
  by_cases e : (Value.ref C == Value.ref D) = true
  · rw [if_pos e]
    have e2 : C = D := Value.ref.inj (beq_iff_eq.mp e)
    rw [e2, hs] at h
    exact h
  · rw [if_neg e]
    obtain ⟨cd, hc, _⟩ := PySem.W.any_some hd
    have e2 : ((PySem.W.clsIn K D).isSome && PySem.W.typeIn K (.ref D) == some (.type "type")) = true := by rw [hc, ht] <;> rfl
    show (if ((PySem.W.clsIn K D).isSome && PySem.W.typeIn K (.ref D) == some (.type "type")) = true then PySem.W.subIn K (.ref C) (.ref D) else none) = some b
    rw [if_pos e2]
    exact h
theorem kit_ve {K : PySem.W.Frag} {C : Addr} (h : PySem.W.subIn K (.ref C) (.type "ValueError") = some true) : PySem.W.kitOne K (.ref C) (.type "ValueError") = some true := by
  unfold PySem.W.kitOne
  rw [if_neg (show ¬ (Value.ref C == Value.type "ValueError") = true from fun z => nomatch (beq_iff_eq.mp z))]
  show (if PySem.W.kitMeta "ValueError" = true then PySem.W.subIn K (.ref C) (.type "ValueError") else none) = some true
  rw [if_pos (by decide +kernel)]
  exact h
end L2
namespace L2
open PySem PySem.Spec PyProof.Rows
theorem pe_isS {X : Cx} {a : Addr} {oe : Obj} {cls : Value} {d : Option Addr} {pn : List (Addr × Obj)} {e1 e2 : Expr} {t1 t2 : TE} {p pos : Pos} (hz : Zc cls d oe) (hf : ∃ vs, oe.data = .fields vs) (hm : X.mg "isinstance" = none)
    (h1 : PE (X.suite a ((a, oe) :: pn)) e1 t1) (h2 : PE (X.suite a ((a, oe) :: pn)) e2 t2) (hg : Gl (X.suite a ((a, oe) :: pn)) "isinstance" := by rfl)
    (g1 : starEach (e1 :: [e2]) (X.suite a ((a, oe) :: pn)).env = (false, eval e1 (X.suite a ((a, oe) :: pn)).env) :: starEach [e2] (X.suite a ((a, oe) :: pn)).env := by rfl) (g2 : starEach (e2 :: []) (X.suite a ((a, oe) :: pn)).env = (false, eval e2 (X.suite a ((a, oe) :: pn)).env) :: starEach [] (X.suite a ((a, oe) :: pn)).env := by rfl)
    (g3 : (backTo pos (starEach [e2] (X.suite a ((a, oe) :: pn)).env)).any (·.1) = false := by rfl) :
    PE (X.suite a ((a, oe) :: pn)) (.Call (.Name "isinstance" p) [e1, e2] [] pos) (tCB (rIsX X.K cls d a) (tCons t1 (tCons t2 tNil))) :=
  pe_callB (X := X.suite a ((a, oe) :: pn)) (id := "isinstance") (call_isX hz hf List.mem_cons_self) hg hm (by decide +kernel) (pa_cons h1 (pa_cons h2 pa_nil (hs := g2)) (hs := g1)) (by decide) (by decide) g1 g3
end L2
namespace L2
open PySem PySem.Spec PyProof.Rows
theorem ix_listK {X : Cx} {K : PySem.W.Frag} (h : X.K = K := by rfl) : IxR X (rIxL K) := by
  subst h
  exact ix_list
end L2
/-! ### plans: due days, payments -/
namespace Toy
open PySem L2
/-- due days in their turn, behind a -/
def daysB : Int → List Int → Bool
  | _, [] => true
  | a, d :: r => decide (a < d ∧ d ≤ 100000) && daysB d r
theorem daysB_cons {a d : Int} {r : List Int} : daysB a (d :: r) = true ↔ (a < d ∧ d ≤ 100000) ∧ daysB d r = true := by
  show (decide (a < d ∧ d ≤ 100000) && daysB d r) = true ↔ _
  rw [Bool.and_eq_true, decide_eq_true_iff]
theorem daysB_snoc : ∀ {a d : Int} {ds : List Int}, daysB a ds = true → ds.getLastD a < d → d ≤ 100000 → daysB a (ds ++ [d]) = true
  | a, d, [], _, h1, h2 => daysB_cons.mpr ⟨⟨h1, h2⟩, rfl⟩
  | a, d, e :: r, h, h1, h2 => by
    have h3 := daysB_cons.mp h
    refine daysB_cons.mpr ⟨h3.1, daysB_snoc h3.2 ?_ h2⟩
    cases r with
    | nil => exact h1
    | cons x y => exact h1
theorem daysB_mem : ∀ {a : Int} {ds : List Int}, daysB a ds = true → ∀ d ∈ ds, a < d ∧ d ≤ 100000
  | _, [], _, d, hd => by cases hd
  | a, e :: r, h, d, hd => by
    have h3 := daysB_cons.mp h
    rcases List.mem_cons.mp hd with e1 | e1
    · rw [e1]; exact h3.1
    · have := daysB_mem h3.2 d e1
      omega
theorem daysB_drop : ∀ {a : Int} {ds : List Int} {i : Nat} {d : Int}, daysB a ds = true → ds[i]? = some d → daysB d (ds.drop (i + 1)) = true ∧ a < d ∧ d ≤ 100000
  | _, [], _, _, _, h => by cases h
  | a, e :: r, 0, d, h, hd => by
    have h3 := daysB_cons.mp h
    obtain rfl : e = d := Option.some.inj hd
    exact ⟨h3.2, h3.1⟩
  | a, e :: r, i + 1, d, h, hd => by
    have h3 := daysB_cons.mp h
    have h4 := daysB_drop (i := i) h3.2 hd
    exact ⟨h4.1, by omega, h4.2.2⟩
theorem drop_get {α : Type} {l : List α} {i : Nat} {a : α} (h : l[i]? = some a) : l.drop i = a :: l.drop (i + 1) := by
  have h2 : l[i]'(List.getElem?_eq_some_iff.mp h).1 = a := (List.getElem?_eq_some_iff.mp h).2
  rw [← h2]
  exact (List.getElem_cons_drop _).symm
/-- what is paid on a due day -/
def dueP (ps : List Pr) (part : Int) (z : Ln) (d : Int) : Int := if owedF z.left (begunAt ps z d) < part then owedF z.left (begunAt ps z d) else part
/-- a part on each due day: the payments told, the loan behind them -/
def payAll (ps : List Pr) (part : Int) : Ln → List Int → List (List Int) × Ln
  | z, [] => ([], z)
  | z, d :: r => if dueP ps part z d = 0 then ([], z) else
    ([d, dueP ps part z d, (payF z.left (begunAt ps z d) (dueP ps part z d)).1, (payF z.left (begunAt ps z d) (dueP ps part z d)).2.1, (payLn ps z d (dueP ps part z d)).left] :: (payAll ps part (payLn ps z d (dueP ps part z d)) r).1,
      (payAll ps part (payLn ps z d (dueP ps part z d)) r).2)
theorem payAll_nil (ps : List Pr) (part : Int) (z : Ln) : payAll ps part z [] = ([], z) := rfl
theorem payAll_stop {ps : List Pr} {part : Int} {z : Ln} {d : Int} {r : List Int} (h : dueP ps part z d = 0) : payAll ps part z (d :: r) = ([], z) := by
  rw [payAll, if_pos h]
theorem payAll_go {ps : List Pr} {part : Int} {z : Ln} {d : Int} {r : List Int} (h : dueP ps part z d ≠ 0) : payAll ps part z (d :: r) =
    ([d, dueP ps part z d, (payF z.left (begunAt ps z d) (dueP ps part z d)).1, (payF z.left (begunAt ps z d) (dueP ps part z d)).2.1, (payLn ps z d (dueP ps part z d)).left] :: (payAll ps part (payLn ps z d (dueP ps part z d)) r).1,
      (payAll ps part (payLn ps z d (dueP ps part z d)) r).2) := by
  rw [payAll, if_neg h]
theorem owedF_ge {ps : List Pr} {z : Ln} {d : Int} (h : LnOk z) (g : Good ps) (hd : z.day ≤ d) : 0 ≤ owedF z.left (begunAt ps z d) := by
  have := begunAt_ge h g hd
  have := h.l0
  unfold owedF
  omega
theorem dueP_ok {ps : List Pr} {part : Int} {z : Ln} {d : Int} (h : LnOk z) (g : Good ps) (hd : z.day ≤ d) (hp : 0 ≤ part) : 0 ≤ dueP ps part z d ∧ dueP ps part z d ≤ owedF z.left (begunAt ps z d) ∧ dueP ps part z d ≤ part := by
  have := owedF_ge h g hd
  unfold dueP
  split <;> omega
theorem payAll_ok {ps : List Pr} {part : Int} (g : Good ps) (hp : 0 ≤ part) : ∀ {ds : List Int} {z : Ln}, LnOk z → daysB (z.day - 1) ds = true → LnOk (payAll ps part z ds).2
  | [], z, h, _ => h
  | d :: r, z, h, hd => by
    have h3 := daysB_cons.mp hd
    by_cases c : dueP ps part z d = 0
    · rw [payAll_stop c]
      exact h
    · rw [payAll_go c]
      have dp := dueP_ok (part := part) (d := d) h g (by omega) hp
      refine payAll_ok g hp (ds := r) (payLn_ok h g (by omega) h3.1.2 (by omega) dp.2.1) ?_
      show daysB (d - 1) r = true
      cases r with
      | nil => rfl
      | cons e r =>
        have h4 := daysB_cons.mp h3.2
        exact daysB_cons.mpr ⟨⟨by omega, h4.1.2⟩, h4.2⟩
theorem daysB_weak {a b : Int} {r : List Int} (h : daysB a r = true) (hb : b ≤ a) : daysB b r = true := by
  cases r with
  | nil => rfl
  | cons e r =>
    have h4 := daysB_cons.mp h
    exact daysB_cons.mpr ⟨⟨by omega, h4.1.2⟩, h4.2⟩
theorem payAll_len (ps : List Pr) (part : Int) : ∀ (ds : List Int) (z : Ln), (payAll ps part z ds).1.length ≤ ds.length
  | [], _ => Nat.le_refl _
  | d :: r, z => by
    by_cases c : dueP ps part z d = 0
    · rw [payAll_stop c]
      exact Nat.zero_le _
    · rw [payAll_go c]
      have := payAll_len ps part r (payLn ps z d (dueP ps part z d))
      simp only [List.length_cons]
      omega
/-! ### payments in the heap -/
abbrev Ps := Addr × List Int
def psV (ts : List Ps) : List V := ts.map fun t => V.ref t.1
def psL (ts : List Ps) : List (List Int) := ts.map fun t => t.2
structure Rs (H : Hp) (l : Addr) (ts : List Ps) : Prop where
  lst : H l = some (.lst (psV ts))
  prs : ∀ t ∈ ts, H t.1 = some (.tup (t.2.map V.int))
theorem psV_len (ts : List Ps) : (psV ts).length = ts.length := by unfold psV; rw [List.length_map]
theorem psL_len (ts : List Ps) : (psL ts).length = ts.length := by unfold psL; rw [List.length_map]
theorem Rs.same {H H' : Hp} {l : Addr} {ts : List Ps} (R : Rs H l ts) (e : Same H H') : Rs H' l ts := ⟨e _ _ R.lst, fun t ht => e _ _ (R.prs t ht)⟩
theorem Rs.getV {H : Hp} {l : Addr} {ts : List Ps} (R : Rs H l ts) {j : Nat} {p : List Int} (h : (psL ts)[j]? = some p) : ∃ a, (psV ts)[j]? = some (.ref a) ∧ H a = some (.tup (p.map V.int)) := by
  obtain ⟨t, e, rfl⟩ : ∃ t, ts[j]? = some t ∧ p = t.2 := by
    unfold psL at h
    rw [List.getElem?_map] at h
    cases e : ts[j]? with
    | none => rw [e] at h; cases h
    | some t => rw [e] at h; exact ⟨t, rfl, (Option.some.inj h).symm⟩
  exact ⟨t.1, by unfold psV; rw [List.getElem?_map, e]; rfl, R.prs t (List.mem_of_getElem? e)⟩
theorem Rs.snoc {H : Hp} {l p : Addr} {ts : List Ps} (R : Rs H l ts) (v : List Int) (hp : H p = some (.tup (v.map V.int))) : Rs (L2.upd H l (.lst (psV ts ++ [.ref p]))) l (ts ++ [(p, v)]) := by
  have q : ∀ t ∈ ts ++ [(p, v)], H t.1 = some (.tup (t.2.map V.int)) := fun t ht => by
    rcases List.mem_append.mp ht with e | e
    · exact R.prs t e
    · obtain rfl : t = (p, v) := by simpa using e
      exact hp
  refine ⟨by unfold psV; rw [List.map_append]; exact upd_same, fun t ht => ?_⟩
  have h := q t ht
  rw [L2.upd_ne (ne_of h R.lst (by intro z; cases z))]
  exact h
theorem psL_snoc (ts : List Ps) (p : Addr) (v : List Int) : psL (ts ++ [(p, v)]) = psL ts ++ [v] := by unfold psL; rw [List.map_append]; rfl
theorem But.rs {x l : Addr} {H H' : Hp} {ts : List Ps} {C dx : Addr} {fs : List (Str × V)} (a : But x H H') (hx : H x = some (.ins C dx fs)) (R : Rs H l ts) : Rs H' l ts :=
  ⟨a _ _ R.lst (ne_of R.lst hx (by intro q; cases q)), fun t ht => a _ _ (R.prs t ht) (ne_of (R.prs t ht) hx (by intro q; cases q))⟩
def rsD (ls : List (List Int)) : PyData := .list (ls.map tupD)
theorem rs_dpAll {K : PySem.W.Frag} {H : Hp} : ∀ {ts : List Ps}, (∀ t ∈ ts, H t.1 = some (.tup (t.2.map V.int))) → DpAll K H (psV ts) ((psL ts).map tupD)
  | [], _ => .nil
  | t :: r, h => .cons (tup_dp (SqT.of (h t (by simp)))) (rs_dpAll fun u hu => h u (by simp [hu]))
theorem Rs.dp {K : PySem.W.Frag} {H : Hp} {l : Addr} {ts : List Ps} (R : Rs H l ts) : Dp K H (.ref l) (rsD (psL ts)) := .lst (SqL.of R.lst) (rs_dpAll R.prs)
theorem rsD_can (ls : List (List Int)) : (rsD ls).canLay0 = true := by
  unfold rsD
  simp only [PyData.canLay0]
  exact can_all tupD_can ls
theorem rsD_dep (ls : List (List Int)) : (rsD ls).depth ≤ 2 := by
  unfold rsD
  simp only [PyData.depth]
  have := dep_all (f := tupD) (n := 1) tupD_dep ls
  omega
theorem rsD_shaped (ls : List (List Int)) : SeqAt.shaped (rsD ls) = true := shaped_of (rsD_can ls) (Nat.le_trans (rsD_dep ls) (by decide))
theorem rs_ne {K : PySem.W.Frag} {H : Hp} {a b : Addr} {ts us : List Ps} {Q : V → Hp → Prop} (R : Rs H a ts) (S : Rs H b us) (e : psL ts = psL us) (q : Q (.bl false) H) : rNeD K (.ref a) (.ref b) H Q :=
  ⟨_, _, R.dp, S.dp, rsD_shaped _, rsD_shaped _, by rw [e]; rw [show PyData.eqv (rsD (psL us)) (rsD (psL us)) = true from SeqAt.eqv_refl _ (rsD_can _)]; exact q⟩
/-- an object that two changes leave -/
def But2 (x l : Addr) (H H' : Hp) : Prop := ∀ b o, H b = some o → b ≠ x → b ≠ l → H' b = some o
theorem But2.row {x l r dx C : Addr} {H H' : Hp} {ts us : List Trp} {fs : List (Str × V)} (b : But2 x l H H') (hx : H x = some (.ins C dx fs)) (hl : Row H l us) (n : r ≠ l) (R : Row H r ts) : Row H' r ts :=
  ⟨b _ _ R.lst (ne_of R.lst hx (by intro q; cases q)) n, fun t ht => b _ _ (R.prs t ht) (ne_of (R.prs t ht) hx (by intro q; cases q)) (ne_of (R.prs t ht) hl.lst (by intro q; cases q))⟩
theorem But2.tup {x l p dx C : Addr} {H H' : Hp} {us : List Trp} {fs : List (Str × V)} {xs : List V} (b : But2 x l H H') (hx : H x = some (.ins C dx fs)) (hl : Row H l us) (h : H p = some (.tup xs)) : H' p = some (.tup xs) :=
  b _ _ h (ne_of h hx (by intro q; cases q)) (ne_of h hl.lst (by intro q; cases q))
end Toy
/-! ### what is owed behind a plan -/
namespace Toy
/-- the loan, gone on to a day -/
def moveLn (ps : List Pr) (z : Ln) (d : Int) : Ln := ⟨z.left, begunAt ps z d, d⟩
theorem begunAt_move {ps : List Pr} {z : Ln} {d e : Int} (h1 : z.day ≤ d) (h2 : d ≤ e) : begunAt ps (moveLn ps z d) e = begunAt ps z e := by
  unfold begunAt moveLn
  simp only
  unfold begunAt
  rw [gsum_split (m := d) (e := e) h1 h2, Int.mul_add, Int.add_assoc]
theorem moveLn_ok {ps : List Pr} {z : Ln} {d : Int} (h : LnOk z) (g : Good ps) (h1 : z.day ≤ d) (h2 : d ≤ 100000) : LnOk (moveLn ps z d) :=
  ⟨h.l0, h.l1, begunAt_ge h g h1, Int.le_trans h.d0 h1, h2⟩
/-- as the laws walk it: the loan and what is paid -/
def behindS (ps : List Pr) (part : Int) : Ln → Int → List Int → Ln × Int
  | z, t, [] => (z, t)
  | z, t, d :: r => if dueP ps part z d > 0 then behindS ps part (payLn ps z d (dueP ps part z d)) (t + dueP ps part z d) r else behindS ps part (moveLn ps z d) t r
theorem behindS_go {ps : List Pr} {part t : Int} {z : Ln} {d : Int} {r : List Int} (h : dueP ps part z d > 0) : behindS ps part z t (d :: r) = behindS ps part (payLn ps z d (dueP ps part z d)) (t + dueP ps part z d) r := by
  rw [behindS, if_pos h]
theorem behindS_not {ps : List Pr} {part t : Int} {z : Ln} {d : Int} {r : List Int} (h : ¬ dueP ps part z d > 0) : behindS ps part z t (d :: r) = behindS ps part (moveLn ps z d) t r := by
  rw [behindS, if_neg h]
/-- all that the payments told come to -/
def paidSum : List (List Int) → Int
  | [] => 0
  | p :: r => p.getD 1 0 + paidSum r
/-- the last day -/
def endDay (z : Ln) (ds : List Int) : Int := ds.getLastD z.day
/-- what is owed on the last due day -/
def setl (ps : List Pr) (part : Int) (z : Ln) (ds : List Int) : Int := owedF (payAll ps part z ds).2.left (begunAt ps (payAll ps part z ds).2 (endDay z ds))
theorem owedF_zero {l b : Int} (hl : 0 ≤ l) (hb : 0 ≤ b) (h : owedF l b = 0) : l = 0 ∧ b = 0 := by
  unfold owedF at h
  omega
theorem begunAt_left0 {ps : List Pr} {z : Ln} {d : Int} (h : z.left = 0) : begunAt ps z d = z.begun := by
  unfold begunAt
  rw [h, Int.zero_mul, Int.add_zero]
theorem daysB_next {d : Int} {r : List Int} (h : daysB d r = true) : daysB (d - 1) r = true := daysB_weak h (by omega)
/-- nothing is paid: of a part of nothing -/
theorem behindS_none {ps : List Pr} {t : Int} (g : Good ps) : ∀ {ds : List Int} {z : Ln}, LnOk z → daysB (z.day - 1) ds = true →
    (behindS ps 0 z t ds).2 = t ∧ (behindS ps 0 z t ds).1.left = z.left ∧ (behindS ps 0 z t ds).1.begun = begunAt ps z (endDay z ds) ∧ z.day ≤ endDay z ds
  | [], z, h, _ => ⟨rfl, rfl, (begunAt_self ps z).symm, Int.le_refl _⟩
  | d :: r, z, h, hd => by
    have h3 := daysB_cons.mp hd
    have dp := dueP_ok (part := 0) (d := d) h g (by omega) (Int.le_refl 0)
    have h4 := behindS_none (t := t) g (ds := r) (moveLn_ok h g (by omega) h3.1.2) (daysB_next h3.2)
    rw [behindS_not (by omega)]
    have e : endDay (moveLn ps z d) r = endDay z (d :: r) := by
      cases r with
      | nil => rfl
      | cons a b => rfl
    rw [e] at h4
    have h5 : d ≤ endDay z (d :: r) := h4.2.2.2
    exact ⟨h4.1, h4.2.1, h4.2.2.1.trans (begunAt_move (by omega) h5), by omega⟩
/-- nothing is owed: nothing is paid -/
theorem behindS_zero {ps : List Pr} {part t : Int} (g : Good ps) (hp : 0 ≤ part) : ∀ {ds : List Int} {z : Ln}, LnOk z → daysB (z.day - 1) ds = true → z.left = 0 → z.begun = 0 →
    (behindS ps part z t ds).2 = t ∧ (behindS ps part z t ds).1.left = 0 ∧ (behindS ps part z t ds).1.begun = 0
  | [], z, h, _, e1, e2 => ⟨rfl, e1, e2⟩
  | d :: r, z, h, hd, e1, e2 => by
    have h3 := daysB_cons.mp hd
    have dp := dueP_ok (part := part) (d := d) h g (by omega) hp
    have eb : begunAt ps z d = 0 := (begunAt_left0 e1).trans e2
    have e3 : owedF z.left (begunAt ps z d) = 0 := by rw [e1, eb]; rfl
    rw [behindS_not (by omega)]
    exact behindS_zero g hp (ds := r) (moveLn_ok h g (by omega) h3.1.2) (daysB_next h3.2) e1 eb
theorem endDay_cons (z : Ln) (d : Int) (r : List Int) (y : Ln) (hy : y.day = d) : endDay z (d :: r) = endDay y r := by
  unfold endDay
  rw [hy]
  cases r with
  | nil => rfl
  | cons a b => rfl
theorem endDay_ge {z : Ln} {ds : List Int} (h : daysB (z.day - 1) ds = true) : z.day ≤ endDay z ds := by
  unfold endDay
  cases ds with
  | nil => exact Int.le_refl _
  | cons a b =>
    have hm : (a :: b).getLastD z.day ∈ (a :: b) := by
      rw [List.getLastD_eq_getLast?, List.getLast?_eq_some_getLast (List.cons_ne_nil a b)]
      exact List.getLast_mem _
    have := daysB_mem h _ hm
    omega
theorem behindS_eq {ps : List Pr} {part : Int} (g : Good ps) (hp : 0 ≤ part) : ∀ {ds : List Int} {z : Ln} {t : Int}, LnOk z → daysB (z.day - 1) ds = true →
    owedF (behindS ps part z t ds).1.left (behindS ps part z t ds).1.begun = setl ps part z ds ∧ (behindS ps part z t ds).2 = t + paidSum (payAll ps part z ds).1
  | [], z, t, h, _ => by
    unfold setl
    rw [payAll_nil]
    unfold endDay
    show owedF z.left z.begun = owedF z.left (begunAt ps z z.day) ∧ t = t + 0
    rw [begunAt_self]
    exact ⟨rfl, by omega⟩
  | d :: r, z, t, h, hd => by
    have h3 := daysB_cons.mp hd
    have dp := dueP_ok (part := part) (d := d) h g (by omega) hp
    unfold setl
    by_cases c : dueP ps part z d = 0
    · rw [payAll_stop c, behindS_not (by omega)]
      simp only
      have hz : part = 0 ∨ owedF z.left (begunAt ps z d) = 0 := by
        unfold dueP at c
        split at c
        · exact .inr c
        · exact .inl c
      rcases hz with hz | hz
      · subst hz
        have h4 := behindS_none (t := t) g (ds := r) (moveLn_ok h g (show z.day ≤ d by omega) h3.1.2) (daysB_next h3.2)
        rw [← endDay_cons z d r (moveLn ps z d) rfl] at h4
        have h5 : d ≤ endDay z (d :: r) := h4.2.2.2
        rw [h4.1, h4.2.1, h4.2.2.1, begunAt_move (by omega) h5]
        exact ⟨rfl, by simp [paidSum]⟩
      · have hz2 := owedF_zero h.l0 (begunAt_ge h g (by omega)) hz
        have e2 : z.begun = 0 := by rw [← hz2.2, begunAt_left0 hz2.1]
        have h4 := behindS_zero (t := t) g hp (ds := r) (moveLn_ok h g (show z.day ≤ d by omega) h3.1.2) (daysB_next h3.2) hz2.1 hz2.2
        rw [h4.1, h4.2.1, h4.2.2, begunAt_left0 hz2.1, hz2.1, e2]
        exact ⟨rfl, by simp [paidSum]⟩
    · rw [payAll_go c, behindS_go (by omega)]
      have h4 := behindS_eq g hp (ds := r) (t := t + dueP ps part z d) (payLn_ok (c := dueP ps part z d) h g (by omega) h3.1.2 (by omega) dp.2.1) (daysB_next h3.2)
      unfold setl at h4
      rw [← endDay_cons z d r (payLn ps z d (dueP ps part z d)) rfl] at h4
      refine ⟨h4.1, ?_⟩
      rw [h4.2]
      simp only [paidSum]
      show t + dueP ps part z d + _ = t + (dueP ps part z d + _)
      omega
theorem setl_ge {ps : List Pr} {part : Int} {z : Ln} {ds : List Int} (h : LnOk z) (g : Good ps) (hp : 0 ≤ part) (hd : daysB (z.day - 1) ds = true) (he : (payAll ps part z ds).2.day ≤ endDay z ds) : 0 ≤ setl ps part z ds :=
  owedF_ge (payAll_ok g hp h hd) g he
theorem payAll_day {ps : List Pr} {part : Int} : ∀ {ds : List Int} {z : Ln}, daysB (z.day - 1) ds = true → (payAll ps part z ds).2.day ≤ endDay z ds
  | [], z, _ => Int.le_refl _
  | d :: r, z, hd => by
    have h3 := daysB_cons.mp hd
    by_cases c : dueP ps part z d = 0
    · rw [payAll_stop c]
      exact endDay_ge hd
    · rw [payAll_go c, endDay_cons z d r (payLn ps z d (dueP ps part z d)) rfl]
      exact payAll_day (ds := r) (daysB_next h3.2)
/-- all that is owed on the first day settles it -/
theorem setl_all {ps : List Pr} {z : Ln} {d : Int} {r : List Int} (h : LnOk z) (g : Good ps) (hd : daysB (z.day - 1) (d :: r) = true) : setl ps (owedF z.left (begunAt ps z d)) z (d :: r) = 0 := by
  have h3 := daysB_cons.mp hd
  have og := owedF_ge (d := d) h g (by omega)
  have e : dueP ps (owedF z.left (begunAt ps z d)) z d = owedF z.left (begunAt ps z d) := by
    unfold dueP
    split <;> omega
  have b := behindS_eq (t := 0) g og h hd
  rw [← b.1]
  by_cases c : owedF z.left (begunAt ps z d) > 0
  · rw [behindS_go (by omega), e]
    have ez : payLn ps z d (owedF z.left (begunAt ps z d)) = ⟨0, 0, d⟩ := by
      unfold payLn payF
      rw [if_pos rfl]
    have h4 := behindS_zero (part := owedF z.left (begunAt ps z d)) (t := 0 + owedF z.left (begunAt ps z d)) g og (ds := r) (z := payLn ps z d (owedF z.left (begunAt ps z d))) (payLn_ok h g (by omega) h3.1.2 (by omega) (Int.le_refl _)) (by rw [ez]; exact daysB_next h3.2) (by rw [ez]) (by rw [ez])
    rw [h4.2.1, h4.2.2]
    rfl
  · have hz2 := owedF_zero h.l0 (begunAt_ge h g (by omega)) (show owedF z.left (begunAt ps z d) = 0 by omega)
    have e2 : z.begun = 0 := by rw [← hz2.2, begunAt_left0 hz2.1]
    have h4 := behindS_zero (part := owedF z.left (begunAt ps z d)) (t := 0) g og h hd hz2.1 e2
    rw [h4.2.1, h4.2.2]
    rfl
/-- a part of nothing does not settle what is owed -/
theorem setl_nothing {ps : List Pr} {z : Ln} {ds : List Int} (h : LnOk z) (g : Good ps) (hd : daysB (z.day - 1) ds = true) : owedF z.left z.begun ≤ setl ps 0 z ds := by
  have b := behindS_eq (part := 0) (t := 0) g (Int.le_refl 0) h hd
  have n := behindS_none (t := 0) g h hd
  rw [← b.1, n.2.1, n.2.2.1]
  exact owedF_mono (begunAt_mono h g n.2.2.2)
end Toy
/-! ### what a plan costs -/
namespace Toy
def costF (ps : List Pr) (part : Int) : Ln → List Int → Int
  | z, [] => owedF z.left z.begun
  | z, d :: r => if dueP ps part z d > 0 then dueP ps part z d + costF ps part (payLn ps z d (dueP ps part z d)) r else costF ps part (moveLn ps z d) r
theorem costF_go {ps : List Pr} {part : Int} {z : Ln} {d : Int} {r : List Int} (h : dueP ps part z d > 0) : costF ps part z (d :: r) = dueP ps part z d + costF ps part (payLn ps z d (dueP ps part z d)) r := by
  rw [costF, if_pos h]
theorem costF_not {ps : List Pr} {part : Int} {z : Ln} {d : Int} {r : List Int} (h : ¬ dueP ps part z d > 0) : costF ps part z (d :: r) = costF ps part (moveLn ps z d) r := by
  rw [costF, if_neg h]
theorem costF_behind {ps : List Pr} {part : Int} : ∀ {ds : List Int} {z : Ln} {t : Int}, (behindS ps part z t ds).2 + owedF (behindS ps part z t ds).1.left (behindS ps part z t ds).1.begun = t + costF ps part z ds
  | [], _, _ => rfl
  | d :: r, z, t => by
    by_cases c : dueP ps part z d > 0
    · rw [behindS_go c, costF_go c, costF_behind (ds := r)]
      omega
    · rw [behindS_not c, costF_not c, costF_behind (ds := r)]
theorem costF_paid {ps : List Pr} {part : Int} {ds : List Int} {z : Ln} (g : Good ps) (hp : 0 ≤ part) (h : LnOk z) (hd : daysB (z.day - 1) ds = true) : paidSum (payAll ps part z ds).1 + setl ps part z ds = costF ps part z ds := by
  have b := behindS_eq (t := 0) g hp h hd
  have c := costF_behind (ps := ps) (part := part) (ds := ds) (z := z) (t := 0)
  omega
theorem costF_zero {ps : List Pr} {part : Int} {ds : List Int} {z : Ln} (g : Good ps) (hp : 0 ≤ part) (h : LnOk z) (hd : daysB (z.day - 1) ds = true) (e1 : z.left = 0) (e2 : z.begun = 0) : costF ps part z ds = 0 := by
  have b := behindS_zero (part := part) (t := 0) g hp h hd e1 e2
  have c := costF_behind (ps := ps) (part := part) (ds := ds) (z := z) (t := 0)
  rw [b.1, b.2.1, b.2.2] at c
  have e : owedF 0 0 = 0 := rfl
  omega
theorem dueP_move {ps : List Pr} {part : Int} {z : Ln} {e d : Int} (h1 : z.day ≤ e) (h2 : e ≤ d) : dueP ps part (moveLn ps z e) d = dueP ps part z d := by
  unfold dueP
  rw [begunAt_move h1 h2]
  rfl
theorem costF_move {ps : List Pr} {part : Int} {z : Ln} {e d : Int} {r : List Int} (h1 : z.day ≤ e) (h2 : e ≤ d) : costF ps part (moveLn ps z e) (d :: r) = costF ps part z (d :: r) := by
  have e1 := dueP_move (ps := ps) (part := part) h1 h2
  have e2 : ∀ c, payLn ps (moveLn ps z e) d c = payLn ps z d c := fun c => by
    unfold payLn
    rw [begunAt_move h1 h2]
    rfl
  have e3 : moveLn ps (moveLn ps z e) d = moveLn ps z d := by
    show Ln.mk z.left (begunAt ps (moveLn ps z e) d) d = _
    rw [begunAt_move h1 h2]
    rfl
  by_cases c : dueP ps part z d > 0
  · rw [costF_go c, costF_go (by rw [e1]; exact c), e1, e2]
  · rw [costF_not c, costF_not (by rw [e1]; exact c), e3]
/-- a payment of less than all takes as much off what is owed -/
theorem owedF_part {l b c : Int} (hb : 0 ≤ b) (h1 : c ≤ owedF l b) (h0 : 1 ≤ c) : owedF (payF l b c).2.2.1 (payF l b c).2.2.2 = owedF l b - c := by
  unfold payF
  by_cases e : c = owedF l b
  · rw [if_pos e]
    show owedF 0 0 = _
    rw [e]
    show (0 : Int) + (0 + 1000000 - 1) / 1000000 = _
    omega
  · rw [if_neg e]
    unfold owedF at *
    simp only
    split <;> omega
theorem costF_ge {ps : List Pr} {part : Int} (g : Good ps) (hp : 0 ≤ part) : ∀ {ds : List Int} {z : Ln}, LnOk z → daysB (z.day - 1) ds = true → owedF z.left z.begun ≤ costF ps part z ds
  | [], _, _, _ => Int.le_refl _
  | d :: r, z, h, hd => by
    have h3 := daysB_cons.mp hd
    have dp := dueP_ok (part := part) (d := d) h g (by omega) hp
    have om := owedF_mono (l := z.left) (begunAt_mono h g (show z.day ≤ d by omega))
    by_cases c : dueP ps part z d > 0
    · rw [costF_go c]
      have h4 := costF_ge g hp (ds := r) (payLn_ok (c := dueP ps part z d) h g (by omega) h3.1.2 (by omega) dp.2.1) (daysB_next h3.2)
      have h5 := owedF_part (begunAt_ge h g (show z.day ≤ d by omega)) dp.2.1 (by omega)
      unfold payLn at h4
      simp only at h4
      unfold payLn
      omega
    · rw [costF_not c]
      have h4 := costF_ge g hp (ds := r) (moveLn_ok h g (by omega) h3.1.2) (daysB_next h3.2)
      have h5 : owedF (moveLn ps z d).left (moveLn ps z d).begun = owedF z.left (begunAt ps z d) := rfl
      omega
/-- what is owed, in millionths -/
def debt (l b : Int) : Int := l * 1000000 + b
theorem debt_owed {l b : Int} : owedF l b = (debt l b + 999999) / 1000000 := by
  unfold owedF debt
  omega
/-- less than all is paid of both: the one stays below the other -/
theorem pay_below {l b l2 b2 c k : Int} (hb : 0 ≤ b) (hb2 : 0 ≤ b2) (h1 : 1 ≤ c) (h2 : c < owedF l2 b2) (hl : l2 ≤ l) (hk : 0 ≤ k) (hd : debt l2 b2 + k * 1000000 ≤ debt l b) :
    (payF l2 b2 c).2.2.1 ≤ (payF l b c).2.2.1 ∧ debt (payF l2 b2 c).2.2.1 (payF l2 b2 c).2.2.2 + k * 1000000 ≤ debt (payF l b c).2.2.1 (payF l b c).2.2.2 := by
  have h3 : c < owedF l b := by
    rw [debt_owed] at h2 ⊢
    omega
  unfold payF
  rw [if_neg (show ¬ c = owedF l2 b2 by omega), if_neg (show ¬ c = owedF l b by omega)]
  unfold debt at *
  simp only
  split <;> split <;> omega
/-- an early payment does not make it dearer -/
theorem costF_below {ps : List Pr} {part : Int} (g : Good ps) (hp : 0 ≤ part) : ∀ {ds : List Int} {z y : Ln} {k : Int}, LnOk z → LnOk y → y.day = z.day → daysB (z.day - 1) ds = true → y.left ≤ z.left → 0 ≤ k → debt y.left y.begun + k * 1000000 ≤ debt z.left z.begun →
    costF ps part y ds + k ≤ costF ps part z ds
  | [], z, y, k, hz, hy, ed, hd, hl, hk, hb => by
    show owedF y.left y.begun + k ≤ owedF z.left z.begun
    rw [debt_owed, debt_owed]
    omega
  | d :: r, z, y, k, hz, hy, ed, hd, hl, hk, hb => by
    have h3 := daysB_cons.mp hd
    have zd : z.day ≤ d := by omega
    have yd : y.day ≤ d := by omega
    have dz := dueP_ok (part := part) (d := d) hz g zd hp
    have dy := dueP_ok (part := part) (d := d) hy g yd hp
    have bz := begunAt_ge hz g zd
    have bY := begunAt_ge hy g yd
    have gs := (gsum_ok g.rate zd).1
    have hb1 : debt y.left (begunAt ps y d) + k * 1000000 ≤ debt z.left (begunAt ps z d) := by
      have hm := Int.mul_le_mul_of_nonneg_right hl gs
      unfold debt begunAt at *
      rw [ed]
      omega
    have ow : owedF y.left (begunAt ps y d) + k ≤ owedF z.left (begunAt ps z d) := by
      rw [debt_owed, debt_owed]
      omega
    have cz : owedF z.left (begunAt ps z d) ≤ costF ps part z (d :: r) := by
      rw [← costF_move (e := d) zd (Int.le_refl d)]
      exact costF_ge g hp (moveLn_ok hz g zd h3.1.2) (daysB_cons.mpr ⟨⟨by show d - 1 < d; omega, h3.1.2⟩, h3.2⟩)
    by_cases c : owedF y.left (begunAt ps y d) ≤ part
    · -- y pays all
      have ey : dueP ps part y d = owedF y.left (begunAt ps y d) := by
        unfold dueP
        split <;> omega
      have ec : costF ps part y (d :: r) = owedF y.left (begunAt ps y d) := by
        by_cases c2 : dueP ps part y d > 0
        · rw [costF_go c2, ey]
          have ez : payLn ps y d (owedF y.left (begunAt ps y d)) = ⟨0, 0, d⟩ := by
            unfold payLn payF
            rw [if_pos rfl]
          rw [costF_zero g hp (payLn_ok hy g yd h3.1.2 (by omega) (Int.le_refl _)) (by rw [ez]; exact daysB_next h3.2) (by rw [ez]) (by rw [ez])]
          omega
        · rw [costF_not c2]
          have hz2 := owedF_zero hy.l0 bY (show owedF y.left (begunAt ps y d) = 0 by omega)
          rw [costF_zero g hp (moveLn_ok hy g yd h3.1.2) (daysB_next h3.2) hz2.1 hz2.2]
          omega
      omega
    · have ey : dueP ps part y d = part := by
        unfold dueP
        split <;> omega
      have ez : dueP ps part z d = part := by
        unfold dueP
        split <;> omega
      by_cases c2 : part > 0
      · rw [costF_go (by rw [ey]; exact c2), costF_go (by rw [ez]; exact c2), ey, ez]
        have pb := pay_below bz bY (show 1 ≤ part by omega) (by omega) hl hk hb1
        have h4 := costF_below g hp (ds := r) (k := k) (payLn_ok (c := part) hz g zd h3.1.2 (by omega) (by omega)) (payLn_ok (c := part) hy g yd h3.1.2 (by omega) (by omega)) rfl (daysB_next h3.2) pb.1 hk pb.2
        omega
      · rw [costF_not (by rw [ey]; exact c2), costF_not (by rw [ez]; exact c2)]
        exact costF_below g hp (ds := r) (k := k) (moveLn_ok hz g zd h3.1.2) (moveLn_ok hy g yd h3.1.2) rfl (daysB_next h3.2) hl hk hb1
/-- what an early payment saves is not below nothing -/
theorem saved_ge {ps : List Pr} {part : Int} {z : Ln} {e c d : Int} {r : List Int} (g : Good ps) (hp : 0 ≤ part) (h : LnOk z) (h1 : z.day ≤ e) (h2 : e ≤ d) (hd : daysB (z.day - 1) (d :: r) = true) (c1 : 1 ≤ c) (c2 : c ≤ owedF z.left (begunAt ps z e)) :
    0 ≤ costF ps part z (d :: r) - c - costF ps part (payLn ps z e c) (d :: r) := by
  have h3 := daysB_cons.mp hd
  have hde : daysB (e - 1) (d :: r) = true := daysB_cons.mpr ⟨⟨by omega, h3.1.2⟩, h3.2⟩
  have hm := moveLn_ok h g h1 (show e ≤ 100000 by omega)
  have hpay := payLn_ok h g h1 (show e ≤ 100000 by omega) c1 c2
  rw [← costF_move h1 h2]
  by_cases ec : c = owedF z.left (begunAt ps z e)
  · have ez : payLn ps z e c = ⟨0, 0, e⟩ := by
      unfold payLn payF
      rw [if_pos ec]
    rw [costF_zero (z := payLn ps z e c) g hp hpay (by rw [ez]; exact hde) (by rw [ez]) (by rw [ez])]
    have h4 := costF_ge g hp hm hde
    have h5 : owedF (moveLn ps z e).left (moveLn ps z e).begun = owedF z.left (begunAt ps z e) := rfl
    omega
  · have pk := payF_ok h.l0 (begunAt_ge h g h1) c1 c2
    have h4 := costF_below (part := part) g hp (z := moveLn ps z e) (y := payLn ps z e c) (k := c) hm hpay rfl hde pk.2.2.2.2.1 (by omega) (by
      show debt (payF z.left (begunAt ps z e) c).2.2.1 (payF z.left (begunAt ps z e) c).2.2.2 + c * 1000000 ≤ debt z.left (begunAt ps z e)
      unfold payF
      rw [if_neg ec]
      unfold debt
      simp only
      split <;> omega)
    omega
theorem payAll_five {ps : List Pr} {part : Int} : ∀ {ds : List Int} {z : Ln}, ∀ p ∈ (payAll ps part z ds).1, ∃ a b c d e, p = [a, b, c, d, e]
  | [], _, p, hp => by cases hp
  | d :: r, z, p, hp => by
    by_cases c : dueP ps part z d = 0
    · rw [payAll_stop c] at hp
      cases hp
    · rw [payAll_go c] at hp
      rcases List.mem_cons.mp hp with e | e
      · exact ⟨_, _, _, _, _, e⟩
      · exact payAll_five p e
end Toy
namespace Toy
open PySem L2
theorem end_atC {z : Ln} {ds : List Int} (h : ds ≠ []) : atI (ds.map V.int) (-1) = some (.int (endDay z ds)) := by
  obtain ⟨q, e, rfl⟩ := snoc_of h
  rw [List.map_append]
  unfold endDay
  rw [getLastD_append]
  exact atI_last _ _
theorem end_leC {z : Ln} {ds : List Int} (h : daysB (z.day - 1) ds = true) (ne : ds ≠ []) : endDay z ds ≤ 100000 := by
  obtain ⟨q, e, rfl⟩ := snoc_of ne
  unfold endDay
  rw [getLastD_append]
  exact (daysB_mem h e (by simp)).2
end Toy
/-! ### texts and words -/
namespace L2
open PySem PySem.Spec PyProof.Rows
section
variable {X : Cx}
/-- a text, none or one time -/
theorem op_repS : OpR X (binaryOp .Mult) (fun x y H Q => ∃ i k, x = .str i ∧ y = .int k ∧ (k = 0 ∨ k = 1) ∧ Q (.str (if k = 0 then Str.empty else i)) H) := by
  intro pins s σ H x y v u Q I rx ry h
  obtain ⟨i, k, rfl, rfl, hk, q⟩ := h
  obtain ⟨t, rfl⟩ := rx
  obtain ⟨t', rfl⟩ := ry
  rcases hk with rfl | rfl
  · rw [if_pos rfl] at q
    exact P.mul_str_none (by decide) (by decide) ⟨.str Str.empty, H, I.tok _, ⟨_, rfl⟩, q⟩
  · rw [if_neg (by decide)] at q
    refine P.mul_str (by decide) (fun _ h => by simp at h) (fun _ h => by simp at h) ?_
    rw [if_neg (by decide), if_pos (by simp)]
    exact ⟨.str i, H, I, ⟨_, rfl⟩, q⟩
theorem ix_tupK {K : PySem.W.Frag} (h : X.K = K := by rfl) : IxR X (rIxT K) := by
  subst h
  exact ix_tup
end
end L2
namespace Toy
open PySem L2
/-- the four words -/
inductive Wd where | pl | le | co | sa
def wdS : Wd → Str
  | .pl => "plan"
  | .le => "least"
  | .co => "cost"
  | .sa => "saved"
/-- what is told of a word -/
def dueK (w : Wd) (at1 : Int) (ds : List Int) (part e c o : Int) : Str :=
  if daysB (at1 - 1) ds = false then "day" else
  match w with
  | .pl => if part < 1 then "pay" else ""
  | .le => if ds = [] then "day" else ""
  | .co => if ds = [] then "day" else if part < 1 then "pay" else ""
  | .sa => if ds = [] then "day" else if part < 1 then "pay" else if ¬ (at1 ≤ e ∧ e ≤ ds.headD 0) then "day" else if ¬ (1 ≤ c ∧ c ≤ o) then "pay" else ""
end Toy
namespace Toy
open PySem L2
/-! ### the text by places -/
def top (i : Nat) : Stmt := PySem.Challenge.pw_loanplan_k12_plans_refused.main.body.getD i (.Pass ⟨0, 0, 0, 0⟩)
abbrev s_need_rate : Stmt := top 9
abbrev s_checked : Stmt := top 10
abbrev s_grown : Stmt := top 11
abbrev s_need_days : Stmt := top 13
abbrev s_need_some : Stmt := top 14
abbrev s_need_part : Stmt := top 15
abbrev s_rows_of : Stmt := top 16
abbrev s_plan : Stmt := top 17
abbrev s_settles : Stmt := top 18
abbrev s_least_part : Stmt := top 19
abbrev s_whole_cost : Stmt := top 20
abbrev s_cost : Stmt := top 21
abbrev s_saved : Stmt := top 22
abbrev s_need_amount : Stmt := top 26
abbrev s_Loan_init : Stmt := inClass (top 27) 0
abbrev s_Loan_stand : Stmt := inClass (top 27) 1
abbrev s_Loan_owed : Stmt := inClass (top 27) 2
abbrev s_Loan_pay : Stmt := inClass (top 27) 3
abbrev s_Loan_change : Stmt := inClass (top 27) 4
abbrev s_Loan_twin : Stmt := inClass (top 27) 5
abbrev s_law_cell_at : Stmt := top 29
abbrev s_law_mixed : Stmt := top 30
abbrev s_law_rate_by : Stmt := top 31
abbrev s_law_row_by : Stmt := top 32
abbrev s_law_sum_by : Stmt := top 33
abbrev s_law_amount_by : Stmt := top 34
abbrev s_law_owed : Stmt := top 35
abbrev s_law_parts : Stmt := top 36
abbrev s_law_days_by : Stmt := top 37
abbrev s_law_at_by : Stmt := top 38
abbrev s_law_made : Stmt := top 39
abbrev s_law_loan_by : Stmt := top 40
abbrev s_law_turned : Stmt := top 41
abbrev s_law_days_good : Stmt := top 42
abbrev s_law_asked : Stmt := top 43
abbrev s_law_due : Stmt := top 44
abbrev s_law_behind : Stmt := top 45
abbrev s_law_good_then : Stmt := top 46
abbrev s_law : Stmt := top 47
/-! ### the names of each def by slots -/
theorem sc_need_rate : FnScope ["rate"] ["rate"] (defScope s_need_rate) := ⟨rfl, rfl, rfl, by decide +kernel, rfl, by decide +kernel, by decide +kernel⟩
theorem sc_checked : FnScope ["rates", "ahead", "day", "rate"] ["rates"] (defScope s_checked) := ⟨rfl, rfl, rfl, by decide +kernel, rfl, by decide +kernel, by decide +kernel⟩
theorem sc_grown : FnScope ["rates", "start", "end", "total", "stop", "k", "day", "rate", "begin"] ["rates", "start", "end"] (defScope s_grown) := ⟨rfl, rfl, rfl, by decide +kernel, rfl, by decide +kernel, by decide +kernel⟩
theorem sc_need_days : FnScope ["loan", "days", "ahead", "day"] ["loan", "days"] (defScope s_need_days) := ⟨rfl, rfl, rfl, by decide +kernel, rfl, by decide +kernel, by decide +kernel⟩
theorem sc_need_some : FnScope ["loan", "days"] ["loan", "days"] (defScope s_need_some) := ⟨rfl, rfl, rfl, by decide +kernel, rfl, by decide +kernel, by decide +kernel⟩
theorem sc_need_part : FnScope ["part"] ["part"] (defScope s_need_part) := ⟨rfl, rfl, rfl, by decide +kernel, rfl, by decide +kernel, by decide +kernel⟩
theorem sc_rows_of : FnScope ["loan", "days", "part", "rows", "day", "paid", "interest", "off"] ["loan", "days", "part"] (defScope s_rows_of) := ⟨rfl, rfl, rfl, by decide +kernel, rfl, by decide +kernel, by decide +kernel⟩
theorem sc_plan : FnScope ["loan", "days", "part"] ["loan", "days", "part"] (defScope s_plan) := ⟨rfl, rfl, rfl, by decide +kernel, rfl, by decide +kernel, by decide +kernel⟩
theorem sc_settles : FnScope ["loan", "days", "part", "other"] ["loan", "days", "part"] (defScope s_settles) := ⟨rfl, rfl, rfl, by decide +kernel, rfl, by decide +kernel, by decide +kernel⟩
theorem sc_least_part : FnScope ["loan", "days", "low", "high", "middle"] ["loan", "days"] (defScope s_least_part) := ⟨rfl, rfl, rfl, by decide +kernel, rfl, by decide +kernel, by decide +kernel⟩
theorem sc_whole_cost : FnScope ["loan", "days", "part", "other", "total", "row"] ["loan", "days", "part"] (defScope s_whole_cost) := ⟨rfl, rfl, rfl, by decide +kernel, rfl, by decide +kernel, by decide +kernel⟩
theorem sc_cost : FnScope ["loan", "days", "part"] ["loan", "days", "part"] (defScope s_cost) := ⟨rfl, rfl, rfl, by decide +kernel, rfl, by decide +kernel, by decide +kernel⟩
theorem sc_saved : FnScope ["loan", "days", "part", "day", "cents", "other"] ["loan", "days", "part", "day", "cents"] (defScope s_saved) := ⟨rfl, rfl, rfl, by decide +kernel, rfl, by decide +kernel, by decide +kernel⟩
theorem sc_need_amount : FnScope ["amount"] ["amount"] (defScope s_need_amount) := ⟨rfl, rfl, rfl, by decide +kernel, rfl, by decide +kernel, by decide +kernel⟩
theorem sc_Loan_init : FnScope ["self", "amount", "rates"] ["self", "amount", "rates"] (defScope s_Loan_init) := ⟨rfl, rfl, rfl, by decide +kernel, rfl, by decide +kernel, by decide +kernel⟩
theorem sc_Loan_stand : FnScope ["self", "day"] ["self", "day"] (defScope s_Loan_stand) := ⟨rfl, rfl, rfl, by decide +kernel, rfl, by decide +kernel, by decide +kernel⟩
theorem sc_Loan_owed : FnScope ["self", "day", "left", "begun"] ["self", "day"] (defScope s_Loan_owed) := ⟨rfl, rfl, rfl, by decide +kernel, rfl, by decide +kernel, by decide +kernel⟩
theorem sc_Loan_pay : FnScope ["self", "day", "cents", "left", "begun", "owed", "interest", "off"] ["self", "day", "cents"] (defScope s_Loan_pay) := ⟨rfl, rfl, rfl, by decide +kernel, rfl, by decide +kernel, by decide +kernel⟩
theorem sc_Loan_change : FnScope ["self", "day", "rate"] ["self", "day", "rate"] (defScope s_Loan_change) := ⟨rfl, rfl, rfl, by decide +kernel, rfl, by decide +kernel, by decide +kernel⟩
theorem sc_Loan_twin : FnScope ["self", "made"] ["self"] (defScope s_Loan_twin) := ⟨rfl, rfl, rfl, by decide +kernel, rfl, by decide +kernel, by decide +kernel⟩
theorem sc_law_cell_at : FnScope ["_law_script", "_law_k"] ["_law_script", "_law_k"] (defScope s_law_cell_at) := ⟨rfl, rfl, rfl, by decide +kernel, rfl, by decide +kernel, by decide +kernel⟩
theorem sc_law_mixed : FnScope ["_law_cell", "_law_many"] ["_law_cell", "_law_many"] (defScope s_law_mixed) := ⟨rfl, rfl, rfl, by decide +kernel, rfl, by decide +kernel, by decide +kernel⟩
theorem sc_law_rate_by : FnScope ["_law_cell"] ["_law_cell"] (defScope s_law_rate_by) := ⟨rfl, rfl, rfl, by decide +kernel, rfl, by decide +kernel, by decide +kernel⟩
theorem sc_law_row_by : FnScope ["_law_cell", "_law_many", "_law_wide", "_law_row", "_law_k", "_law_day"] ["_law_cell", "_law_many", "_law_wide"] (defScope s_law_row_by) := ⟨rfl, rfl, rfl, by decide +kernel, rfl, by decide +kernel, by decide +kernel⟩
theorem sc_law_sum_by : FnScope ["_law_row", "_law_start", "_law_end", "_law_total", "_law_k", "_law_days"] ["_law_row", "_law_start", "_law_end"] (defScope s_law_sum_by) := ⟨rfl, rfl, rfl, by decide +kernel, rfl, by decide +kernel, by decide +kernel⟩
theorem sc_law_amount_by : FnScope ["_law_cell"] ["_law_cell"] (defScope s_law_amount_by) := ⟨rfl, rfl, rfl, by decide +kernel, rfl, by decide +kernel, by decide +kernel⟩
theorem sc_law_owed : FnScope ["_law_left", "_law_begun"] ["_law_left", "_law_begun"] (defScope s_law_owed) := ⟨rfl, rfl, rfl, by decide +kernel, rfl, by decide +kernel, by decide +kernel⟩
theorem sc_law_parts : FnScope ["_law_left", "_law_begun", "_law_cents", "_law_owed_here", "_law_interest", "_law_off"] ["_law_left", "_law_begun", "_law_cents"] (defScope s_law_parts) := ⟨rfl, rfl, rfl, by decide +kernel, rfl, by decide +kernel, by decide +kernel⟩
theorem sc_law_days_by : FnScope ["_law_cell", "_law_at", "_law_many", "_law_wide", "_law_days", "_law_k"] ["_law_cell", "_law_at", "_law_many", "_law_wide"] (defScope s_law_days_by) := ⟨rfl, rfl, rfl, by decide +kernel, rfl, by decide +kernel, by decide +kernel⟩
theorem sc_law_at_by : FnScope ["_law_cell"] ["_law_cell"] (defScope s_law_at_by) := ⟨rfl, rfl, rfl, by decide +kernel, rfl, by decide +kernel, by decide +kernel⟩
theorem sc_law_made : FnScope ["_law_amount", "_law_row", "_law_cell", "_law_keep", "_law_loan", "_law_pair"] ["_law_amount", "_law_row", "_law_cell"] (defScope s_law_made) := ⟨rfl, rfl, rfl, by decide +kernel, rfl, by decide +kernel, by decide +kernel⟩
theorem sc_law_loan_by : FnScope ["_law_script", "_law_row", "_law_amount", "_law_loan", "_law_left", "_law_begun", "_law_at", "_law_cents", "_law_more"] ["_law_script", "_law_row"] (defScope s_law_loan_by) := ⟨rfl, rfl, rfl, by decide +kernel, rfl, by decide +kernel, by decide +kernel⟩
theorem sc_law_turned : FnScope ["_law_days", "_law_at", "_law_cell", "_law_place", "_law_ahead", "_law_day"] ["_law_days", "_law_at", "_law_cell"] (defScope s_law_turned) := ⟨rfl, rfl, rfl, by decide +kernel, rfl, by decide +kernel, by decide +kernel⟩
theorem sc_law_days_good : FnScope ["_law_days", "_law_at", "_law_ahead", "_law_day"] ["_law_days", "_law_at"] (defScope s_law_days_good) := ⟨rfl, rfl, rfl, by decide +kernel, rfl, by decide +kernel, by decide +kernel⟩
theorem sc_law_asked : FnScope ["_law_word", "_law_loan", "_law_days", "_law_part", "_law_early", "e"] ["_law_word", "_law_loan", "_law_days", "_law_part", "_law_early"] (defScope s_law_asked) := ⟨rfl, rfl, rfl, by decide +kernel, rfl, by decide +kernel, by decide +kernel⟩
theorem sc_law_due : FnScope ["_law_word", "_law_days", "_law_at", "_law_part", "_law_early", "_law_owed_here"] ["_law_word", "_law_days", "_law_at", "_law_part", "_law_early", "_law_owed_here"] (defScope s_law_due) := ⟨rfl, rfl, rfl, by decide +kernel, rfl, by decide +kernel, by decide +kernel⟩
theorem sc_law_behind : FnScope ["_law_stood", "_law_row", "_law_days", "_law_part", "_law_left", "_law_begun", "_law_at", "_law_paid", "_law_day", "_law_cents"] ["_law_stood", "_law_row", "_law_days", "_law_part"] (defScope s_law_behind) := ⟨rfl, rfl, rfl, by decide +kernel, rfl, by decide +kernel, by decide +kernel⟩
theorem sc_law_good_then : FnScope ["_law_loan", "_law_stood", "_law_row", "_law_first", "_law_days", "_law_part", "_law_now", "_law_early", "_law_word", "_law_paid", "_law_owed_here", "_law_least"] ["_law_loan", "_law_stood", "_law_row", "_law_first"] (defScope s_law_good_then) := ⟨rfl, rfl, rfl, by decide +kernel, rfl, by decide +kernel, by decide +kernel⟩
theorem sc_law : FnScope ["_law_script", "_law_row", "_law_loan", "_law_stood", "_law_left", "_law_begun", "_law_at", "_law_days", "_law_part", "_law_day", "_law_owed_here", "_law_early", "_law_handed", "_law_words", "_law_word"] ["_law_script"] (defScope s_law) := ⟨rfl, rfl, rfl, by decide +kernel, rfl, by decide +kernel, by decide +kernel⟩
/-! ### what the top has left -/
structure Txt (K : PySem.W.Frag) (mg : Str → Option Value) where
  b_len : mg "len" = none
  b_max : mg "max" = none
  b_min : mg "min" = none
  b_int : mg "int" = none
  b_list : mg "list" = none
  b_range : mg "range" = none
  b_isinstance : mg "isinstance" = none
  b_ValueError : mg "ValueError" = none
  c_MOST_DAY : ∃ t, mg "MOST_DAY" = some (.int 100000 t)
  c_MOST_RATE : ∃ t, mg "MOST_RATE" = some (.int 100000 t)
  c_MOST_AMOUNT : ∃ t, mg "MOST_AMOUNT" = some (.int 1000000000000 t)
  c_MILLION : ∃ t, mg "MILLION" = some (.int 1000000 t)
  a_LoanError : Addr
  g_LoanError : mg "LoanError" = some (.ref a_LoanError)
  e_LoanError : ExC K a_LoanError
  a_BadAmount : Addr
  g_BadAmount : mg "BadAmount" = some (.ref a_BadAmount)
  e_BadAmount : ExC K a_BadAmount
  a_BadRate : Addr
  g_BadRate : mg "BadRate" = some (.ref a_BadRate)
  e_BadRate : ExC K a_BadRate
  a_BadDay : Addr
  g_BadDay : mg "BadDay" = some (.ref a_BadDay)
  e_BadDay : ExC K a_BadDay
  a_BadPay : Addr
  g_BadPay : mg "BadPay" = some (.ref a_BadPay)
  e_BadPay : ExC K a_BadPay
  a_Loan : Addr
  g_Loan : mg "Loan" = some (.ref a_Loan)
  cl_Loan : Cls K a_Loan
  n_Loan_left : NoAttr K a_Loan "left"
  n_Loan_begun : NoAttr K a_Loan "begun"
  n_Loan_day : NoAttr K a_Loan "day"
  n_Loan_rates : NoAttr K a_Loan "rates"
  i_BadAmount : ExcC K a_BadAmount
  ki_BadAmount_BadPay : PySem.W.kitOne K (.ref a_BadAmount) (.ref a_BadPay) = some false
  ki_BadAmount_ValueError : PySem.W.kitOne K (.ref a_BadAmount) (.type "ValueError") = some true
  i_BadDay : ExcC K a_BadDay
  ki_BadDay_BadPay : PySem.W.kitOne K (.ref a_BadDay) (.ref a_BadPay) = some false
  ki_BadDay_ValueError : PySem.W.kitOne K (.ref a_BadDay) (.type "ValueError") = some true
  i_BadPay : ExcC K a_BadPay
  ki_BadPay_BadPay : PySem.W.kitOne K (.ref a_BadPay) (.ref a_BadPay) = some true
  ki_BadPay_ValueError : PySem.W.kitOne K (.ref a_BadPay) (.type "ValueError") = some true
  i_BadRate : ExcC K a_BadRate
  ki_BadRate_BadPay : PySem.W.kitOne K (.ref a_BadRate) (.ref a_BadPay) = some false
  ki_BadRate_ValueError : PySem.W.kitOne K (.ref a_BadRate) (.type "ValueError") = some true
  m_BadAmount_BadDay : PySem.W.exmOne K (.ref a_BadAmount) (.ref a_BadDay) = some false
  m_BadAmount_LoanError : PySem.W.exmOne K (.ref a_BadAmount) (.ref a_LoanError) = some true
  m_BadDay_BadDay : PySem.W.exmOne K (.ref a_BadDay) (.ref a_BadDay) = some true
  m_BadDay_LoanError : PySem.W.exmOne K (.ref a_BadDay) (.ref a_LoanError) = some true
  m_BadPay_BadDay : PySem.W.exmOne K (.ref a_BadPay) (.ref a_BadDay) = some false
  m_BadPay_LoanError : PySem.W.exmOne K (.ref a_BadPay) (.ref a_LoanError) = some true
  m_BadRate_BadDay : PySem.W.exmOne K (.ref a_BadRate) (.ref a_BadDay) = some false
  m_BadRate_LoanError : PySem.W.exmOne K (.ref a_BadRate) (.ref a_LoanError) = some true
section
variable {K : PySem.W.Frag} {mg : Str → Option Value}
def sp_need_rate (T : Txt K mg) : Sp := fun vs H Q E => ∃ (r : Int), vs = [.int r] ∧ (¬ (0 ≤ r ∧ r ≤ 100000) → E (.ref T.a_BadRate) none H) ∧ (0 ≤ r → r ≤ 100000 → Q .non H)
def sp_checked (T : Txt K mg) : Sp := fun vs H Q E => ∃ (l : Addr) (ts : List Trp), vs = [.ref l] ∧ Row H l ts ∧
  (chk (-1) (vals ts) = .day → E (.ref T.a_BadDay) none H) ∧ (chk (-1) (vals ts) = .rate → E (.ref T.a_BadRate) none H) ∧
  (chk (-1) (vals ts) = .ok → ∀ l2 H', Same H H' → H l2 = none → Row H' l2 ts → Q (.ref l2) H')
def sp_grown (_ : Txt K mg) : Sp := fun vs H Q _ => ∃ (l : Addr) (ts : List Trp) (s e : Int), vs = [.ref l, .int s, .int e] ∧ Row H l ts ∧ ts.length ≤ 1000 ∧ Good (vals ts) ∧ 0 ≤ s ∧ s ≤ e ∧ Q (.int (gsum (vals ts) s e)) H
def sp_need_days (T : Txt K mg) : Sp := fun vs H Q E => ∃ (x dx l dl : Addr) (us : List Trp) (z : Ln) (ds : List Int), vs = [.ref x, .ref dl] ∧ LoanAt T.a_Loan H x dx l us z ∧ SqL K H dl (ds.map V.int) ∧
  (daysB (z.day - 1) ds = false → E (.ref T.a_BadDay) none H) ∧ (daysB (z.day - 1) ds = true → Q .non H)
def sp_need_some (T : Txt K mg) : Sp := fun vs H Q E => ∃ (x dx l dl : Addr) (us : List Trp) (z : Ln) (ds : List Int), vs = [.ref x, .ref dl] ∧ LoanAt T.a_Loan H x dx l us z ∧ SqL K H dl (ds.map V.int) ∧
  (daysB (z.day - 1) ds = false ∨ ds = [] → E (.ref T.a_BadDay) none H) ∧ (daysB (z.day - 1) ds = true → ds ≠ [] → Q .non H)
def sp_need_part (T : Txt K mg) : Sp := fun vs H Q E => ∃ (r : Int), vs = [.int r] ∧ (r < 1 → E (.ref T.a_BadPay) none H) ∧ (1 ≤ r → Q .non H)
def sp_Loan_stand (T : Txt K mg) : Sp := fun vs H Q E => ∃ (x dx l : Addr) (ts : List Trp) (z : Ln) (d : Int), vs = [.ref x, .int d] ∧ LoanAt T.a_Loan H x dx l ts z ∧ Rok (vals ts) ∧ LnOk z ∧
  (¬ (z.day ≤ d ∧ d ≤ 100000) → E (.ref T.a_BadDay) none H) ∧
  (z.day ≤ d → d ≤ 100000 → ∀ p H', Same H H' → H p = none → H' p = some (.tup [.int z.left, .int (begunAt (vals ts) z d)]) → Q (.ref p) H')
def sp_Loan_owed (T : Txt K mg) : Sp := fun vs H Q E => ∃ (x dx l : Addr) (ts : List Trp) (z : Ln) (d : Int), vs = [.ref x, .int d] ∧ LoanAt T.a_Loan H x dx l ts z ∧ Rok (vals ts) ∧ LnOk z ∧
  (¬ (z.day ≤ d ∧ d ≤ 100000) → E (.ref T.a_BadDay) none H) ∧
  (z.day ≤ d → d ≤ 100000 → ∀ H', Same H H' → Q (.int (owedF z.left (begunAt (vals ts) z d))) H')
def sp_Loan_pay (T : Txt K mg) : Sp := fun vs H Q E => ∃ (x dx l : Addr) (ts : List Trp) (z : Ln) (d c : Int), vs = [.ref x, .int d, .int c] ∧ LoanAt T.a_Loan H x dx l ts z ∧ Rok (vals ts) ∧ LnOk z ∧
  (¬ (z.day ≤ d ∧ d ≤ 100000) → E (.ref T.a_BadDay) none H) ∧
  (z.day ≤ d → d ≤ 100000 → ¬ (1 ≤ c ∧ c ≤ owedF z.left (begunAt (vals ts) z d)) → ∀ H', Same H H' → E (.ref T.a_BadPay) none H') ∧
  (z.day ≤ d → d ≤ 100000 → 1 ≤ c → c ≤ owedF z.left (begunAt (vals ts) z d) → ∀ p H', But x H H' → H p = none → LoanAt T.a_Loan H' x dx l ts (payLn (vals ts) z d c) →
    H' p = some (.tup [.int (payF z.left (begunAt (vals ts) z d) c).1, .int (payF z.left (begunAt (vals ts) z d) c).2.1]) → Q (.ref p) H')
def sp_rows_of (T : Txt K mg) : Sp := fun vs H Q _ => ∃ (x dx l dl : Addr) (us : List Trp) (z : Ln) (ds : List Int) (part : Int), vs = [.ref x, .ref dl, .int part] ∧ LoanAt T.a_Loan H x dx l us z ∧ SqL K H dl (ds.map V.int) ∧ Rok (vals us) ∧ LnOk z ∧ daysB (z.day - 1) ds = true ∧ ds.length ≤ 1000 ∧ 0 ≤ part ∧
  ∀ rl ts H', But x H H' → H rl = none → Rs H' rl ts → psL ts = (payAll (vals us) part z ds).1 → LoanAt T.a_Loan H' x dx l us (payAll (vals us) part z ds).2 → Q (.ref rl) H'
def sp_need_amount (T : Txt K mg) : Sp := fun vs H Q E => ∃ (r : Int), vs = [.int r] ∧ (¬ (1 ≤ r ∧ r ≤ 1000000000000) → E (.ref T.a_BadAmount) none H) ∧ (1 ≤ r → r ≤ 1000000000000 → Q .non H)
def sp_Loan_init (T : Txt K mg) : Sp := fun vs H Q E => ∃ (x dx l : Addr) (am : Int) (ts : List Trp), vs = [.ref x, .int am, .ref l] ∧ H x = some (.ins T.a_Loan dx []) ∧ Row H l ts ∧
  (¬ (1 ≤ am ∧ am ≤ 1000000000000) → E (.ref T.a_BadAmount) none H) ∧
  (1 ≤ am → am ≤ 1000000000000 → chk (-1) (vals ts) = .day → E (.ref T.a_BadDay) none H) ∧ (1 ≤ am → am ≤ 1000000000000 → chk (-1) (vals ts) = .rate → E (.ref T.a_BadRate) none H) ∧
  (1 ≤ am → am ≤ 1000000000000 → chk (-1) (vals ts) = .ok → ∀ l2 H', But x H H' → H l2 = none → LoanAt T.a_Loan H' x dx l2 ts ⟨am, 0, 0⟩ → Q .non H')
def sp_Loan_twin (T : Txt K mg) : Sp := fun vs H Q _ => ∃ (x dx l : Addr) (ts : List Trp) (z : Ln), vs = [.ref x] ∧ LoanAt T.a_Loan H x dx l ts z ∧ Rok (vals ts) ∧
  ∀ (y dy l2 : Addr) (H' : Hp), Same H H' → H y = none → H l2 = none → LoanAt T.a_Loan H' y dy l2 ts z → Q (.ref y) H'
def sp_plan (T : Txt K mg) : Sp := fun vs H Q E => ∃ (x dx l dl : Addr) (us : List Trp) (z : Ln) (ds : List Int) (part : Int), vs = [.ref x, .ref dl, .int part] ∧ LoanAt T.a_Loan H x dx l us z ∧ SqL K H dl (ds.map V.int) ∧ Rok (vals us) ∧ LnOk z ∧ ds.length ≤ 1000 ∧
  (daysB (z.day - 1) ds = false → E (.ref T.a_BadDay) none H) ∧ (daysB (z.day - 1) ds = true → part < 1 → E (.ref T.a_BadPay) none H) ∧
  (daysB (z.day - 1) ds = true → 1 ≤ part → ∀ rl ts H', Same H H' → H rl = none → Rs H' rl ts → psL ts = (payAll (vals us) part z ds).1 → Q (.ref rl) H')
theorem end_at {z : Ln} {ds : List Int} (h : ds ≠ []) : atI (ds.map V.int) (-1) = some (.int (endDay z ds)) := by
  obtain ⟨q, e, rfl⟩ := snoc_of h
  rw [List.map_append]
  unfold endDay
  rw [getLastD_append]
  exact atI_last _ _
theorem end_le {z : Ln} {ds : List Int} (h : daysB (z.day - 1) ds = true) (ne : ds ≠ []) : endDay z ds ≤ 100000 := by
  obtain ⟨q, e, rfl⟩ := snoc_of ne
  unfold endDay
  rw [getLastD_append]
  exact (daysB_mem h e (by simp)).2
def sp_settles (T : Txt K mg) : Sp := fun vs H Q _ => ∃ (x dx l dl : Addr) (us : List Trp) (z : Ln) (ds : List Int) (part : Int), vs = [.ref x, .ref dl, .int part] ∧ LoanAt T.a_Loan H x dx l us z ∧ SqL K H dl (ds.map V.int) ∧ Rok (vals us) ∧ LnOk z ∧ daysB (z.day - 1) ds = true ∧ ds ≠ [] ∧ ds.length ≤ 1000 ∧ 0 ≤ part ∧
  ∀ H', Same H H' → Q (.bl (decide (V.int (setl (vals us) part z ds) = V.int 0))) H'
def sp_least_part (T : Txt K mg) : Sp := fun vs H Q E => ∃ (x dx l dl : Addr) (us : List Trp) (z : Ln) (ds : List Int), vs = [.ref x, .ref dl] ∧ LoanAt T.a_Loan H x dx l us z ∧ SqL K H dl (ds.map V.int) ∧ Rok (vals us) ∧ LnOk z ∧ ds.length ≤ 1000 ∧
  (daysB (z.day - 1) ds = false ∨ ds = [] → E (.ref T.a_BadDay) none H) ∧
  (daysB (z.day - 1) ds = true → ds ≠ [] → ∀ n H', Same H H' → 0 ≤ n → setl (vals us) n z ds = 0 → (n = 0 ∨ setl (vals us) (n - 1) z ds ≠ 0) → (owedF z.left z.begun = 0 → n = 0) → Q (.int n) H')
def sp_whole_cost (T : Txt K mg) : Sp := fun vs H Q _ => ∃ (x dx l dl : Addr) (us : List Trp) (z : Ln) (ds : List Int) (part : Int), vs = [.ref x, .ref dl, .int part] ∧ LoanAt T.a_Loan H x dx l us z ∧ SqL K H dl (ds.map V.int) ∧ Rok (vals us) ∧ LnOk z ∧ daysB (z.day - 1) ds = true ∧ ds ≠ [] ∧ ds.length ≤ 1000 ∧ 0 ≤ part ∧
  ∀ H', Same H H' → Q (.int (costF (vals us) part z ds)) H'
def sp_cost (T : Txt K mg) : Sp := fun vs H Q E => ∃ (x dx l dl : Addr) (us : List Trp) (z : Ln) (ds : List Int) (part : Int), vs = [.ref x, .ref dl, .int part] ∧ LoanAt T.a_Loan H x dx l us z ∧ SqL K H dl (ds.map V.int) ∧ Rok (vals us) ∧ LnOk z ∧ ds.length ≤ 1000 ∧
  (daysB (z.day - 1) ds = false ∨ ds = [] → E (.ref T.a_BadDay) none H) ∧ (daysB (z.day - 1) ds = true → ds ≠ [] → part < 1 → E (.ref T.a_BadPay) none H) ∧
  (daysB (z.day - 1) ds = true → ds ≠ [] → 1 ≤ part → ∀ H', Same H H' → Q (.int (costF (vals us) part z ds)) H')
def sp_saved (T : Txt K mg) : Sp := fun vs H Q E => ∃ (x dx l dl : Addr) (us : List Trp) (z : Ln) (d0 : Int) (r ds : List Int) (part e c : Int), vs = [.ref x, .ref dl, .int part, .int e, .int c] ∧ LoanAt T.a_Loan H x dx l us z ∧ SqL K H dl (ds.map V.int) ∧ Rok (vals us) ∧ LnOk z ∧ ds.length ≤ 1000 ∧ (ds ≠ [] → ds = d0 :: r) ∧
  (daysB (z.day - 1) ds = false ∨ ds = [] → E (.ref T.a_BadDay) none H) ∧ (daysB (z.day - 1) ds = true → ds ≠ [] → part < 1 → E (.ref T.a_BadPay) none H) ∧
  (daysB (z.day - 1) ds = true → ds ≠ [] → 1 ≤ part → ¬ (z.day ≤ e ∧ e ≤ d0) → ∀ H', Same H H' → E (.ref T.a_BadDay) none H') ∧
  (daysB (z.day - 1) ds = true → ds ≠ [] → 1 ≤ part → z.day ≤ e → e ≤ d0 → ¬ (1 ≤ c ∧ c ≤ owedF z.left (begunAt (vals us) z e)) → ∀ H', Same H H' → E (.ref T.a_BadPay) none H') ∧
  (daysB (z.day - 1) ds = true → ds ≠ [] → 1 ≤ part → z.day ≤ e → e ≤ d0 → 1 ≤ c → c ≤ owedF z.left (begunAt (vals us) z e) → ∀ H', Same H H' → Q (.int (costF (vals us) part z ds - c - costF (vals us) part (payLn (vals us) z e c) ds)) H')
def sp_Loan_change (T : Txt K mg) : Sp := fun vs H Q E => ∃ (x dx l : Addr) (ts : List Trp) (z : Ln) (d r : Int), vs = [.ref x, .int d, .int r] ∧ LoanAt T.a_Loan H x dx l ts z ∧ Rok (vals ts) ∧
  ((d ≤ z.day ∨ d ≤ lastDay (vals ts) ∨ d > 100000) → E (.ref T.a_BadDay) none H) ∧
  (¬ (d ≤ z.day ∨ d ≤ lastDay (vals ts) ∨ d > 100000) → ¬ (0 ≤ r ∧ r ≤ 100000) → E (.ref T.a_BadRate) none H) ∧
  (¬ (d ≤ z.day ∨ d ≤ lastDay (vals ts) ∨ d > 100000) → 0 ≤ r → r ≤ 100000 → ∀ p H', But l H H' → H p = none → LoanAt T.a_Loan H' x dx l (ts ++ [(p, d, r)]) z → Q .non H')
def sp_law_cell_at (_ : Txt K mg) : Sp := fun vs H Q _ => ∃ (a : Addr) (ns : List Int) (k : Int), vs = [.ref a, .int k] ∧ SqL K H a (ns.map V.int) ∧ 0 ≤ k ∧ Q (.int (cellAt ns k)) H
def sp_law_mixed (_ : Txt K mg) : Sp := fun vs H Q _ => ∃ (c m : Int), vs = [.int c, .int m] ∧ 0 < m ∧ Q (.int (mixed c m)) H
def sp_law_rate_by (_ : Txt K mg) : Sp := fun vs H Q _ => ∃ (c : Int), vs = [.int c] ∧ ∀ H', Same H H' → Q (.int (rateBy c)) H'
def sp_law_row_by (_ : Txt K mg) : Sp := fun vs H Q _ => ∃ (c many wide : Int), vs = [.int c, .int many, .int wide] ∧ 1 ≤ many ∧ many ≤ 1000 ∧ 0 < wide ∧
  ∀ (l : Addr) (ts : List Trp) (H' : Hp), Same H H' → H l = none → Row H' l ts → vals ts = rowBy c many wide → Q (.ref l) H'
def sp_law_sum_by (_ : Txt K mg) : Sp := fun vs H Q _ => ∃ (l : Addr) (ts : List Trp) (s e : Int), vs = [.ref l, .int s, .int e] ∧ Row H l ts ∧ ts.length ≤ 1000 ∧ Good (vals ts) ∧ 0 ≤ s ∧ s ≤ e ∧ Q (.int (gsum (vals ts) s e)) H
def sp_law_amount_by (_ : Txt K mg) : Sp := fun vs H Q _ => ∃ (c : Int), vs = [.int c] ∧ ∀ H', Same H H' → Q (.int (amountBy c)) H'
def sp_law_owed (_ : Txt K mg) : Sp := fun vs H Q _ => ∃ (l b : Int), vs = [.int l, .int b] ∧ Q (.int (owedF l b)) H
def sp_law_parts (_ : Txt K mg) : Sp := fun vs H Q _ => ∃ (l b c : Int), vs = [.int l, .int b, .int c] ∧
  ∀ p H', Same H H' → H p = none → H' p = some (.tup [.int (payF l b c).1, .int (payF l b c).2.1, .int (payF l b c).2.2.1, .int (payF l b c).2.2.2]) → Q (.ref p) H'
def sp_law_days_by (_ : Txt K mg) : Sp := fun vs H Q _ => ∃ (c at1 many wide : Int), vs = [.int c, .int at1, .int many, .int wide] ∧ 0 ≤ at1 ∧ 0 ≤ many ∧ many ≤ 1000 ∧ 1 ≤ wide ∧ at1 + 3 ≤ 100000 ∧ at1 + 3 + (many - 1) * wide ≤ 100000 ∧
  ∀ l ds H', Same H H' → H l = none → H' l = some (.lst (ds.map V.int)) → daysB (at1 - 1) ds = true → ds.length = many.toNat → Q (.ref l) H'
def sp_law_at_by (_ : Txt K mg) : Sp := fun vs H Q _ => ∃ (c : Int), vs = [.int c] ∧ ∀ n, 0 ≤ n → n ≤ 3000 → Q (.int n) H
def sp_law_made (T : Txt K mg) : Sp := fun vs H Q _ => ∃ (am c : Int) (l : Addr) (ts : List Trp), vs = [.int am, .ref l, .int c] ∧ Row H l ts ∧ Rok (vals ts) ∧ 1 ≤ am ∧ am ≤ 1000000000000 ∧
  ∀ (x dx l2 : Addr) (us : List Trp) (H' : Hp), Same H H' → H x = none → H l2 = none → LoanAt T.a_Loan H' x dx l2 us ⟨am, 0, 0⟩ → vals us = vals ts → Q (.ref x) H'
def sp_law_loan_by (T : Txt K mg) : Sp := fun vs H Q _ => ∃ (a lr : Addr) (ns : List Int) (ts : List Trp), vs = [.ref a, .ref lr] ∧ SqL K H a (ns.map V.int) ∧ Row H lr ts ∧ Rok (vals ts) ∧ ts.length ≤ 60 ∧ lastDay (vals ts) ≤ 90000 ∧
  ∀ p x dx l tp lm us tm z H', Same H H' → H x = none → H l = none → LoanAt T.a_Loan H' x dx l us z → H' tp = some (.tup [.int z.left, .int z.begun, .int z.day]) → Row H' lm tm → vals us = vals tm → Rok (vals tm) → LnOk z → z.day ≤ 3000 → tm.length ≤ 60 → lm ≠ l → lastDay (vals tm) ≤ 90050 →
    H' p = some (.tup [.ref x, .ref tp, .ref lm]) → Q (.ref p) H'
def sp_law_turned (_ : Txt K mg) : Sp := fun vs H Q _ => ∃ (dl : Addr) (ds : List Int) (at1 c : Int), vs = [.ref dl, .int at1, .int c] ∧ H dl = some (.lst (ds.map V.int)) ∧ ds.length ≤ 100 ∧
  ∀ l (es : List Int) H', Same H H' → H' l = some (.lst (es.map V.int)) → es.length ≤ 100 → Q (.ref l) H'
def sp_law_days_good (_ : Txt K mg) : Sp := fun vs H Q _ => ∃ (dl : Addr) (ds : List Int) (at1 : Int), vs = [.ref dl, .int at1] ∧ SqL K H dl (ds.map V.int) ∧ Q (.bl (daysB (at1 - 1) ds)) H
def sp_law_asked (T : Txt K mg) : Sp := fun vs H Q _ => ∃ (w : Wd) (x dx l dl ep : Addr) (us : List Trp) (z : Ln) (ds : List Int) (part e c o : Int), vs = [.str (wdS w), .ref x, .ref dl, .int part, .ref ep] ∧ LoanAt T.a_Loan H x dx l us z ∧ SqL K H dl (ds.map V.int) ∧ H ep = some (.tup [.int e, .int c]) ∧ Rok (vals us) ∧ LnOk z ∧ ds.length ≤ 1000 ∧
  (z.day ≤ e → e ≤ 100000 → o = owedF z.left (begunAt (vals us) z e)) ∧ ∀ H', Same H H' → Q (.str (dueK w z.day ds part e c o)) H'
def sp_law_due (_ : Txt K mg) : Sp := fun vs H Q _ => ∃ (w : Wd) (dl ep : Addr) (ds : List Int) (at1 part e c o : Int), vs = [.str (wdS w), .ref dl, .int at1, .int part, .ref ep, .int o] ∧ SqL K H dl (ds.map V.int) ∧ H ep = some (.tup [.int e, .int c]) ∧ Q (.str (dueK w at1 ds part e c o)) H
def sp_law_behind (_ : Txt K mg) : Sp := fun vs H Q _ => ∃ (tp lm dl : Addr) (tm : List Trp) (z : Ln) (ds : List Int) (part : Int), vs = [.ref tp, .ref lm, .ref dl, .int part] ∧ H tp = some (.tup [.int z.left, .int z.begun, .int z.day]) ∧ Row H lm tm ∧ SqL K H dl (ds.map V.int) ∧ Rok (vals tm) ∧ LnOk z ∧ daysB (z.day - 1) ds = true ∧ 0 ≤ part ∧
  ∀ p H', Same H H' → H' p = some (.tup [.int (behindS (vals tm) part z 0 ds).2, .int (owedF (behindS (vals tm) part z 0 ds).1.left (behindS (vals tm) part z 0 ds).1.begun)]) → Q (.ref p) H'
def sp_law_good_then (T : Txt K mg) : Sp := fun vs H Q _ => ∃ (x dx l tp lm : Addr) (us tm : List Trp) (z : Ln) (f : Int), vs = [.ref x, .ref tp, .ref lm, .int f] ∧ LoanAt T.a_Loan H x dx l us z ∧ H tp = some (.tup [.int z.left, .int z.begun, .int z.day]) ∧ Row H lm tm ∧ vals us = vals tm ∧ Rok (vals tm) ∧ LnOk z ∧
  z.day ≤ f ∧ f + 30 ≤ 100000 ∧ ∀ H', Q (.bl true) H'
def sp_law (K : PySem.W.Frag) : Sp := fun vs H Q _ => ∃ (a : Addr) (ns : List Int), vs = [.ref a] ∧ SqL K H a (ns.map V.int) ∧ ns.length ≤ 63 ∧ ∀ H', Q (.bl true) H'
end
section
variable {P : Program} {w : World} {K : PySem.W.Frag} {mg : Str → Option Value} {base : Heap}
theorem ok_need_rate {f : Addr} {fd : FuncData} (F : Fun K "need_rate" "need_rate" s_need_rate f fd) (T : Txt K mg)  :
    FnOk P w K mg base (L2.CX P w) 1 f fd ["rate"] (sp_need_rate T) := by
  refine F.okX sc_need_rate (fun vs H Q E h => ?_) (fun cdv A outer s H vs Q E hr h => ?_)
  · obtain ⟨r, rfl, _⟩ := h
    rfl
  · obtain ⟨r, rfl, hE, hQ⟩ := h
    refine ⟨_, (pss_one (ps_if (pt_not (pt_chain op_le op_le pe_int (pv 0) (pe_gint T.c_MOST_RATE))) (pss_one (ps_raise rfl (takes_of rfl rfl rfl rfl) (pmk_own PySem.F.excBase_ValueError T.e_BadRate.x T.g_BadRate T.e_BadRate.k (raises_own T.e_BadRate.s T.e_BadRate.t) (by exact rfl)))) pss_nil)), ?_⟩
    refine ⟨_, rfl, _, _, rfl, rfl, _, rfl, ifd (fun c1 => ?_) (fun c1 => ?_)⟩
    · refine ⟨_, _, rfl, rfl, _, rfl, ifdn (fun c2 => ?_) (fun c2 => ?_)⟩
      · exact hE (by omega)
      · exact hQ c1 c2
    · exact ⟨_, rfl, ifnF (hE (by omega))⟩

theorem ok_checked {f : Addr} {fd : FuncData} (F : Fun K "checked" "checked" s_checked f fd) (T : Txt K mg) (D_need_rate : Df P w K mg base (L2.CX P w) 1 "need_rate" ["rate"] (sp_need_rate T)) :
    FnOk P w K mg base (L2.CX P w) 2 f fd ["rates"] (sp_checked T) := by
  refine F.okX sc_checked (fun vs H Q E h => ?_) (fun cdv A outer s H vs Q E hr h => ?_)
  · obtain ⟨l, ts, rfl, _⟩ := h
    rfl
  · obtain ⟨l, ts, rfl, R, hD, hR, hQ⟩ := h
    refine ⟨_, (pss_cons (ps_set (i := 1) sc_checked.nd rfl (Or.inl rfl) (pe_un un_neg pe_int))
            (pss_cons (ps_for (passes_of rfl) rfl (pi_list (pv 0)) (pg_tup rfl (pgs_cons (pg_name (i := 2) sc_checked.nd rfl (Or.inl rfl)) (pgs_cons (pg_name (i := 3) sc_checked.nd rfl (Or.inl rfl)) pgs_nil))) (pss_cons (ps_if (PW.pt (pw_or (pt_cmpR op_le (pv 2) (pv 1) (nomark _)) (pw_or (pt_cmpR op_gt (pv 2) (pe_gint T.c_MOST_DAY) (nomark _)) (pw_or1 (PW.pt (pw_and (pt_cmpR op_eq (pv 1) (pe_un un_neg pe_int) (nomark _)) (pw_and1 (pt_cmpR op_gt (pv 2) pe_int (nomark _))))))))) (pss_one (ps_raise rfl (takes_of rfl rfl rfl rfl) (pmk_own PySem.F.excBase_ValueError T.e_BadDay.x T.g_BadDay T.e_BadDay.k (raises_own T.e_BadDay.s T.e_BadDay.t) (by exact rfl)))) pss_nil)
            (pss_cons (ps_expr (pe_call D_need_rate.G (hr.mono (by decide)) rfl D_need_rate.m D_need_rate.kp D_need_rate.b .nil (passes_call (takes_of rfl rfl rfl rfl) (fun _ _ _ _ h => h)) (pa_cons (pv 3) pa_nil)))
            (pss_one (ps_set (i := 1) sc_checked.nd rfl (Or.inl rfl) (pv 2))))))
            (pss_cons (ps_if (pt_cmpR op_eq (pv 1) (pe_un un_neg pe_int) (nomark _)) (pss_one (ps_raise rfl (takes_of rfl rfl rfl rfl) (pmk_own PySem.F.excBase_ValueError T.e_BadDay.x T.g_BadDay T.e_BadDay.k (raises_own T.e_BadDay.s T.e_BadDay.t) (by exact rfl)))) pss_nil)
            (pss_one (ps_ret (pe_callTy call_list_of (by rfl) T.b_list (by decide +kernel) (pa_cons (pv 0) pa_nil))))))), ?_⟩
    refine ⟨_, rfl, _, rfl, l, rfl, ⟨_, R.seq⟩, for_list (K := K) (a := l) (xs := rowV ts)
      (fun i σ H1 => H1 = H ∧ ∃ (ah : Int) (v2 v3 : Option V), -1 ≤ ah ∧ chk (-1) (vals ts) = chk ah ((vals ts).drop i) ∧ σ = [some (.ref l), some (.int ah), v2, v3])
      ⟨rfl, -1, none, none, by decide, rfl, rfl⟩ (fun i σ H1 _ ⟨e, _⟩ => by rw [e]; exact R.seq) ?_ ?_⟩
    · rintro i y σ H1 hi ⟨rfl, ah, v2, v3, ha, ec, rfl⟩
      obtain ⟨a, p, rfl, hp, hap⟩ := R.getV hi
      have ed : (vals ts).drop i = p :: (vals ts).drop (i + 1) := by
        have h2 : (vals ts)[i]'(List.getElem?_eq_some_iff.mp hp).1 = p := (List.getElem?_eq_some_iff.mp hp).2
        rw [← h2]
        exact (List.getElem_cons_drop _).symm
      rw [ed, chk_cons] at ec
      have bad : p.1 ≤ ah ∨ p.1 > 100000 ∨ (ah = -1 ∧ p.1 > 0) → E (.ref T.a_BadDay) none H1 := fun c => by
        rw [if_pos c] at ec
        exact hD ec
      obtain ⟨r, er, g1, g2⟩ : ∃ r, r = p.2 ∧ (¬ (0 ≤ r ∧ r ≤ 100000) → ¬ (p.1 ≤ ah ∨ p.1 > 100000 ∨ (ah = -1 ∧ p.1 > 0)) → E (.ref T.a_BadRate) none H1) ∧ (0 ≤ r → r ≤ 100000 → ¬ (p.1 ≤ ah ∨ p.1 > 100000 ∨ (ah = -1 ∧ p.1 > 0)) → ∃ (ah2 : Int), -1 ≤ ah2 ∧ chk (-1) (vals ts) = chk ah2 ((vals ts).drop (i + 1)) ∧ ah2 = p.1) := by
        refine ⟨p.2, rfl, fun c2 c => ?_, fun r0 r1 c => ?_⟩
        · rw [if_neg c, if_neg c2] at ec
          exact hR ec
        · rw [if_neg c, if_pos ⟨r0, r1⟩] at ec
          exact ⟨p.1, by omega, ec, rfl⟩
      subst er
      refine ⟨a, _, rfl, SqT.of hap, rfl, _, _, rfl, _, _, rfl, rfl, ?_⟩
      walk_at "rd"
      refine ifd (fun c1 => ?_) (fun c1 => ?_)
      · exact iteT (bad (.inl c1))
      walk_at "rd"
      refine ifd (fun c2 => ?_) (fun c2 => ?_)
      · exact iteT (bad (.inr (.inl c2)))
      walk_at "rd"
      refine if_eq (fun c3 => ?_) (fun c3 => ?_)
      · walk_at "rd"
        refine ifd (fun c4 => ?_) (fun c4 => ?_)
        · exact bad (.inr (.inr ⟨c3, c4⟩))
        · have cc : ¬ (p.1 ≤ ah ∨ p.1 > 100000 ∨ (ah = -1 ∧ p.1 > 0)) := by omega
          refine ⟨_, rfl, _, rfl, fun c5 => g1 c5 cc, fun r0 r1 => ?_⟩
          obtain ⟨ah2, x1, x2, rfl⟩ := g2 r0 r1 cc
          exact ⟨_, rfl, rfl, _, _, _, x1, x2, rfl⟩
      · have cc : ¬ (p.1 ≤ ah ∨ p.1 > 100000 ∨ (ah = -1 ∧ p.1 > 0)) := by omega
        refine iteF ⟨_, rfl, _, rfl, fun c5 => g1 c5 cc, fun r0 r1 => ?_⟩
        obtain ⟨ah2, x1, x2, rfl⟩ := g2 r0 r1 cc
        exact ⟨_, rfl, rfl, _, _, _, x1, x2, rfl⟩
    · rintro σ H1 ⟨rfl, ah, v2, v3, ha, ec, rfl⟩
      rw [rowV_len, ← vals_len, List.drop_length, chk_nil] at ec
      refine ⟨_, rfl, _, rfl, rfl, _, rfl, if_eq (fun c => ?_) (fun c => ?_)⟩
      · rw [if_pos c] at ec
        exact hD ec
      · rw [if_neg c] at ec
        refine ⟨_, rfl, l, _, rfl, .inl R.seq, fun l2 hl2 => hQ ec l2 _ (Same.new hl2) hl2 ⟨upd_same, (R.same (Same.new hl2)).prs⟩⟩

theorem ok_grown {f : Addr} {fd : FuncData} (F : Fun K "grown" "grown" s_grown f fd) (T : Txt K mg)  :
    FnOk P w K mg base CX0 1 f fd ["rates", "start", "end"] (sp_grown T) := by
  refine F.ok sc_grown (fun vs H Q E h => ?_) (fun cdv A outer s H vs Q E hr h => ?_)
  · obtain ⟨l, ts, s, e, rfl, _⟩ := h
    rfl
  · obtain ⟨l, ts, s, e, rfl, R, hl, g, h0, hse, q⟩ := h
    have hr2 := g.rate
    rw [← grown_eq g h0 hse] at q
    refine ⟨_, (pss_cons (ps_set (i := 3) sc_grown.nd rfl (Or.inl rfl) pe_int)
            (pss_cons (ps_set (i := 4) sc_grown.nd rfl (Or.inl rfl) (pv 2))
            (pss_cons (ps_for PassesOwn.never rfl (pi_range1 rfl T.b_range (pa_cons (pe_callB call_len_seq (by rfl) T.b_len PySem.boot_len (pa_cons (pv 0) pa_nil)) pa_nil)) (pg_name (i := 5) sc_grown.nd rfl (Or.inl rfl)) (pss_cons (ps_asg (pe_ix ix_list (pv 0) (pe_op op_sub (pe_op op_sub (pe_callB call_len_seq (by rfl) T.b_len PySem.boot_len (pa_cons (pv 0) pa_nil)) pe_int) (pv 5)) (fun _ _ => rfl)) (pg_tup rfl (pgs_cons (pg_name (i := 6) sc_grown.nd rfl (Or.inl rfl)) (pgs_cons (pg_name (i := 7) sc_grown.nd rfl (Or.inl rfl)) pgs_nil))))
            (pss_cons (ps_set (i := 8) sc_grown.nd rfl (Or.inl rfl) (pe_callB (call_max2 rfl) (by rfl) T.b_max (by decide +kernel) (pa_cons (pv 1) (pa_cons (pe_op op_sub (pv 6) pe_int) pa_nil))))
            (pss_one (ps_if (pt_cmpR op_lt (pv 8) (pv 4) (nomark _)) (pss_cons (ps_set (i := 3) sc_grown.nd rfl (Or.inl rfl) (pe_op op_add (pv 3) (pe_op op_mulX (pe_op op_sub (pv 4) (pv 8)) (pv 7))))
            (pss_one (ps_set (i := 4) sc_grown.nd rfl (Or.inl rfl) (pv 8)))) pss_nil)))))
            (pss_one (ps_ret (pv 3)))))), ?_⟩
    walk_at "rd"
    refine ⟨l, _, rfl, .inl R.seq, _, rfl, by omega, by rw [rowV_len]; omega, for_range (lo := 0) (n := (((rowV ts).length : Int)).toNat)
      (fun i σ H1 => H1 = H ∧ ∃ v5 v6 v7 v8 : Option V, σ = [some (.ref l), some (.int s), some (.int e), some (.int (((vals ts).reverse.take i).foldl (gStep s) (0, e)).1), some (.int (((vals ts).reverse.take i).foldl (gStep s) (0, e)).2), v5, v6, v7, v8])
      ⟨rfl, none, none, none, none, rfl⟩ ?_ ?_⟩
    · rintro i σ H1 hi ⟨rfl, v5, v6, v7, v8, rfl⟩
      have hi2 : i < ts.length := by rw [rowV_len] at hi; omega
      obtain ⟨p, hp⟩ := get_of (l := vals ts) (j := ts.length - 1 - i) (by rw [vals_len]; omega)
      obtain ⟨a, ha, hap⟩ := R.at (z := ((rowV ts).length : Int) - 1 - (0 + (i : Int))) (j := ts.length - 1 - i) (by rw [rowV_len]; omega) hp
      have hm := hr2 p (List.mem_of_getElem? hp)
      have er : (vals ts).reverse[i]? = some p := by rw [List.getElem?_reverse (by rw [vals_len]; exact hi2), vals_len]; exact hp
      rw [List.take_add_one, er, List.foldl_append]
      generalize ((vals ts).reverse.take i).foldl (gStep s) (0, e) = acc
      walk_at "rd"
      refine ⟨l, _, rfl, .inl R.seq, _, _, rfl, rfl, _, rfl, _, _, rfl, rfl, l, _, _, _, rfl, rfl, R.seq, ha, a, _, rfl, SqT.of hap, rfl, _, _, rfl, _, _, rfl, rfl, ?_⟩
      walk_at "rd"
      refine ifd (fun c => ?_) (fun c => ?_)
      · walk_at "rd"
        refine ⟨IntMulOk.of_right (PySem.intBits_le_64 (by omega) (by omega)), _, _, rfl, rfl, _, rfl, rfl, some (.int (0 + (i : Int))), some (.int p.1), some (.int p.2), some (.int (if p.1 - 1 > s then p.1 - 1 else s)), ?_⟩
        show _ = [some (V.ref l), some (V.int s), some (V.int e), some (V.int (gStep s acc p).1), some (V.int (gStep s acc p).2), some (.int (0 + (i : Int))), some (.int p.1), some (.int p.2), some (.int (if p.1 - 1 > s then p.1 - 1 else s))]
        unfold gStep
        rw [if_pos c]
        rfl
      · refine ⟨rfl, some (.int (0 + (i : Int))), some (.int p.1), some (.int p.2), some (.int (if p.1 - 1 > s then p.1 - 1 else s)), ?_⟩
        show _ = [some (V.ref l), some (V.int s), some (V.int e), some (V.int (gStep s acc p).1), some (V.int (gStep s acc p).2), some (.int (0 + (i : Int))), some (.int p.1), some (.int p.2), some (.int (if p.1 - 1 > s then p.1 - 1 else s))]
        unfold gStep
        rw [if_neg c]
        rfl
    · rintro σ H1 ⟨rfl, v5, v6, v7, v8, rfl⟩
      refine ⟨_, rfl, ?_⟩
      rw [Int.toNat_natCast, rowV_len, List.take_of_length_le (by rw [List.length_reverse, vals_len]; exact Nat.le_refl _)]
      exact q

theorem ok_need_days {f : Addr} {fd : FuncData} (F : Fun K "need_days" "need_days" s_need_days f fd) (T : Txt K mg)  :
    FnOk P w K mg base (L2.CX P w) 1 f fd ["loan", "days"] (sp_need_days T) := by
  refine F.okX sc_need_days (fun vs H Q E h => ?_) (fun cdv A outer s H vs Q E hr h => ?_)
  · obtain ⟨x, dx, l, dl, us, z, ds, rfl, _⟩ := h
    rfl
  · obtain ⟨x, dx, l, dl, us, z, ds, rfl, X, D, hE, hQ⟩ := h
    refine ⟨_, (pss_cons (ps_set (i := 2) sc_need_days.nd rfl (Or.inl rfl) (pe_op op_sub (pe_fld (pv 0) rfl) pe_int))
            (pss_one (ps_for (passes_of rfl) rfl (pi_list (pv 1)) (pg_name (i := 3) sc_need_days.nd rfl (Or.inl rfl)) (pss_cons (ps_if (PW.pt (pw_or (pt_cmpR op_le (pv 3) (pv 2) (nomark _)) (pw_or1 (pt_cmpR op_gt (pv 3) (pe_gint T.c_MOST_DAY) (nomark _))))) (pss_one (ps_raise rfl (takes_of rfl rfl rfl rfl) (pmk_own PySem.F.excBase_ValueError T.e_BadDay.x T.g_BadDay T.e_BadDay.k (raises_own T.e_BadDay.s T.e_BadDay.t) (by exact rfl)))) pss_nil)
            (pss_one (ps_set (i := 2) sc_need_days.nd rfl (Or.inl rfl) (pv 3))))))), ?_⟩
    refine ⟨_, rfl, x, _, dx, _, _, rfl, X.ob, T.cl_Loan, T.n_Loan_day, lf_day _ _, _, _, rfl, rfl, ?_⟩
    refine ⟨_, rfl, dl, rfl, ⟨_, D⟩, for_list (K := K) (a := dl) (xs := ds.map V.int)
      (fun i σ H1 => H1 = H ∧ ∃ (ah : Int) (v3 : Option V), daysB (z.day - 1) ds = daysB ah (ds.drop i) ∧ σ = [some (.ref x), some (.ref dl), some (.int ah), v3])
      ⟨rfl, _, none, rfl, rfl⟩ (fun i σ H1 _ ⟨e, _⟩ => by rw [e]; exact D) ?_ ?_⟩
    · rintro i y σ H1 hi ⟨rfl, ah, v3, e, rfl⟩
      obtain ⟨d, hd, rfl⟩ := map_get hi
      rw [drop_get hd] at e
      have e2 : daysB ah (d :: ds.drop (i + 1)) = (decide (ah < d ∧ d ≤ 100000) && daysB d (ds.drop (i + 1))) := rfl
      rw [e2] at e
      refine ⟨_, rfl, _, rfl, _, _, rfl, rfl, _, rfl, ifd (fun c1 => ?_) (fun c1 => ?_)⟩
      · refine iteT (hE ?_)
        rw [e, decide_eq_false (by omega), Bool.false_and]
      refine ⟨_, rfl, _, _, rfl, rfl, _, rfl, ifd (fun c2 => ?_) (fun c2 => ?_)⟩
      · refine hE ?_
        rw [e, decide_eq_false (by omega), Bool.false_and]
      · rw [decide_eq_true (by omega), Bool.true_and] at e
        exact ⟨_, rfl, rfl, _, _, e, rfl⟩
    · rintro σ H1 ⟨rfl, ah, v3, e, rfl⟩
      rw [List.length_map, List.drop_length] at e
      exact hQ e

theorem ok_need_some {f : Addr} {fd : FuncData} (F : Fun K "need_some" "need_some" s_need_some f fd) (T : Txt K mg) (D_need_days : Df P w K mg base (L2.CX P w) 1 "need_days" ["loan", "days"] (sp_need_days T)) :
    FnOk P w K mg base (L2.CX P w) 2 f fd ["loan", "days"] (sp_need_some T) := by
  refine F.okX sc_need_some (fun vs H Q E h => ?_) (fun cdv A outer s H vs Q E hr h => ?_)
  · obtain ⟨x, dx, l, dl, us, z, ds, rfl, _⟩ := h
    rfl
  · obtain ⟨x, dx, l, dl, us, z, ds, rfl, X, D, hE, hQ⟩ := h
    refine ⟨_, (pss_cons (ps_expr (pe_call D_need_days.G (hr.mono (by decide)) rfl D_need_days.m D_need_days.kp D_need_days.b .nil (passes_call (takes_of rfl rfl rfl rfl) (fun _ _ _ _ h => h)) (pa_cons (pv 0) (pa_cons (pv 1) pa_nil))))
            (pss_one (ps_if (pt_cmpR op_eq (pe_callB call_len_seq (by rfl) T.b_len PySem.boot_len (pa_cons (pv 1) pa_nil)) pe_int (nomark _)) (pss_one (ps_raise rfl (takes_of rfl rfl rfl rfl) (pmk_own PySem.F.excBase_ValueError T.e_BadDay.x T.g_BadDay T.e_BadDay.k (raises_own T.e_BadDay.s T.e_BadDay.t) (by exact rfl)))) pss_nil))), ?_⟩
    refine ⟨_, rfl, _, rfl, x, dx, l, dl, us, z, ds, rfl, X, D, fun n => hE (.inl n), fun hd => ?_⟩
    refine ⟨_, rfl, dl, _, rfl, .inl D, rfl, _, rfl, if_eq (fun c => ?_) (fun c => ?_)⟩
    · refine hE (.inr (List.length_eq_zero_iff.mp ?_))
      rw [List.length_map] at c
      omega
    · refine hQ hd fun e => c ?_
      rw [e]
      rfl

theorem ok_need_part {f : Addr} {fd : FuncData} (F : Fun K "need_part" "need_part" s_need_part f fd) (T : Txt K mg)  :
    FnOk P w K mg base (L2.CX P w) 1 f fd ["part"] (sp_need_part T) := by
  refine F.okX sc_need_part (fun vs H Q E h => ?_) (fun cdv A outer s H vs Q E hr h => ?_)
  · obtain ⟨r, rfl, _⟩ := h
    rfl
  · obtain ⟨r, rfl, hE, hQ⟩ := h
    refine ⟨_, (pss_one (ps_if (pt_cmpR op_lt (pv 0) pe_int (nomark _)) (pss_one (ps_raise rfl (takes_of rfl rfl rfl rfl) (pmk_own PySem.F.excBase_ValueError T.e_BadPay.x T.g_BadPay T.e_BadPay.k (raises_own T.e_BadPay.s T.e_BadPay.t) (by exact rfl)))) pss_nil)), ?_⟩
    exact ⟨_, rfl, _, _, rfl, rfl, _, rfl, ifd (fun c1 => hE c1) (fun c1 => hQ (by omega))⟩

theorem ok_Loan_stand {f : Addr} {fd : FuncData} (F : Fun K "stand" "Loan.stand" s_Loan_stand f fd) (T : Txt K mg) (D_grown : Df P w K mg base CX0 1 "grown" ["rates", "start", "end"] (sp_grown T)) :
    FnOk P w K mg base (L2.CX P w) 2 f fd ["self", "day"] (sp_Loan_stand T) := by
  refine F.okX sc_Loan_stand (fun vs H Q E h => ?_) (fun cdv A outer s H vs Q E hr h => ?_)
  · obtain ⟨x, dx, l, ts, z, d, rfl, _⟩ := h
    rfl
  · obtain ⟨x, dx, l, ts, z, d, rfl, A1, rok, lok, hE, hQ⟩ := h
    refine ⟨_, (pss_cons (ps_if (pt_not (pt_chain op_le op_le (pe_fld (pv 0) rfl) (pv 1) (pe_gint T.c_MOST_DAY))) (pss_one (ps_raise rfl (takes_of rfl rfl rfl rfl) (pmk_own PySem.F.excBase_ValueError T.e_BadDay.x T.g_BadDay T.e_BadDay.k (raises_own T.e_BadDay.s T.e_BadDay.t) (by exact rfl)))) pss_nil)
            (pss_one (ps_ret (pe_tup (pa_cons (pe_fld (pv 0) rfl) (pa_cons (pe_op op_add (pe_fld (pv 0) rfl) (pe_op op_mulX (pe_fld (pv 0) rfl) (pc0 D_grown hr (pa_cons (pe_fld (pv 0) rfl) (pa_cons (pe_fld (pv 0) rfl) (pa_cons (pv 1) pa_nil)))))) pa_nil)))))), ?_⟩
    have hx := A1.ob
    have hl0 := lok.l0
    have hl1 := lok.l1
    have hd0 := lok.d0
    refine ⟨_, rfl, x, _, dx, _, _, rfl, hx, T.cl_Loan, T.n_Loan_day, lf_day _ _, _, rfl, _, _, rfl, rfl, _, rfl, ifd (fun c1 => ?_) (fun c1 => ?_)⟩
    · refine ⟨_, _, rfl, rfl, _, rfl, ifdn (fun c2 => ?_) (fun c2 => ?_)⟩
      · exact hE (by omega)
      · refine ⟨_, rfl, x, _, dx, _, _, rfl, hx, T.cl_Loan, T.n_Loan_left, lf_left _ _, _, rfl, x, _, dx, _, _, rfl, hx, T.cl_Loan, T.n_Loan_begun, lf_begun _ _, _, rfl, x, _, dx, _, _, rfl, hx, T.cl_Loan, T.n_Loan_left, lf_left _ _,
          _, rfl, x, _, dx, _, _, rfl, hx, T.cl_Loan, T.n_Loan_rates, lf_rates _ _, _, rfl, x, _, dx, _, _, rfl, hx, T.cl_Loan, T.n_Loan_day, lf_day _ _, _, rfl, l, ts, _, _, rfl, A1.row, by rw [← vals_len]; exact rok.len, rok.g, hd0, c1, ?_⟩
        refine ⟨_, _, rfl, rfl, IntMulOk.of_left (PySem.intBits_le_64 (by omega) (by omega)), _, _, rfl, rfl, szl 2, fun p hp => ?_⟩
        exact hQ c1 c2 p _ (Same.new hp) hp upd_same
    · exact ⟨_, rfl, ifnF (hE (by omega))⟩

theorem ok_Loan_owed {f : Addr} {fd : FuncData} (F : Fun K "owed" "Loan.owed" s_Loan_owed f fd) (T : Txt K mg) (D_Loan_stand : Dm P w K mg base (L2.CX P w) 2 T.a_Loan "stand" ["self", "day"] (sp_Loan_stand T)) :
    FnOk P w K mg base (L2.CX P w) 3 f fd ["self", "day"] (sp_Loan_owed T) := by
  refine F.okX sc_Loan_owed (fun vs H Q E h => ?_) (fun cdv A outer s H vs Q E hr h => ?_)
  · obtain ⟨x, dx, l, ts, z, d, rfl, _⟩ := h
    rfl
  · obtain ⟨x, dx, l, ts, z, d, rfl, A1, rok, lok, hE, hQ⟩ := h
    refine ⟨_, (pss_cons (ps_asg (pe_meth (pv 0) T.cl_Loan D_Loan_stand.me D_Loan_stand.G (hr.mono (by decide)) D_Loan_stand.b .nil (passes_call (takes_of rfl rfl rfl rfl) (fun _ _ _ _ h => h)) (pa_cons (pv 1) pa_nil)) (pg_tup rfl (pgs_cons (pg_name (i := 2) sc_Loan_owed.nd rfl (Or.inl rfl)) (pgs_cons (pg_name (i := 3) sc_Loan_owed.nd rfl (Or.inl rfl)) pgs_nil))))
            (pss_one (ps_ret (pe_op op_add (pv 2) (pe_op op_fdiv (pe_op op_sub (pe_op op_add (pv 3) (pe_gint T.c_MILLION)) pe_int) (pe_gint T.c_MILLION)))))), ?_⟩
    refine ⟨_, rfl, x, dx, _, rfl, A1.ob, lf_no _ _ (by decide +kernel) (by decide +kernel) (by decide +kernel) (by decide +kernel), _, rfl, x, dx, l, ts, z, d, rfl, A1, rok, lok, hE, fun c1 c2 p H1 s1 hp hp1 => ?_⟩
    refine ⟨p, _, rfl, SqT.of hp1, rfl, _, _, rfl, _, _, rfl, rfl, ?_⟩
    exact ⟨_, rfl, _, rfl, _, _, rfl, rfl, _, _, rfl, rfl, _, _, rfl, rfl, dv, _, _, rfl, rfl, hQ c1 c2 H1 s1⟩

theorem ok_Loan_pay {f : Addr} {fd : FuncData} (F : Fun K "pay" "Loan.pay" s_Loan_pay f fd) (T : Txt K mg) (D_Loan_stand : Dm P w K mg base (L2.CX P w) 2 T.a_Loan "stand" ["self", "day"] (sp_Loan_stand T)) (D_Loan_owed : Dm P w K mg base (L2.CX P w) 3 T.a_Loan "owed" ["self", "day"] (sp_Loan_owed T)) :
    FnOk P w K mg base (L2.CX P w) 4 f fd ["self", "day", "cents"] (sp_Loan_pay T) := by
  refine F.okX sc_Loan_pay (fun vs H Q E h => ?_) (fun cdv A outer s H vs Q E hr h => ?_)
  · obtain ⟨x, dx, l, ts, z, d, c, rfl, _⟩ := h
    rfl
  · obtain ⟨x, dx, l, ts, z, d, c, rfl, A1, rok, lok, hE, hP, hQ⟩ := h
    refine ⟨_, (pss_cons (ps_asg (pe_meth (pv 0) T.cl_Loan D_Loan_stand.me D_Loan_stand.G (hr.mono (by decide)) D_Loan_stand.b .nil (passes_call (takes_of rfl rfl rfl rfl) (fun _ _ _ _ h => h)) (pa_cons (pv 1) pa_nil)) (pg_tup rfl (pgs_cons (pg_name (i := 3) sc_Loan_pay.nd rfl (Or.inl rfl)) (pgs_cons (pg_name (i := 4) sc_Loan_pay.nd rfl (Or.inl rfl)) pgs_nil))))
            (pss_cons (ps_set (i := 5) sc_Loan_pay.nd rfl (Or.inl rfl) (pe_meth (pv 0) T.cl_Loan D_Loan_owed.me D_Loan_owed.G (hr.mono (by decide)) D_Loan_owed.b .nil (passes_call (takes_of rfl rfl rfl rfl) (fun _ _ _ _ h => h)) (pa_cons (pv 1) pa_nil)))
            (pss_cons (ps_if (pt_not (pt_chain op_le op_le pe_int (pv 2) (pv 5))) (pss_one (ps_raise rfl (takes_of rfl rfl rfl rfl) (pmk_own PySem.F.excBase_ValueError T.e_BadPay.x T.g_BadPay T.e_BadPay.k (raises_own T.e_BadPay.s T.e_BadPay.t) (by exact rfl)))) pss_nil)
            (Evl.pss_cut (ps_if (pt_cmpR op_eq (pv 2) (pv 5) (nomark _)) (pss_cons (ps_set (i := 6) sc_Loan_pay.nd rfl (Or.inl rfl) (pe_op op_sub (pv 5) (pv 3)))
            (pss_one (ps_set (i := 4) sc_Loan_pay.nd rfl (Or.inl rfl) pe_int))) (pss_cons (ps_set (i := 6) sc_Loan_pay.nd rfl (Or.inl rfl) (pe_callB (call_min2 rfl) (by rfl) T.b_min (by decide +kernel) (pa_cons (pv 2) (pa_cons (pe_op op_fdiv (pv 4) (pe_gint T.c_MILLION)) pa_nil))))
            (pss_one (ps_set (i := 4) sc_Loan_pay.nd rfl (Or.inl rfl) (pe_op op_sub (pv 4) (pe_op op_mulX (pv 6) (pe_gint T.c_MILLION)))))))
            (pss_cons (ps_set (i := 7) sc_Loan_pay.nd rfl (Or.inl rfl) (pe_op op_sub (pv 2) (pv 6)))
            (pss_cons (ps_fld (pv 0) (pe_op op_sub (pv 3) (pv 7)) rfl)
            (pss_cons (ps_fld (pv 0) (pv 4) rfl)
            (pss_cons (ps_fld (pv 0) (pv 1) rfl)
            (pss_one (ps_ret (pe_tup (pa_cons (pv 6) (pa_cons (pv 7) pa_nil))))))))))))), ?_⟩
    refine ⟨_, rfl, x, dx, _, rfl, A1.ob, lf_no _ _ (by decide +kernel) (by decide +kernel) (by decide +kernel) (by decide +kernel), _, rfl, x, dx, l, ts, z, d, rfl, A1, rok, lok, hE, fun c1 c2 p H1 s1 hp hp1 => ?_⟩
    have A2 := A1.same s1
    refine ⟨p, _, rfl, SqT.of hp1, rfl, _, _, rfl, _, _, rfl, rfl, ?_⟩
    refine ⟨_, rfl, x, dx, _, rfl, A2.ob, lf_no _ _ (by decide +kernel) (by decide +kernel) (by decide +kernel) (by decide +kernel), _, rfl, x, dx, l, ts, z, d, rfl, A2, rok, lok, fun n => absurd ⟨c1, c2⟩ n, fun _ _ H2 s2 => ?_⟩
    have A3 := A2.same s2
    have hP2 := fun n => hP c1 c2 n H2 (s1.trans s2)
    have hQ2 := hQ c1 c2
    have ez : begunAt (vals ts) z d = begunAt (vals ts) z d := rfl
    unfold payLn at hQ2
    generalize begunAt (vals ts) z d = b at hP2 hQ2 ⊢
    refine ⟨_, rfl, _, _, rfl, rfl, _, rfl, ifd (fun g1 => ?_) (fun g1 => ?_)⟩
    · refine ⟨_, rfl, _, _, rfl, rfl, _, rfl, ifdn (fun g2 => ?_) (fun g2 => ?_)⟩
      · exact hP2 (by omega)
      · have hQ3 := hQ2 g1 g2
        refine ⟨fun σ H3 => H3 = H2 ∧ ∃ i b2 : Int, payF z.left b c = (i, c - i, z.left - (c - i), b2) ∧ σ = [some (.ref x), some (.int d), some (.int c), some (.int z.left), some (.int b2), some (.int (owedF z.left b)), some (.int i), none], ?_, ?_⟩
        · refine ⟨_, rfl, _, rfl, rfl, _, rfl, if_eq (fun e => ?_) (fun e => ?_)⟩
          · refine ⟨_, rfl, _, rfl, _, _, rfl, rfl, rfl, owedF z.left b - z.left, 0, ?_, rfl⟩
            unfold payF
            rw [if_pos e, ← e]
            refine Prod.ext rfl (Prod.ext ?_ (Prod.ext ?_ rfl))
            · show z.left = c - (c - z.left)
              omega
            · show 0 = z.left - (c - (c - z.left))
              omega
          · refine ⟨_, rfl, _, rfl, _, _, rfl, rfl, dv, _, _, rfl, _, rfl, _, rfl, _, _, rfl, rfl, mulR, _, _, rfl, rfl, rfl, _, _, ?_, rfl⟩
            unfold payF
            rw [if_neg e]
        · rintro σ H3 ⟨rfl, i, b2, ep, rfl⟩
          rw [ep] at hQ3
          refine ⟨_, rfl, _, rfl, _, _, rfl, rfl, ?_⟩
          refine ⟨_, rfl, _, rfl, _, _, rfl, rfl, _, rfl, x, T.a_Loan, dx, _, rfl, A3.ob, T.cl_Loan, T.n_Loan_left, lf_len _ _, ?_⟩
          rw [lf_putLeft]
          refine ⟨_, rfl, _, rfl, x, T.a_Loan, dx, _, rfl, upd_same, T.cl_Loan, T.n_Loan_begun, lf_len _ _, ?_⟩
          rw [lf_putBegun]
          refine ⟨_, rfl, _, rfl, x, T.a_Loan, dx, _, rfl, upd_same, T.cl_Loan, T.n_Loan_day, lf_len _ _, ?_⟩
          rw [lf_putDay]
          have b0 : But x H3 _ := ((((But.of (x := x) (Same.refl H3)).upd (.ins T.a_Loan dx (lf l ⟨z.left - (c - i), z.begun, z.day⟩))).upd (.ins T.a_Loan dx (lf l ⟨z.left - (c - i), b2, z.day⟩)))).upd (.ins T.a_Loan dx (lf l ⟨z.left - (c - i), b2, d⟩))
          have ho : (L2.upd (L2.upd (L2.upd H3 x (.ins T.a_Loan dx (lf l ⟨z.left - (c - i), z.begun, z.day⟩))) x (.ins T.a_Loan dx (lf l ⟨z.left - (c - i), b2, z.day⟩))) x (.ins T.a_Loan dx (lf l ⟨z.left - (c - i), b2, d⟩))) x = _ := upd_same
          generalize L2.upd (L2.upd (L2.upd H3 x (.ins T.a_Loan dx (lf l ⟨z.left - (c - i), z.begun, z.day⟩))) x (.ins T.a_Loan dx (lf l ⟨z.left - (c - i), b2, z.day⟩))) x (.ins T.a_Loan dx (lf l ⟨z.left - (c - i), b2, d⟩)) = H4 at b0 ho ⊢
          refine ⟨_, rfl, _, rfl, szl 2, fun q hq => ?_⟩
          have bb : But x H H4 := (But.of (s1.trans s2)).trans b0
          refine hQ3 q _ (bb.new hq) ?_ (LoanAt.same ⟨ho, b0.row A3.ob A3.row⟩ (Same.new hq)) upd_same
          -- q was not known
          cases e : H q with
          | none => rfl
          | some o =>
            by_cases hqx : q = x
            · rw [hqx, ho] at hq
              cases hq
            · rw [bb q o e hqx] at hq
              cases hq
    · exact ⟨_, rfl, ifnF (hP2 (by omega))⟩

theorem ok_rows_of {f : Addr} {fd : FuncData} (F : Fun K "rows_of" "rows_of" s_rows_of f fd) (T : Txt K mg) (D_Loan_owed : Dm P w K mg base (L2.CX P w) 3 T.a_Loan "owed" ["self", "day"] (sp_Loan_owed T)) (D_Loan_pay : Dm P w K mg base (L2.CX P w) 4 T.a_Loan "pay" ["self", "day", "cents"] (sp_Loan_pay T)) :
    FnOk P w K mg base CX0 5 f fd ["loan", "days", "part"] (sp_rows_of T) := by
  refine F.ok sc_rows_of (fun vs H Q E h => ?_) (fun cdv A outer s H vs Q E hr h => ?_)
  · obtain ⟨x, dx, l, dl, us, z, ds, part, rfl, _⟩ := h
    rfl
  · obtain ⟨x, dx, l, dl, us, z, ds, part, rfl, X0, D0, rok, lok0, hd0, hlen, p0, q⟩ := h
    refine ⟨_, (pss_cons (ps_set (i := 3) sc_rows_of.nd rfl (Or.inl rfl) (pe_lst pa_nil))
            (pss_cons (ps_for PassesOwn.never rfl (pi_list (pv 1)) (pg_name (i := 4) sc_rows_of.nd rfl (Or.inl rfl)) (pss_cons (ps_set (i := 5) sc_rows_of.nd rfl (Or.inl rfl) (pe_callB (call_min2 rfl) (by rfl) T.b_min (by decide +kernel) (pa_cons (pv 2) (pa_cons (pe_meth (pv 0) T.cl_Loan D_Loan_owed.me D_Loan_owed.G (hr.mono (by decide)) D_Loan_owed.b .nil passL (pa_cons (pv 4) pa_nil)) pa_nil))))
            (pss_cons (ps_if (pt_cmpR op_eq (pv 5) pe_int (nomark _)) (pss_one (ps_ret (pv 3))) pss_nil)
            (pss_cons (ps_asg (pe_meth (pv 0) T.cl_Loan D_Loan_pay.me D_Loan_pay.G (hr.mono (by decide)) D_Loan_pay.b .nil passL (pa_cons (pv 4) (pa_cons (pv 5) pa_nil))) (pg_tup rfl (pgs_cons (pg_name (i := 6) sc_rows_of.nd rfl (Or.inl rfl)) (pgs_cons (pg_name (i := 7) sc_rows_of.nd rfl (Or.inl rfl)) pgs_nil))))
            (pss_one (ps_expr (pe_bm PySem.F.plainAttrs_list PySem.F.slot_list_append PySem.F.type_list_append mt_append (pv 3) (pa_cons (pe_tup (pa_cons (pv 4) (pa_cons (pv 5) (pa_cons (pv 6) (pa_cons (pv 7) (pa_cons (pe_fld (pv 0) rfl) pa_nil)))))) pa_nil))))))))
            (pss_one (ps_ret (pv 3))))), ?_⟩
    refine ⟨szl 0, fun rl hrl => ?_⟩
    have s1 : Same H (L2.upd H rl (.lst [])) := Same.new hrl
    have R1 : Rs (L2.upd H rl (.lst [])) rl [] := ⟨upd_same, fun t ht => by cases ht⟩
    show gName 3 (.ref rl) _ (L2.upd H rl (.lst [])) _
    generalize L2.upd H rl (.lst []) = H1 at s1 R1 ⊢
    have nrx : rl ≠ x := Ne.symm (ne_of_none X0.ob hrl)
    refine ⟨_, rfl, dl, rfl, ⟨_, s1.seq D0⟩, for_list (K := K) (a := dl) (xs := ds.map V.int)
      (fun i σ H' => ∃ (pre : List Ps) (zi : Ln) (v4 v5 v6 v7 : Option V), But x H H' ∧ LoanAt T.a_Loan H' x dx l us zi ∧ LnOk zi ∧ Rs H' rl pre ∧ pre.length = i ∧ daysB (zi.day - 1) (ds.drop i) = true ∧
        (payAll (vals us) part z ds).1 = psL pre ++ (payAll (vals us) part zi (ds.drop i)).1 ∧ (payAll (vals us) part z ds).2 = (payAll (vals us) part zi (ds.drop i)).2 ∧ σ = [some (.ref x), some (.ref dl), some (.int part), some (.ref rl), v4, v5, v6, v7])
      ⟨[], z, none, none, none, none, But.of s1, X0.same s1, lok0, R1, rfl, hd0, rfl, rfl, rfl⟩ (fun i σ H' _ ⟨_, _, _, _, _, _, b, _⟩ => seq_but b X0.ob D0) ?_ ?_⟩
    · rintro i y σ H2 hi ⟨pre, zi, v4, v5, v6, v7, b2, X2, lok, R2, hpl, hdi, e1, e2, rfl⟩
      obtain ⟨d, hd, rfl⟩ := map_get hi
      have hil : i < ds.length := (List.getElem?_eq_some_iff.mp hd).1
      rw [drop_get hd] at hdi e1 e2
      have h3 := daysB_cons.mp hdi
      refine ⟨_, rfl, _, rfl, x, dx, _, rfl, X2.ob, lf_no _ _ (by decide +kernel) (by decide +kernel) (by decide +kernel) (by decide +kernel), _, rfl, x, dx, l, us, zi, d, rfl, X2, rok, lok, fun n => absurd ⟨by omega, h3.1.2⟩ n, fun _ _ H3 s3 => ?_⟩
      have dp := dueP_ok (part := part) (d := d) lok rok.g (by omega) p0
      refine ⟨_, _, rfl, ?_⟩
      show gName 5 (V.int (dueP (vals us) part zi d)) _ _ _
      generalize ed : dueP (vals us) part zi d = c at dp
      have X3 := X2.same s3
      have R3 := R2.same s3
      have b3 : But x H H3 := fun b o hb n => s3 _ _ (b2 b o hb n)
      refine ⟨_, rfl, rfl, _, rfl, if_eq (fun c0 => ?_) (fun c0 => ?_)⟩
      · rw [payAll_stop (ed.trans c0)] at e1 e2
        refine ⟨_, rfl, q rl pre H3 b3 hrl R3 ?_ ?_⟩
        · rw [e1, List.append_nil]
        · rw [e2]
          exact X3
      · rw [payAll_go (by rw [ed]; exact c0), ed] at e1 e2
        refine ⟨_, rfl, x, dx, _, rfl, X3.ob, lf_no _ _ (by decide +kernel) (by decide +kernel) (by decide +kernel) (by decide +kernel), _, rfl, _, rfl, x, dx, l, us, zi, d, c, rfl, X3, rok, lok, fun n => absurd ⟨by omega, h3.1.2⟩ n, fun _ _ n => absurd ⟨by omega, dp.2.1⟩ n, fun _ _ _ _ p H4 b4 hp X4 t4 => ?_⟩
        have R4 := b4.rs X3.ob R3
        refine ⟨p, _, rfl, SqT.of t4, rfl, _, _, rfl, _, _, rfl, rfl, ?_⟩
        refine ⟨_, rfl, .inl ⟨rfl, _, SqL.of R4.lst⟩, _, rfl, _, rfl, _, rfl, _, rfl, _, rfl, x, _, dx, _, _, rfl, X4.ob, T.cl_Loan, T.n_Loan_left, lf_left _ _, szl 5, fun p2 hp2 => ?_⟩
        have s5 := Same.new (o := .tup ([d, c, (payF zi.left (begunAt (vals us) zi d) c).1, (payF zi.left (begunAt (vals us) zi d) c).2.1, (payLn (vals us) zi d c).left].map V.int)) hp2
        have R5 := R4.same s5
        refine ⟨rl, psV pre, _, rfl, rfl, R5.lst, sz_lt (by rw [psV_len]; omega), ?_⟩
        have R6 := R5.snoc _ upd_same
        have b6 := ((But.of (x := rl) s5).upd (.lst (psV pre ++ [.ref p2])))
        refine ⟨pre ++ [(p2, _)], _, _, _, _, _, fun b o hb n => b6 _ _ (b4 _ _ (b3 b o hb n) n) (ne_of_none hb hrl), ⟨b6 _ _ X4.ob (ne_of X4.ob R4.lst (by intro y; cases y)), ?_⟩, payLn_ok lok rok.g (by omega) h3.1.2 (by omega) dp.2.1, R6, by rw [List.length_append, hpl]; rfl, daysB_weak h3.2 (by show d - 1 ≤ d; omega), ?_, e2, rfl⟩
        · refine b6.rowl R4.lst ?_ X4.row
          intro y
          have h1 := X0.row.lst
          rw [y, hrl] at h1
          cases h1
        · rw [e1, psL_snoc, List.append_assoc]
          rfl
    · rintro σ H' ⟨pre, zi, v4, v5, v6, v7, b, X, lok, R, hpl, hdi, e1, e2, rfl⟩
      rw [List.length_map, List.drop_length, payAll_nil] at e1 e2
      refine ⟨_, rfl, q rl pre H' b hrl R ?_ ?_⟩
      · rw [e1, List.append_nil]
      · rw [e2]
        exact X

theorem ok_need_amount {f : Addr} {fd : FuncData} (F : Fun K "need_amount" "need_amount" s_need_amount f fd) (T : Txt K mg)  :
    FnOk P w K mg base (L2.CX P w) 1 f fd ["amount"] (sp_need_amount T) := by
  refine F.okX sc_need_amount (fun vs H Q E h => ?_) (fun cdv A outer s H vs Q E hr h => ?_)
  · obtain ⟨r, rfl, _⟩ := h
    rfl
  · obtain ⟨r, rfl, hE, hQ⟩ := h
    refine ⟨_, (pss_one (ps_if (pt_not (pt_chain op_le op_le pe_int (pv 0) (pe_gint T.c_MOST_AMOUNT))) (pss_one (ps_raise rfl (takes_of rfl rfl rfl rfl) (pmk_own PySem.F.excBase_ValueError T.e_BadAmount.x T.g_BadAmount T.e_BadAmount.k (raises_own T.e_BadAmount.s T.e_BadAmount.t) (by exact rfl)))) pss_nil)), ?_⟩
    refine ⟨_, rfl, _, _, rfl, rfl, _, rfl, ifd (fun c1 => ?_) (fun c1 => ?_)⟩
    · refine ⟨_, _, rfl, rfl, _, rfl, ifdn (fun c2 => ?_) (fun c2 => ?_)⟩
      · exact hE (by omega)
      · exact hQ c1 c2
    · exact ⟨_, rfl, ifnF (hE (by omega))⟩

theorem ok_Loan_init {f : Addr} {fd : FuncData} (F : Fun K "__init__" "Loan.__init__" s_Loan_init f fd) (T : Txt K mg) (D_need_amount : Df P w K mg base (L2.CX P w) 1 "need_amount" ["amount"] (sp_need_amount T)) (D_checked : Df P w K mg base (L2.CX P w) 2 "checked" ["rates"] (sp_checked T)) :
    FnOk P w K mg base (L2.CX P w) 3 f fd ["self", "amount", "rates"] (sp_Loan_init T) := by
  refine F.okX sc_Loan_init (fun vs H Q E h => ?_) (fun cdv A outer s H vs Q E hr h => ?_)
  · obtain ⟨x, dx, l, am, ts, rfl, _⟩ := h
    rfl
  · obtain ⟨x, dx, l, am, ts, rfl, hx, R, hA, hD, hR, hQ⟩ := h
    refine ⟨_, (pss_cons (ps_expr (pe_call D_need_amount.G (hr.mono (by decide)) rfl D_need_amount.m D_need_amount.kp D_need_amount.b .nil (passes_call (takes_of rfl rfl rfl rfl) (fun _ _ _ _ h => h)) (pa_cons (pv 1) pa_nil)))
            (pss_cons (ps_fld (pv 0) (pe_call D_checked.G (hr.mono (by decide)) rfl D_checked.m D_checked.kp D_checked.b .nil (passes_call (takes_of rfl rfl rfl rfl) (fun _ _ _ _ h => h)) (pa_cons (pv 2) pa_nil)) rfl)
            (pss_cons (ps_fld (pv 0) (pv 1) rfl)
            (pss_cons (ps_fld (pv 0) pe_int rfl)
            (pss_one (ps_fld (pv 0) pe_int rfl)))))), ?_⟩
    refine ⟨_, rfl, _, rfl, hA, fun a1 a2 => ?_⟩
    refine ⟨_, rfl, l, ts, rfl, R, hD a1 a2, hR a1 a2, fun eok l2 H1 s1 hl2 R1 => ?_⟩
    have hx1 := s1 _ _ hx
    refine ⟨_, rfl, x, T.a_Loan, dx, [], rfl, hx1, T.cl_Loan, T.n_Loan_rates, (by decide), ?_⟩
    refine ⟨_, rfl, _, rfl, x, T.a_Loan, dx, _, rfl, upd_same, T.cl_Loan, T.n_Loan_left, (by show 1 < 1000; decide), ?_⟩
    refine ⟨_, rfl, x, T.a_Loan, dx, _, rfl, upd_same, T.cl_Loan, T.n_Loan_begun, ?_, ?_⟩
    · show (putF "left" (V.int am) [("rates", V.ref l2)]).length < 1000
      rw [putF_miss (by decide +kernel)]
      show 2 < 1000
      decide
    refine ⟨_, rfl, x, T.a_Loan, dx, _, rfl, upd_same, T.cl_Loan, T.n_Loan_day, ?_, ?_⟩
    · show (putF "begun" (V.int 0) (putF "left" (V.int am) [("rates", V.ref l2)])).length < 1000
      rw [putF_miss (by decide +kernel)]
      show (putF "begun" (V.int 0) [("rates", V.ref l2), ("left", V.int am)]).length < 1000
      rw [putF_miss (by decide +kernel), putF_miss (by decide +kernel)]
      show 3 < 1000
      decide
    have b : But x H _ := ((((But.of (x := x) s1).upd (.ins T.a_Loan dx (putF "rates" (.ref l2) []))).upd (.ins T.a_Loan dx (putF "left" (.int am) (putF "rates" (.ref l2) [])))).upd (.ins T.a_Loan dx (putF "begun" (.int 0) (putF "left" (.int am) (putF "rates" (.ref l2) []))))).upd (.ins T.a_Loan dx (putF "day" (.int 0) (putF "begun" (.int 0) (putF "left" (.int am) (putF "rates" (.ref l2) [])))))
    have b1 : But x H1 _ := ((((But.of (x := x) (Same.refl H1)).upd (.ins T.a_Loan dx (putF "rates" (.ref l2) []))).upd (.ins T.a_Loan dx (putF "left" (.int am) (putF "rates" (.ref l2) [])))).upd (.ins T.a_Loan dx (putF "begun" (.int 0) (putF "left" (.int am) (putF "rates" (.ref l2) []))))).upd (.ins T.a_Loan dx (putF "day" (.int 0) (putF "begun" (.int 0) (putF "left" (.int am) (putF "rates" (.ref l2) [])))))
    refine hQ a1 a2 eok l2 _ b hl2 ⟨?_, b1.row hx1 R1⟩
    rw [← lf_made]
    exact upd_same

theorem ok_Loan_twin {f : Addr} {fd : FuncData} (F : Fun K "twin" "Loan.twin" s_Loan_twin f fd) (T : Txt K mg) (D_Loan_init : Di P w K mg base (L2.CX P w) 3 T.a_Loan "Loan" ["self", "amount", "rates"] (sp_Loan_init T)) :
    FnOk P w K mg base CX0 5 f fd ["self"] (sp_Loan_twin T) := by
  refine F.ok sc_Loan_twin (fun vs H Q E h => ?_) (fun cdv A outer s H vs Q E hr h => ?_)
  · obtain ⟨x, dx, l, ts, z, rfl, _⟩ := h
    rfl
  · obtain ⟨x, dx, l, ts, z, rfl, A1, rok, q⟩ := h
    refine ⟨_, (pss_cons (ps_set (i := 1) sc_Loan_twin.nd rfl (Or.inl rfl) (pe_make D_Loan_init.mC D_Loan_init.G (hr.mono (by decide)) rfl T.g_Loan D_Loan_init.b .nil passL (pa_cons pe_int (pa_cons (pe_fld (pv 0) rfl) pa_nil))))
            (pss_cons (ps_fld (pv 1) (pe_fld (pv 0) rfl) rfl)
            (pss_cons (ps_fld (pv 1) (pe_fld (pv 0) rfl) rfl)
            (pss_cons (ps_fld (pv 1) (pe_fld (pv 0) rfl) rfl)
            (pss_one (ps_ret (pv 1))))))), ?_⟩
    have eok : chk (-1) (vals ts) = .ok := chk_good rok.g rok.last
    refine ⟨_, rfl, x, _, dx, _, _, rfl, A1.ob, T.cl_Loan, T.n_Loan_rates, lf_rates _ _, fun y dy ny ndy ney => ?_⟩
    have s2 : Same H (L2.upd (L2.upd H dy (.own y)) y (.ins T.a_Loan dy [])) := (Same.new ndy).upd (by rw [L2.upd_ne (Ne.symm ney)]; exact ny)
    have hob : (L2.upd (L2.upd H dy (.own y)) y (.ins T.a_Loan dy [])) y = some (.ins T.a_Loan dy []) := upd_same
    generalize L2.upd (L2.upd H dy (.own y)) y (.ins T.a_Loan dy []) = H2 at s2 hob ⊢
    refine ⟨y, dy, l, 1, ts, rfl, hob, A1.row.same s2, fun n => absurd ⟨by decide, by decide⟩ n, fun _ _ e => absurd (e.symm.trans eok) (by decide), fun _ _ e => absurd (e.symm.trans eok) (by decide), fun _ _ _ l2 H3 b3 hl2 A3 => ⟨rfl, ?_⟩⟩
    have s3 : Same H H3 := fun b o e => b3 b o (s2 b o e) (ne_of_none e ny)
    have hl2H : H l2 = none := s2.free hl2
    have A1' := A1.same s3
    have nxy : x ≠ y := ne_of_none A1.ob ny
    refine ⟨_, rfl, x, _, dx, _, _, rfl, A1'.ob, T.cl_Loan, T.n_Loan_left, lf_left _ _, _, rfl, y, T.a_Loan, dy, _, rfl, A3.ob, T.cl_Loan, T.n_Loan_left, lf_len _ _, ?_⟩
    rw [lf_putLeft]
    refine ⟨_, rfl, x, _, dx, _, _, rfl, by rw [L2.upd_ne nxy]; exact A1'.ob, T.cl_Loan, T.n_Loan_begun, lf_begun _ _, _, rfl, y, T.a_Loan, dy, _, rfl, upd_same, T.cl_Loan, T.n_Loan_begun, lf_len _ _, ?_⟩
    rw [lf_putBegun]
    refine ⟨_, rfl, x, _, dx, _, _, rfl, by rw [L2.upd_ne nxy, L2.upd_ne nxy]; exact A1'.ob, T.cl_Loan, T.n_Loan_day, lf_day _ _, _, rfl, y, T.a_Loan, dy, _, rfl, upd_same, T.cl_Loan, T.n_Loan_day, lf_len _ _, ?_⟩
    rw [lf_putDay]
    have b0 : But y H3 _ := (((But.of (x := y) (Same.refl H3)).upd (.ins T.a_Loan dy (lf l2 ⟨z.left, 0, 0⟩))).upd (.ins T.a_Loan dy (lf l2 ⟨z.left, z.begun, 0⟩))).upd (.ins T.a_Loan dy (lf l2 ⟨z.left, z.begun, z.day⟩))
    have sf : Same H _ := (But.of (x := y) s3).trans b0 |>.fresh ny
    exact ⟨_, rfl, q y dy l2 _ sf ny hl2H ⟨upd_same, b0.row A3.ob A3.row⟩⟩

theorem ok_plan {f : Addr} {fd : FuncData} (F : Fun K "plan" "plan" s_plan f fd) (T : Txt K mg) (D_need_days : Df P w K mg base (L2.CX P w) 1 "need_days" ["loan", "days"] (sp_need_days T)) (D_need_part : Df P w K mg base (L2.CX P w) 1 "need_part" ["part"] (sp_need_part T)) (D_rows_of : Df P w K mg base CX0 5 "rows_of" ["loan", "days", "part"] (sp_rows_of T)) (D_Loan_twin : Dm P w K mg base CX0 5 T.a_Loan "twin" ["self"] (sp_Loan_twin T)) :
    FnOk P w K mg base (L2.CX P w) 6 f fd ["loan", "days", "part"] (sp_plan T) := by
  refine F.okX sc_plan (fun vs H Q E h => ?_) (fun cdv A outer s H vs Q E hr h => ?_)
  · obtain ⟨x, dx, l, dl, us, z, ds, part, rfl, _⟩ := h
    rfl
  · obtain ⟨x, dx, l, dl, us, z, ds, part, rfl, X, D, rok, lok, hlen, hD, hP, hQ⟩ := h
    refine ⟨_, (pss_cons (ps_expr (pe_call D_need_days.G (hr.mono (by decide)) rfl D_need_days.m D_need_days.kp D_need_days.b .nil (passes_call (takes_of rfl rfl rfl rfl) (fun _ _ _ _ h => h)) (pa_cons (pv 0) (pa_cons (pv 1) pa_nil))))
            (pss_cons (ps_expr (pe_call D_need_part.G (hr.mono (by decide)) rfl D_need_part.m D_need_part.kp D_need_part.b .nil (passes_call (takes_of rfl rfl rfl rfl) (fun _ _ _ _ h => h)) (pa_cons (pv 2) pa_nil)))
            (pss_one (ps_ret (pc0 D_rows_of hr (pa_cons (pe_meth0 (pv 0) T.cl_Loan D_Loan_twin.me D_Loan_twin.G (hr.mono (by decide)) D_Loan_twin.b .nil pass0) (pa_cons (pv 1) (pa_cons (pv 2) pa_nil)))))))), ?_⟩
    refine ⟨_, rfl, _, rfl, x, dx, l, dl, us, z, ds, rfl, X, D, hD, fun hd => ?_⟩
    refine ⟨_, rfl, _, rfl, hP hd, fun p1 => ?_⟩
    refine ⟨_, rfl, x, dx, _, rfl, X.ob, lf_no _ _ (by decide +kernel) (by decide +kernel) (by decide +kernel) (by decide +kernel), x, dx, l, us, z, rfl, X, rok, fun y dy l2 H1 s1 ny nl2 Y1 => ?_⟩
    refine ⟨_, rfl, _, rfl, y, dy, l2, dl, us, z, ds, part, rfl, Y1, s1.seq D, rok, lok, hd, hlen, by omega, fun rl ts H2 b2 hrl R2 e2 _ => ?_⟩
    exact hQ hd p1 rl ts H2 (fun b o hb => b2 b o (s1 b o hb) (ne_of_none hb ny)) (s1.free hrl) R2 e2

theorem ok_settles {f : Addr} {fd : FuncData} (F : Fun K "settles" "settles" s_settles f fd) (T : Txt K mg) (D_Loan_twin : Dm P w K mg base CX0 5 T.a_Loan "twin" ["self"] (sp_Loan_twin T)) (D_rows_of : Df P w K mg base CX0 5 "rows_of" ["loan", "days", "part"] (sp_rows_of T)) (D_Loan_owed : Dm P w K mg base (L2.CX P w) 3 T.a_Loan "owed" ["self", "day"] (sp_Loan_owed T)) :
    FnOk P w K mg base CX0 6 f fd ["loan", "days", "part"] (sp_settles T) := by
  refine F.ok sc_settles (fun vs H Q E h => ?_) (fun cdv A outer s H vs Q E hr h => ?_)
  · obtain ⟨x, dx, l, dl, us, z, ds, part, rfl, _⟩ := h
    rfl
  · obtain ⟨x, dx, l, dl, us, z, ds, part, rfl, X, D, rok, lok, hd, hne, hlen, p0, q⟩ := h
    refine ⟨_, (pss_cons (ps_set (i := 3) sc_settles.nd rfl (Or.inl rfl) (pe_meth0 (pv 0) T.cl_Loan D_Loan_twin.me D_Loan_twin.G (hr.mono (by decide)) D_Loan_twin.b .nil pass0))
            (pss_cons (ps_expr (pc0 D_rows_of hr (pa_cons (pv 3) (pa_cons (pv 1) (pa_cons (pv 2) pa_nil)))))
            (pss_one (ps_ret (pe_cmpR op_eq (pe_meth (pv 3) T.cl_Loan D_Loan_owed.me D_Loan_owed.G (hr.mono (by decide)) D_Loan_owed.b .nil passL (pa_cons (pe_ix ix_list (pv 1) (pe_un un_neg pe_int) (fun _ _ => rfl)) pa_nil)) pe_int (nomark _)))))), ?_⟩
    refine ⟨_, rfl, x, dx, _, rfl, X.ob, lf_no _ _ (by decide +kernel) (by decide +kernel) (by decide +kernel) (by decide +kernel), x, dx, l, us, z, rfl, X, rok, fun y dy l2 H1 s1 ny nl2 Y1 => ?_⟩
    refine ⟨_, rfl, _, rfl, _, rfl, y, dy, l2, dl, us, z, ds, part, rfl, Y1, s1.seq D, rok, lok, hd, hlen, p0, fun rl ts H2 b2 hrl R2 e2 Y2 => ?_⟩
    have s2 : Same H H2 := fun b o hb => b2 b o (s1 b o hb) (ne_of_none hb ny)
    have he := payAll_day (ps := vals us) (part := part) hd
    have okz := payAll_ok (ps := vals us) rok.g p0 lok hd
    exact ⟨_, rfl, y, dy, _, rfl, Y2.ob, lf_no _ _ (by decide +kernel) (by decide +kernel) (by decide +kernel) (by decide +kernel), _, rfl, _, rfl, dl, _, _, _, rfl, rfl, s2.seq D, end_at hne, y, dy, l2, us, _, _, rfl, Y2, rok, okz, fun n => absurd ⟨he, end_le hd hne⟩ n, fun _ _ H3 s3 => ⟨rfl, q _ (s2.trans s3)⟩⟩

theorem ok_least_part {f : Addr} {fd : FuncData} (F : Fun K "least_part" "least_part" s_least_part f fd) (T : Txt K mg) (D_need_some : Df P w K mg base (L2.CX P w) 2 "need_some" ["loan", "days"] (sp_need_some T)) (D_Loan_owed : Dm P w K mg base (L2.CX P w) 3 T.a_Loan "owed" ["self", "day"] (sp_Loan_owed T)) (D_settles : Df P w K mg base CX0 6 "settles" ["loan", "days", "part"] (sp_settles T)) :
    FnOk P w K mg base (L2.CX P w) 7 f fd ["loan", "days"] (sp_least_part T) := by
  refine F.okX sc_least_part (fun vs H Q E h => ?_) (fun cdv A outer s H vs Q E hr h => ?_)
  · obtain ⟨x, dx, l, dl, us, z, ds, rfl, _⟩ := h
    rfl
  · obtain ⟨x, dx, l, dl, us, z, ds, rfl, X, D, rok, lok, hlen, hE, hQ⟩ := h
    refine ⟨_, (pss_cons (ps_expr (pe_call D_need_some.G (hr.mono (by decide)) rfl D_need_some.m D_need_some.kp D_need_some.b .nil (passes_call (takes_of rfl rfl rfl rfl) (fun _ _ _ _ h => h)) (pa_cons (pv 0) (pa_cons (pv 1) pa_nil))))
            (pss_cons (ps_set (i := 2) sc_least_part.nd rfl (Or.inl rfl) (pe_un un_neg pe_int))
            (pss_cons (ps_set (i := 3) sc_least_part.nd rfl (Or.inl rfl) (pe_meth (pv 0) T.cl_Loan D_Loan_owed.me D_Loan_owed.G (hr.mono (by decide)) D_Loan_owed.b .nil (passes_call (takes_of rfl rfl rfl rfl) (fun _ _ _ _ h => h)) (pa_cons (pe_ix ix_list (pv 1) pe_int (fun _ _ => rfl)) pa_nil)))
            (pss_cons (ps_while (passes_of rfl) (pt_cmpR op_gt (pe_op op_sub (pv 3) (pv 2)) pe_int (nomark _)) (pss_cons (ps_set (i := 4) sc_least_part.nd rfl (Or.inl rfl) (pe_op op_fdiv (pe_op op_add (pv 2) (pv 3)) pe_int))
            (pss_one (ps_if (pt_val (pc0 D_settles hr (pa_cons (pv 0) (pa_cons (pv 1) (pa_cons (pv 4) pa_nil))))) (pss_one (ps_set (i := 3) sc_least_part.nd rfl (Or.inl rfl) (pv 4))) (pss_one (ps_set (i := 2) sc_least_part.nd rfl (Or.inl rfl) (pv 4)))))))
            (pss_one (ps_ret (pv 3))))))), ?_⟩
    refine ⟨_, rfl, _, rfl, x, dx, l, dl, us, z, ds, rfl, X, D, hE, fun hd hne => ?_⟩
    obtain ⟨d0, r, eds⟩ : ∃ d0 r, ds = d0 :: r := by
      cases ds with
      | nil => exact absurd rfl hne
      | cons a b => exact ⟨a, b, rfl⟩
    have hall := setl_all (ps := vals us) (z := z) (d := d0) (r := r) lok rok.g (by rw [← eds]; exact hd)
    rw [← eds] at hall
    have h3 := daysB_cons.mp (show daysB (z.day - 1) (d0 :: r) = true by rw [← eds]; exact hd)
    have og := owedF_ge (d := d0) lok rok.g (show z.day ≤ d0 by omega)
    have oz : owedF z.left z.begun = 0 → owedF z.left (begunAt (vals us) z d0) = 0 := fun e => by
      have hz := owedF_zero lok.l0 lok.b0 e
      rw [begunAt_left0 hz.1]
      exact e
    refine ⟨_, rfl, _, rfl, x, dx, _, rfl, X.ob, lf_no _ _ (by decide +kernel) (by decide +kernel) (by decide +kernel) (by decide +kernel), _, rfl, dl, _, _, _, rfl, rfl, D, at0 (by rw [eds]; rfl), x, dx, l, us, z, d0, rfl, X, rok, lok, fun n => absurd ⟨by omega, h3.1.2⟩ n, fun _ _ H1 s1 => ?_⟩
    generalize owedF z.left (begunAt (vals us) z d0) = o at hall og oz
    refine ⟨fun m σ H' => ∃ (lo hi : Int) (v4 : Option V), m = (hi - lo).toNat ∧ Same H H' ∧ -1 ≤ lo ∧ lo < hi ∧ hi ≤ o ∧ setl (vals us) hi z ds = 0 ∧ (lo = -1 ∨ setl (vals us) lo z ds ≠ 0) ∧ σ = [some (.ref x), some (.ref dl), some (.int lo), some (.int hi), v4],
      ⟨_, -1, o, none, rfl, s1, by decide, by omega, Int.le_refl _, hall, .inl rfl, rfl⟩, ?_⟩
    rintro m σ H2 ⟨lo, hi, v4, rfl, s2, l1, l2, h1, e1, e2, rfl⟩
    refine ⟨_, rfl, _, rfl, _, _, rfl, rfl, _, _, rfl, rfl, _, rfl, ifd (fun c => ?_) (fun c => ?_)⟩
    · have c' : hi - lo > 1 := c
      refine ⟨fun σ' H' => ∃ m' < (hi - lo).toNat, ∃ (lo hi : Int) (v4 : Option V), m' = (hi - lo).toNat ∧ Same H H' ∧ -1 ≤ lo ∧ lo < hi ∧ hi ≤ o ∧ setl (vals us) hi z ds = 0 ∧ (lo = -1 ∨ setl (vals us) lo z ds ≠ 0) ∧ σ' = [some (.ref x), some (.ref dl), some (.int lo), some (.int hi), v4], fun σ' H' ⟨m', hm, h⟩ => ⟨m', hm, h⟩, ?_⟩
      have m1 : 0 ≤ (lo + hi) / 2 ∧ lo < (lo + hi) / 2 ∧ (lo + hi) / 2 < hi := by omega
      refine ⟨_, rfl, _, rfl, _, _, rfl, rfl, _, _, rfl, rfl, dv, ?_⟩
      show gName 4 (V.int ((lo + hi) / 2)) _ _ _
      generalize (lo + hi) / 2 = mi at m1 ⊢
      refine ⟨_, rfl, _, rfl, _, rfl, x, dx, l, dl, us, z, ds, mi, rfl, X.same s2, s2.seq D, rok, lok, hd, hne, hlen, m1.1, fun H3 s3 => ⟨_, rfl, ?_⟩⟩
      refine if_eq (fun e => ?_) (fun e => ?_)
      · exact ⟨_, rfl, (mi - lo).toNat, by omega, lo, mi, _, rfl, s2.trans s3, l1, m1.2.1, by omega, e, e2, rfl⟩
      · exact ⟨_, rfl, (hi - mi).toNat, by omega, mi, hi, _, rfl, s2.trans s3, by omega, m1.2.2, h1, e1, .inr e, rfl⟩
    · have c' : ¬ hi - lo > 1 := c
      have el : lo = hi - 1 := by omega
      refine ⟨_, rfl, hQ hd hne hi H2 s2 (by omega) e1 ?_ fun e => ?_⟩
      · rw [el] at e2
        rcases e2 with e2 | e2
        · exact .inl (by omega)
        · exact .inr e2
      · have := oz e
        omega

theorem ok_whole_cost {f : Addr} {fd : FuncData} (F : Fun K "whole_cost" "whole_cost" s_whole_cost f fd) (T : Txt K mg) (D_Loan_twin : Dm P w K mg base CX0 5 T.a_Loan "twin" ["self"] (sp_Loan_twin T)) (D_rows_of : Df P w K mg base CX0 5 "rows_of" ["loan", "days", "part"] (sp_rows_of T)) (D_Loan_owed : Dm P w K mg base (L2.CX P w) 3 T.a_Loan "owed" ["self", "day"] (sp_Loan_owed T)) :
    FnOk P w K mg base CX0 6 f fd ["loan", "days", "part"] (sp_whole_cost T) := by
  refine F.ok sc_whole_cost (fun vs H Q E h => ?_) (fun cdv A outer s H vs Q E hr h => ?_)
  · obtain ⟨x, dx, l, dl, us, z, ds, part, rfl, _⟩ := h
    rfl
  · obtain ⟨x, dx, l, dl, us, z, ds, part, rfl, X, D, rok, lok, hd, hne, hlen, p0, q⟩ := h
    refine ⟨_, (pss_cons (ps_set (i := 3) sc_whole_cost.nd rfl (Or.inl rfl) (pe_meth0 (pv 0) T.cl_Loan D_Loan_twin.me D_Loan_twin.G (hr.mono (by decide)) D_Loan_twin.b .nil pass0))
            (pss_cons (ps_set (i := 4) sc_whole_cost.nd rfl (Or.inl rfl) pe_int)
            (pss_cons (ps_for PassesOwn.never rfl (pi_list (pc0 D_rows_of hr (pa_cons (pv 3) (pa_cons (pv 1) (pa_cons (pv 2) pa_nil))))) (pg_name (i := 5) sc_whole_cost.nd rfl (Or.inl rfl)) (pss_one (ps_set (i := 4) sc_whole_cost.nd rfl (Or.inl rfl) (pe_op op_add (pv 4) (pe_ix ix_tup (pv 5) pe_int (fun _ _ => rfl))))))
            (pss_one (ps_ret (pe_op op_add (pv 4) (pe_meth (pv 3) T.cl_Loan D_Loan_owed.me D_Loan_owed.G (hr.mono (by decide)) D_Loan_owed.b .nil passL (pa_cons (pe_ix ix_list (pv 1) (pe_un un_neg pe_int) (fun _ _ => rfl)) pa_nil)))))))), ?_⟩
    refine ⟨_, rfl, x, dx, _, rfl, X.ob, lf_no _ _ (by decide +kernel) (by decide +kernel) (by decide +kernel) (by decide +kernel), x, dx, l, us, z, rfl, X, rok, fun y dy l2 H1 s1 ny nl2 Y1 => ?_⟩
    refine ⟨_, rfl, _, rfl, _, rfl, y, dy, l2, dl, us, z, ds, part, rfl, Y1, s1.seq D, rok, lok, hd, hlen, p0, fun rl ts H2 b2 hrl R2 e2 Y2 => ?_⟩
    have s2 : Same H H2 := fun b o hb => b2 b o (s1 b o hb) (ne_of_none hb ny)
    have he := payAll_day (ps := vals us) (part := part) hd
    have okz := payAll_ok (ps := vals us) rok.g p0 lok hd
    have ec := costF_paid rok.g p0 lok hd
    refine ⟨rl, rfl, ⟨_, SqL.of R2.lst⟩, for_list (K := K) (a := rl) (xs := psV ts)
      (fun i σ H' => H' = H2 ∧ ∃ (t : Int) (v5 : Option V), paidSum (psL ts) = t + paidSum ((psL ts).drop i) ∧ σ = [some (.ref x), some (.ref dl), some (.int part), some (.ref y), some (.int t), v5])
      ⟨rfl, 0, none, by rw [List.drop_zero]; omega, rfl⟩ (fun i σ H' _ ⟨e, _⟩ => by rw [e]; exact SqL.of R2.lst) ?_ ?_⟩
    · rintro i v σ H' hi ⟨rfl, t, v5, e1, rfl⟩
      have hil : i < (psL ts).length := by
        have := (List.getElem?_eq_some_iff.mp hi).1
        rw [psV_len] at this
        rw [psL_len]
        exact this
      obtain ⟨pl, hpl⟩ := get_of hil
      obtain ⟨a, ha, hA⟩ := R2.getV hpl
      rw [hi] at ha
      cases ha
      obtain ⟨c1, c2, c3, c4, c5, rfl⟩ := payAll_five pl (by rw [← e2]; exact List.mem_of_getElem? hpl)
      rw [drop_get hpl] at e1
      refine ⟨_, rfl, _, rfl, a, _, _, _, rfl, rfl, SqT.of hA, at_of (j := 1) rfl rfl, _, _, rfl, rfl, rfl, _, _, ?_, rfl⟩
      rw [e1]
      simp only [paidSum]
      show t + (c2 + _) = t + c2 + _
      omega
    · rintro σ H' ⟨rfl, t, v5, e1, rfl⟩
      rw [psV_len, ← psL_len, List.drop_length] at e1
      have e0 : paidSum [] = 0 := rfl
      refine ⟨_, rfl, _, rfl, y, dy, _, rfl, Y2.ob, lf_no _ _ (by decide +kernel) (by decide +kernel) (by decide +kernel) (by decide +kernel), _, rfl, _, rfl, dl, _, _, _, rfl, rfl, s2.seq D, end_atC hne, y, dy, l2, us, _, _, rfl, Y2, rok, okz, fun n => absurd ⟨he, end_leC hd hne⟩ n, fun _ _ H3 s3 => ⟨_, _, rfl, rfl, ?_⟩⟩
      have ee : t + owedF (payAll (vals us) part z ds).2.left (begunAt (vals us) (payAll (vals us) part z ds).2 (endDay z ds)) = costF (vals us) part z ds := by
        rw [← ec, ← e2, e1, e0]
        unfold setl
        omega
      show Q (.int (t + owedF (payAll (vals us) part z ds).2.left (begunAt (vals us) (payAll (vals us) part z ds).2 (endDay z ds)))) H3
      rw [ee]
      exact q _ (s2.trans s3)

theorem ok_cost {f : Addr} {fd : FuncData} (F : Fun K "cost" "cost" s_cost f fd) (T : Txt K mg) (D_need_some : Df P w K mg base (L2.CX P w) 2 "need_some" ["loan", "days"] (sp_need_some T)) (D_need_part : Df P w K mg base (L2.CX P w) 1 "need_part" ["part"] (sp_need_part T)) (D_whole_cost : Df P w K mg base CX0 6 "whole_cost" ["loan", "days", "part"] (sp_whole_cost T)) :
    FnOk P w K mg base (L2.CX P w) 7 f fd ["loan", "days", "part"] (sp_cost T) := by
  refine F.okX sc_cost (fun vs H Q E h => ?_) (fun cdv A outer s H vs Q E hr h => ?_)
  · obtain ⟨x, dx, l, dl, us, z, ds, part, rfl, _⟩ := h
    rfl
  · obtain ⟨x, dx, l, dl, us, z, ds, part, rfl, X, D, rok, lok, hlen, hD, hP, hQ⟩ := h
    refine ⟨_, (pss_cons (ps_expr (pe_call D_need_some.G (hr.mono (by decide)) rfl D_need_some.m D_need_some.kp D_need_some.b .nil (passes_call (takes_of rfl rfl rfl rfl) (fun _ _ _ _ h => h)) (pa_cons (pv 0) (pa_cons (pv 1) pa_nil))))
            (pss_cons (ps_expr (pe_call D_need_part.G (hr.mono (by decide)) rfl D_need_part.m D_need_part.kp D_need_part.b .nil (passes_call (takes_of rfl rfl rfl rfl) (fun _ _ _ _ h => h)) (pa_cons (pv 2) pa_nil)))
            (pss_one (ps_ret (pc0 D_whole_cost hr (pa_cons (pv 0) (pa_cons (pv 1) (pa_cons (pv 2) pa_nil)))))))), ?_⟩
    refine ⟨_, rfl, _, rfl, x, dx, l, dl, us, z, ds, rfl, X, D, hD, fun hd hne => ?_⟩
    refine ⟨_, rfl, _, rfl, hP hd hne, fun p1 => ?_⟩
    exact ⟨_, rfl, _, rfl, _, rfl, x, dx, l, dl, us, z, ds, part, rfl, X, D, rok, lok, hd, hne, hlen, by omega, hQ hd hne p1⟩

theorem ok_saved {f : Addr} {fd : FuncData} (F : Fun K "saved" "saved" s_saved f fd) (T : Txt K mg) (D_need_some : Df P w K mg base (L2.CX P w) 2 "need_some" ["loan", "days"] (sp_need_some T)) (D_need_part : Df P w K mg base (L2.CX P w) 1 "need_part" ["part"] (sp_need_part T)) (D_Loan_twin : Dm P w K mg base CX0 5 T.a_Loan "twin" ["self"] (sp_Loan_twin T)) (D_Loan_pay : Dm P w K mg base (L2.CX P w) 4 T.a_Loan "pay" ["self", "day", "cents"] (sp_Loan_pay T)) (D_whole_cost : Df P w K mg base CX0 6 "whole_cost" ["loan", "days", "part"] (sp_whole_cost T)) :
    FnOk P w K mg base (L2.CX P w) 7 f fd ["loan", "days", "part", "day", "cents"] (sp_saved T) := by
  refine F.okX sc_saved (fun vs H Q E h => ?_) (fun cdv A outer s H vs Q E hr h => ?_)
  · obtain ⟨x, dx, l, dl, us, z, d0, r, ds, part, e, c, rfl, _⟩ := h
    rfl
  · obtain ⟨x, dx, l, dl, us, z, d0, r, ds, part, e, c, rfl, X, D, rok, lok, hlen, eds, hD, hP, hD2, hP2, hQ⟩ := h
    refine ⟨_, (pss_cons (ps_expr (pe_call D_need_some.G (hr.mono (by decide)) rfl D_need_some.m D_need_some.kp D_need_some.b .nil (passes_call (takes_of rfl rfl rfl rfl) (fun _ _ _ _ h => h)) (pa_cons (pv 0) (pa_cons (pv 1) pa_nil))))
            (pss_cons (ps_expr (pe_call D_need_part.G (hr.mono (by decide)) rfl D_need_part.m D_need_part.kp D_need_part.b .nil (passes_call (takes_of rfl rfl rfl rfl) (fun _ _ _ _ h => h)) (pa_cons (pv 2) pa_nil)))
            (pss_cons (ps_if (pt_cmpR op_gt (pv 3) (pe_ix ix_list (pv 1) pe_int (fun _ _ => rfl)) (nomark _)) (pss_one (ps_raise rfl (takes_of rfl rfl rfl rfl) (pmk_own PySem.F.excBase_ValueError T.e_BadDay.x T.g_BadDay T.e_BadDay.k (raises_own T.e_BadDay.s T.e_BadDay.t) (by exact rfl)))) pss_nil)
            (pss_cons (ps_set (i := 5) sc_saved.nd rfl (Or.inl rfl) (pe_meth0 (pv 0) T.cl_Loan D_Loan_twin.me D_Loan_twin.G (hr.mono (by decide)) D_Loan_twin.b .nil pass0))
            (pss_cons (ps_expr (pe_meth (pv 5) T.cl_Loan D_Loan_pay.me D_Loan_pay.G (hr.mono (by decide)) D_Loan_pay.b .nil (passes_call (takes_of rfl rfl rfl rfl) (fun _ _ _ _ h => h)) (pa_cons (pv 3) (pa_cons (pv 4) pa_nil))))
            (pss_one (ps_ret (pe_op op_sub (pe_op op_sub (pc0 D_whole_cost hr (pa_cons (pv 0) (pa_cons (pv 1) (pa_cons (pv 2) pa_nil)))) (pv 4)) (pc0 D_whole_cost hr (pa_cons (pv 5) (pa_cons (pv 1) (pa_cons (pv 2) pa_nil)))))))))))), ?_⟩
    refine ⟨_, rfl, _, rfl, x, dx, l, dl, us, z, ds, rfl, X, D, hD, fun hd hne => ?_⟩
    refine ⟨_, rfl, _, rfl, hP hd hne, fun p1 => ?_⟩
    have eds2 := eds hne
    have h3 := daysB_cons.mp (show daysB (z.day - 1) (d0 :: r) = true by rw [← eds2]; exact hd)
    refine ⟨_, rfl, _, rfl, dl, _, _, _, rfl, rfl, D, at0 (by rw [eds2]; rfl), _, _, rfl, rfl, _, rfl, ifd (fun c1 => hD2 hd hne p1 (fun n => absurd n.2 (by have : e > d0 := c1; omega)) _ (Same.refl _)) (fun c1 => ?_)⟩
    have c1' : ¬ e > d0 := c1
    refine ⟨_, rfl, x, dx, _, rfl, X.ob, lf_no _ _ (by decide +kernel) (by decide +kernel) (by decide +kernel) (by decide +kernel), x, dx, l, us, z, rfl, X, rok, fun y dy l2 H1 s1 ny nl2 Y1 => ?_⟩
    refine ⟨_, rfl, y, dy, _, rfl, Y1.ob, lf_no _ _ (by decide +kernel) (by decide +kernel) (by decide +kernel) (by decide +kernel), _, rfl, _, rfl, y, dy, l2, us, z, e, c, rfl, Y1, rok, lok, fun n => hD2 hd hne p1 (fun m => n ⟨m.1, by omega⟩) _ s1, fun e1 e2 n H2 s2 => hP2 hd hne p1 e1 (by omega) n _ (s1.trans s2), fun e1 e2 c1 c2 p H2 b2 hp Y2 t2 => ?_⟩
    have s2 : Same H H2 := fun b o hb => b2 b o (s1 b o hb) (ne_of_none hb ny)
    refine ⟨_, rfl, _, rfl, _, rfl, x, dx, l, dl, us, z, ds, part, rfl, X.same s2, s2.seq D, rok, lok, hd, hne, hlen, by omega, fun H3 s3 => ?_⟩
    refine ⟨_, rfl, _, _, rfl, rfl, ?_⟩
    have hd2 : daysB ((payLn (vals us) z e c).day - 1) ds = true := by
      rw [eds2]
      exact daysB_cons.mpr ⟨⟨by show e - 1 < d0; omega, h3.1.2⟩, h3.2⟩
    exact ⟨_, rfl, _, rfl, _, rfl, y, dy, l2, dl, us, _, ds, part, rfl, Y2.same s3, (s2.trans s3).seq D, rok, payLn_ok lok rok.g e1 e2 c1 c2, hd2, hne, hlen, by omega, fun H4 s4 => ⟨_, _, rfl, rfl, hQ hd hne p1 e1 (by omega) c1 c2 _ ((s2.trans s3).trans s4)⟩⟩

theorem ok_Loan_change {f : Addr} {fd : FuncData} (F : Fun K "change" "Loan.change" s_Loan_change f fd) (T : Txt K mg) (D_need_rate : Df P w K mg base (L2.CX P w) 1 "need_rate" ["rate"] (sp_need_rate T)) :
    FnOk P w K mg base (L2.CX P w) 2 f fd ["self", "day", "rate"] (sp_Loan_change T) := by
  refine F.okX sc_Loan_change (fun vs H Q E h => ?_) (fun cdv A outer s H vs Q E hr h => ?_)
  · obtain ⟨x, dx, l, ts, z, d, r, rfl, _⟩ := h
    rfl
  · obtain ⟨x, dx, l, ts, z, d, r, rfl, A1, rok, hD, hR, hQ⟩ := h
    refine ⟨_, (pss_cons (ps_if (PW.pt (pw_or (pt_cmpR op_le (pv 1) (pe_fld (pv 0) rfl) (nomark _)) (pw_or (pt_cmpR op_le (pv 1) (pe_ix ix_tup (pe_ix ix_list (pe_fld (pv 0) rfl) (pe_un un_neg pe_int) (fun _ _ => rfl)) pe_int (fun _ _ => rfl)) (nomark _)) (pw_or1 (pt_cmpR op_gt (pv 1) (pe_gint T.c_MOST_DAY) (nomark _)))))) (pss_one (ps_raise rfl (takes_of rfl rfl rfl rfl) (pmk_own PySem.F.excBase_ValueError T.e_BadDay.x T.g_BadDay T.e_BadDay.k (raises_own T.e_BadDay.s T.e_BadDay.t) (by exact rfl)))) pss_nil)
            (pss_cons (ps_expr (pe_call D_need_rate.G (hr.mono (by decide)) rfl D_need_rate.m D_need_rate.kp D_need_rate.b .nil (passes_call (takes_of rfl rfl rfl rfl) (fun _ _ _ _ h => h)) (pa_cons (pv 2) pa_nil)))
            (pss_one (ps_expr (pe_bm PySem.F.plainAttrs_list PySem.F.slot_list_append PySem.F.type_list_append mt_append (pe_fld (pv 0) rfl) (pa_cons (pe_tup (pa_cons (pv 1) (pa_cons (pv 2) pa_nil))) pa_nil)))))), ?_⟩
    have hx := A1.ob
    obtain ⟨b, rl, hb, hbp, _⟩ := A1.row.last (good_ne rok.g)
    refine ⟨_, rfl, _, rfl, x, _, dx, _, _, rfl, hx, T.cl_Loan, T.n_Loan_day, lf_day _ _, _, _, rfl, rfl, _, rfl, ifd (fun c1 => ?_) (fun c1 => ?_)⟩
    · exact iteT (hD (.inl c1))
    refine ⟨_, rfl, _, rfl, x, _, dx, _, _, rfl, hx, T.cl_Loan, T.n_Loan_rates, lf_rates _ _, _, rfl, l, _, _, _, rfl, rfl, A1.row.seq, hb, b, _, _, _, rfl, rfl, SqT.of hbp, at0 rfl, _, _, rfl, rfl, _, rfl, ifd (fun c2 => ?_) (fun c2 => ?_)⟩
    · exact iteT (hD (.inr (.inl c2)))
    refine ⟨_, rfl, _, _, rfl, rfl, _, rfl, ifd (fun c3 => ?_) (fun c3 => ?_)⟩
    · exact hD (.inr (.inr c3))
    have cc : ¬ (d ≤ z.day ∨ d ≤ lastDay (vals ts) ∨ d > 100000) := by omega
    refine ⟨_, rfl, _, rfl, hR cc, fun r0 r1 => ?_⟩
    refine ⟨_, rfl, x, _, dx, _, _, rfl, hx, T.cl_Loan, T.n_Loan_rates, lf_rates _ _, .inl ⟨rfl, _, A1.row.seq⟩, _, rfl, _, rfl, szl 2, fun p hp => ?_⟩
    have R2 := A1.row.same (Same.new (o := tupV (d, r)) hp)
    refine ⟨l, rowV ts, _, rfl, rfl, R2.lst, sz_lt (by have := rok.len; rw [vals_len] at this; rw [rowV_len]; omega), ?_⟩
    have R3 := R2.snoc d r upd_same
    have nxl : x ≠ l := ne_of hx A1.row.lst (by intro q; cases q)
    have nxp : x ≠ p := ne_of_none hx hp
    refine hQ cc r0 r1 p _ ((But.of (Same.new hp)).upd _) hp ⟨?_, R3⟩
    rw [L2.upd_ne nxl, L2.upd_ne nxp]
    exact hx

theorem ok_law_cell_at {f : Addr} {fd : FuncData} (F : Fun K "_law_cell_at" "_law_cell_at" s_law_cell_at f fd) (T : Txt K mg)  :
    FnOk P w K mg base CX0 1 f fd ["_law_script", "_law_k"] (sp_law_cell_at T) := by
  refine F.ok sc_law_cell_at (fun vs H Q E h => ?_) (fun cdv A outer s H vs Q E hr h => ?_)
  · obtain ⟨a, ns, k, rfl, _⟩ := h
    rfl
  · obtain ⟨a, ns, k, rfl, hS, h0, q⟩ := h
    refine ⟨_, (pss_cons (ps_if (pt_cmpR op_lt (pv 1) (pe_callB call_len_seq (by rfl) T.b_len PySem.boot_len (pa_cons (pv 0) pa_nil)) (nomark _)) (pss_one (ps_ret (pe_ix ix_list (pv 0) (pv 1) (fun _ _ => rfl)))) pss_nil)
            (pss_one (ps_ret pe_int))), ?_⟩
    refine ⟨_, rfl, _, rfl, a, _, rfl, Or.inl hS, _, _, rfl, rfl, _, rfl, ifd (fun c => ?_) (fun c => ?_)⟩
    · rw [List.length_map] at c
      obtain ⟨j, rfl⟩ : ∃ j : Nat, k = (j : Int) := ⟨k.toNat, by omega⟩
      have hj : j < ns.length := by omega
      refine ⟨_, rfl, _, rfl, a, _, _, _, rfl, rfl, hS, at_m rfl (List.getElem?_eq_getElem hj), ?_⟩
      have e : cellAt ns (j : Int) = ns[j] := by
        unfold cellAt
        rw [Int.toNat_natCast, List.getD_eq_getElem?_getD, List.getElem?_eq_getElem hj]
        rfl
      rw [← e]
      exact q
    · rw [List.length_map] at c
      have e : cellAt ns k = 0 := by
        unfold cellAt
        rw [List.getD_eq_getElem?_getD, List.getElem?_eq_none (by omega)]
        rfl
      rw [e] at q
      exact q

theorem ok_law_mixed {f : Addr} {fd : FuncData} (F : Fun K "_law_mixed" "_law_mixed" s_law_mixed f fd) (T : Txt K mg)  :
    FnOk P w K mg base CX0 1 f fd ["_law_cell", "_law_many"] (sp_law_mixed T) := by
  refine F.ok sc_law_mixed (fun vs H Q E h => ?_) (fun cdv A outer s H vs Q E hr h => ?_)
  · obtain ⟨c, m, rfl, _⟩ := h
    rfl
  · obtain ⟨c, m, rfl, h0, q⟩ := h
    refine ⟨_, (pss_one (ps_ret (pe_op op_mod (pe_op op_mod (pe_op op_add (pe_op op_mulX (pv 0) pe_int) pe_int) pe_int) (pv 1)))), ?_⟩
    refine ⟨_, rfl, _, _, rfl, rfl, mulR, _, _, rfl, rfl, _, _, rfl, rfl, md, _, rfl, _, _, rfl, rfl, h0, q⟩

theorem ok_law_rate_by {f : Addr} {fd : FuncData} (F : Fun K "_law_rate_by" "_law_rate_by" s_law_rate_by f fd) (T : Txt K mg) (D_law_mixed : Df P w K mg base CX0 1 "_law_mixed" ["_law_cell", "_law_many"] (sp_law_mixed T)) :
    FnOk P w K mg base CX0 2 f fd ["_law_cell"] (sp_law_rate_by T) := by
  refine F.ok sc_law_rate_by (fun vs H Q E h => ?_) (fun cdv A outer s H vs Q E hr h => ?_)
  · obtain ⟨c, rfl, _⟩ := h
    rfl
  · obtain ⟨c, rfl, q⟩ := h
    refine ⟨_, (pss_cons (ps_if (pt_cmpR op_eq (pe_op op_mod (pv 0) pe_int) pe_int (nomark _)) (pss_one (ps_ret (pe_ix ix_list (pe_lst (pa_cons pe_int (pa_cons pe_int (pa_cons pe_int (pa_cons pe_int pa_nil))))) (pe_op op_mod (pe_op op_fdiv (pv 0) pe_int) pe_int) (fun _ _ => rfl)))) pss_nil)
            (pss_cons (ps_if (pt_cmpR op_eq (pe_op op_mod (pv 0) pe_int) pe_int (nomark _)) (pss_one (ps_ret (pe_op op_mod (pe_op op_fdiv (pv 0) pe_int) pe_int))) pss_nil)
            (pss_one (ps_ret (pc0 D_law_mixed hr (pa_cons (pv 0) (pa_cons pe_int pa_nil))))))), ?_⟩
    unfold rateBy at q
    refine ⟨_, rfl, _, _, rfl, rfl, md, rfl, _, rfl, if_eq (fun c1 => ?_) (fun c1 => ?_)⟩
    · rw [if_pos c1] at q
      refine ⟨by decide, fun l hl => ⟨_, rfl, _, _, rfl, rfl, dv, _, _, rfl, rfl, md, ?_⟩⟩
      have g0 : 0 ≤ c / 5 % 4 := by omega
      have g1 : c / 5 % 4 < 4 := by omega
      obtain ⟨j, ej⟩ : ∃ j : Nat, c / 5 % 4 = (j : Int) := ⟨(c / 5 % 4).toNat, by omega⟩
      have hj : j < 4 := by omega
      refine ⟨l, _, _, V.int (([0, 1, 99999, 100000] : List Int).getD (c / 5 % 4).toNat 0), rfl, rfl, SqL.of upd_same, at_of ej ?_, q _ (Same.new hl)⟩
      rw [ej, Int.toNat_natCast]
      match j, hj with
      | 0, _ => rfl
      | 1, _ => rfl
      | 2, _ => rfl
      | 3, _ => rfl
    · rw [if_neg c1] at q
      refine ⟨_, rfl, _, _, rfl, rfl, md, rfl, _, rfl, if_eq (fun c2 => ?_) (fun c2 => ?_)⟩
      · rw [if_pos c2] at q
        exact ⟨_, rfl, _, _, rfl, rfl, dv, _, _, rfl, rfl, md, q _ (Same.refl H)⟩
      · rw [if_neg c2] at q
        exact ⟨_, rfl, _, _, rfl, by decide, q _ (Same.refl H)⟩

theorem ok_law_row_by {f : Addr} {fd : FuncData} (F : Fun K "_law_row_by" "_law_row_by" s_law_row_by f fd) (T : Txt K mg) (D_law_rate_by : Df P w K mg base CX0 2 "_law_rate_by" ["_law_cell"] (sp_law_rate_by T)) (D_law_mixed : Df P w K mg base CX0 1 "_law_mixed" ["_law_cell", "_law_many"] (sp_law_mixed T)) :
    FnOk P w K mg base CX0 3 f fd ["_law_cell", "_law_many", "_law_wide"] (sp_law_row_by T) := by
  refine F.ok sc_law_row_by (fun vs H Q E h => ?_) (fun cdv A outer s H vs Q E hr h => ?_)
  · obtain ⟨c, m, w', rfl, _⟩ := h
    rfl
  · obtain ⟨c, many, wide, rfl, h1, h2, h3, q⟩ := h
    refine ⟨_, (pss_cons (ps_set (i := 3) sc_law_row_by.nd rfl (Or.inl rfl) (pe_lst (pa_cons (pe_tup (pa_cons pe_int (pa_cons (pc0 D_law_rate_by hr (pa_cons (pv 0) pa_nil)) pa_nil))) pa_nil)))
            (pss_cons (ps_for PassesOwn.never rfl (pi_range2 rfl T.b_range (pa_cons pe_int (pa_cons (pv 1) pa_nil))) (pg_name (i := 4) sc_law_row_by.nd rfl (Or.inl rfl)) (pss_cons (ps_set (i := 5) sc_law_row_by.nd rfl (Or.inl rfl) (pe_op op_add (pe_op op_add (pe_ix ix_tup (pe_ix ix_list (pv 3) (pe_un un_neg pe_int) (fun _ _ => rfl)) pe_int (fun _ _ => rfl)) pe_int) (pc0 D_law_mixed hr (pa_cons (pe_op op_add (pv 0) (pe_op op_mulX pe_int (pv 4))) (pa_cons (pv 2) pa_nil)))))
            (pss_one (ps_expr (pe_bm PySem.F.plainAttrs_list PySem.F.slot_list_append PySem.F.type_list_append mt_append (pv 3) (pa_cons (pe_tup (pa_cons (pv 5) (pa_cons (pc0 D_law_rate_by hr (pa_cons (pe_op op_add (pe_op op_fdiv (pv 0) pe_int) (pe_op op_mulX pe_int (pv 4))) pa_nil)) pa_nil))) pa_nil))))))
            (pss_one (ps_ret (pv 3))))), ?_⟩
    refine ⟨_, rfl, c, rfl, fun H1 s1 => ⟨szl 2, fun p hp => ⟨szl 1, fun l hl => ?_⟩⟩⟩
    have s2 : Same H (L2.upd H1 p (tupV (0, rateBy c))) := s1.upd hp
    have hl0 : H l = none := s2.free hl
    have s3 : Same H (L2.upd (L2.upd H1 p (tupV (0, rateBy c))) l (.lst (rowV [(p, 0, rateBy c)]))) := s2.upd hl
    have R0 : Row (L2.upd (L2.upd H1 p (tupV (0, rateBy c))) l (.lst (rowV [(p, 0, rateBy c)]))) l [(p, 0, rateBy c)] := ⟨upd_same, fun t ht => by
      obtain rfl : t = (p, 0, rateBy c) := by simpa using ht
      show L2.upd _ _ _ p = _
      rw [L2.upd_ne (by intro e; rw [← e, upd_same] at hl; cases hl)]
      exact upd_same⟩
    refine ⟨_, rfl, 1, many, rfl, ⟨by omega, by omega, by omega, by omega⟩, for_range (lo := 1) (n := (many - 1).toNat)
      (fun i σ H2 => ∃ (ts : List Trp) (v4 v5 : Option V), σ = [some (.int c), some (.int many), some (.int wide), some (.ref l), v4, v5] ∧ Same H H2 ∧ Row H2 l ts ∧ vals ts = rowUp c wide i)
      ⟨_, none, none, rfl, s3, R0, rfl⟩ ?_ ?_⟩
    · rintro i σ H2 hi ⟨ts, v4, v5, rfl, s4, R, e⟩
      have hne : ts ≠ [] := vals_ne (by rw [e]; intro z; have := rowUp_len c wide i; rw [z] at this; cases this)
      obtain ⟨a, r, ha, hap, _⟩ := R.last hne
      refine ⟨_, rfl, _, rfl, l, _, _, _, rfl, rfl, R.seq, ha, a, _, _, _, rfl, rfl, SqT.of hap, at0 rfl, _, _, rfl, rfl, _, rfl, _, rfl, _, _, rfl, rfl, mulL, _, _, rfl, rfl, _, rfl, _, _, rfl, h3, _, _, rfl, rfl, ?_⟩
      have hlen : ts.length = i + 1 := by rw [← vals_len, e, rowUp_len]
      refine ⟨_, rfl, .inl ⟨rfl, _, R.seq⟩, _, rfl, _, rfl, _, _, rfl, rfl, dv, _, rfl, _, _, rfl, rfl, mulL, _, _, rfl, rfl, _, rfl, fun H3 s5 => ⟨szl 2, fun p2 hp2 => ?_⟩⟩
      have R3 := R.same s5
      have R4 := R3.same (Same.new (o := tupV (lastDay (vals ts) + 1 + mixed (c + 13 * (1 + (i : Int))) wide, rateBy (c / 7 + 31 * (1 + (i : Int))))) hp2)
      refine ⟨l, rowV ts, _, rfl, rfl, R4.lst, sz_lt (by rw [rowV_len, hlen]; omega), ?_⟩
      refine ⟨_, _, _, rfl, ((s4.trans s5).upd hp2).mut hl0, R4.snoc _ _ upd_same, ?_⟩
      rw [vals_append, e]
      show rowUp c wide i ++ _ = rowUp c wide i ++ _
      rw [Int.add_comm 1 (i : Int), ← e]
      rfl
    · rintro σ H2 ⟨ts, v4, v5, rfl, s4, R, e⟩
      exact ⟨_, rfl, q l ts H2 s4 hl0 R e⟩

theorem ok_law_sum_by {f : Addr} {fd : FuncData} (F : Fun K "_law_sum_by" "_law_sum_by" s_law_sum_by f fd) (T : Txt K mg)  :
    FnOk P w K mg base CX0 1 f fd ["_law_row", "_law_start", "_law_end"] (sp_law_sum_by T) := by
  refine F.ok sc_law_sum_by (fun vs H Q E h => ?_) (fun cdv A outer s H vs Q E hr h => ?_)
  · obtain ⟨l, ts, s, e, rfl, _⟩ := h
    rfl
  · obtain ⟨l, ts, s, e, rfl, R, hl, g, h0, hse, q⟩ := h
    rw [← sumUp_all g h0 hse] at q
    refine ⟨_, (pss_cons (ps_set (i := 3) sc_law_sum_by.nd rfl (Or.inl rfl) (pe_op op_mulX (pe_ix ix_tup (pe_ix ix_list (pv 0) pe_int (fun _ _ => rfl)) pe_int (fun _ _ => rfl)) (pe_op op_sub (pv 2) (pv 1))))
            (pss_cons (ps_for PassesOwn.never rfl (pi_range2 rfl T.b_range (pa_cons pe_int (pa_cons (pe_callB call_len_seq (by rfl) T.b_len PySem.boot_len (pa_cons (pv 0) pa_nil)) pa_nil))) (pg_name (i := 4) sc_law_sum_by.nd rfl (Or.inl rfl)) (pss_cons (ps_set (i := 5) sc_law_sum_by.nd rfl (Or.inl rfl) (pe_op op_sub (pv 2) (pe_callB (call_max2 rfl) (by rfl) T.b_max (by decide +kernel) (pa_cons (pv 1) (pa_cons (pe_op op_sub (pe_ix ix_tup (pe_ix ix_list (pv 0) (pv 4) (fun _ _ => rfl)) pe_int (fun _ _ => rfl)) pe_int) pa_nil)))))
            (pss_one (ps_if (pt_cmpR op_gt (pv 5) pe_int (nomark _)) (pss_one (ps_set (i := 3) sc_law_sum_by.nd rfl (Or.inl rfl) (pe_op op_add (pv 3) (pe_op op_mulX (pe_op op_sub (pe_ix ix_tup (pe_ix ix_list (pv 0) (pv 4) (fun _ _ => rfl)) pe_int (fun _ _ => rfl)) (pe_ix ix_tup (pe_ix ix_list (pv 0) (pe_op op_sub (pv 4) pe_int) (fun _ _ => rfl)) pe_int (fun _ _ => rfl))) (pv 5))))) pss_nil))))
            (pss_one (ps_ret (pv 3))))), ?_⟩
    have hlen : (vals ts).length = ts.length := vals_len ts
    obtain ⟨r0, f0⟩ := g.first
    have hpos := (List.getElem?_eq_some_iff.mp f0).1
    obtain ⟨b0, hb0, hbp0⟩ := R.at (z := 0) (j := 0) rfl f0
    have hr0 := g.rate _ (List.mem_of_getElem? f0)
    refine ⟨_, rfl, l, _, _, _, rfl, rfl, R.seq, hb0, b0, _, _, _, rfl, rfl, SqT.of hbp0, at_of (j := 1) rfl rfl, ?_⟩
    walk_at "rd"
    refine ⟨IntMulOk.of_left (PySem.intBits_le_64 (by simp only at hr0; omega) (by simp only at hr0; omega)), _, rfl, l, _, rfl, .inl R.seq, _, _, rfl, ⟨by omega, by omega, by omega, by rw [rowV_len]; omega⟩, for_range (lo := 1) (n := (((rowV ts).length : Int) - 1).toNat)
      (fun i σ H1 => H1 = H ∧ ∃ v4 v5 : Option V, σ = [some (.ref l), some (.int s), some (.int e), some (.int (sumUp (vals ts) s e i)), v4, v5])
      ⟨rfl, none, none, ?_⟩ ?_ ?_⟩
    · show _ = [_, _, _, some (V.int (((vals ts).getD 0 (0, 0)).2 * (e - s))), _, _]
      rw [getD_of f0]
      rfl
    · rintro i σ H1 hi ⟨rfl, v4, v5, rfl⟩
      rw [rowV_len] at hi
      obtain ⟨p, hp⟩ := get_of (l := vals ts) (j := i + 1) (by omega)
      obtain ⟨q2, hq⟩ := get_of (l := vals ts) (j := i) (by omega)
      obtain ⟨a, ha, hap⟩ := R.at (z := 1 + (i : Int)) (j := i + 1) (by omega) hp
      obtain ⟨c, hc, hcp⟩ := R.at (z := 1 + (i : Int) - 1) (j := i) (by omega) hq
      have hm := g.rate p (List.mem_of_getElem? hp)
      have hm2 := g.rate q2 (List.mem_of_getElem? hq)
      refine ⟨_, rfl, _, rfl, _, rfl, _, rfl, l, _, _, _, rfl, rfl, R.seq, ha, a, _, _, _, rfl, rfl, SqT.of hap, at0 rfl, ?_⟩
      walk_at "rd"
      refine ifd (fun c1 => ?_) (fun c1 => ?_)
      · refine ⟨_, rfl, _, rfl, _, rfl, l, _, _, _, rfl, rfl, R.seq, ha, a, _, _, _, rfl, rfl, SqT.of hap, at_of (j := 1) rfl rfl, _, rfl, _, rfl, _, _, rfl, rfl, l, _, _, _, rfl, rfl, R.seq, hc, c, _, _, _, rfl, rfl, SqT.of hcp, at_of (j := 1) rfl rfl, _, _, rfl, rfl, _, rfl, _, _, rfl, rfl,
          IntMulOk.of_left (PySem.intBits_le_64 (by omega) (by omega)), _, _, rfl, rfl, rfl, some (.int (1 + (i : Int))), some (.int (e - (if p.1 - 1 > s then p.1 - 1 else s))), ?_⟩
        have ee : sumUp (vals ts) s e (i + 1) = sumUp (vals ts) s e i + (p.2 - q2.2) * (e - (if p.1 - 1 > s then p.1 - 1 else s)) := by
          rw [sumUp, getD_of hp, getD_of hq, if_pos c1]
        rw [ee]
        rfl
      · refine ⟨rfl, some (.int (1 + (i : Int))), some (.int (e - (if p.1 - 1 > s then p.1 - 1 else s))), ?_⟩
        have ee : sumUp (vals ts) s e (i + 1) = sumUp (vals ts) s e i := by
          rw [sumUp, getD_of hp, getD_of hq, if_neg c1]
        rw [ee]
        rfl
    · rintro σ H1 ⟨rfl, v4, v5, rfl⟩
      refine ⟨_, rfl, ?_⟩
      rw [show (((rowV ts).length : Int) - 1).toNat = (vals ts).length - 1 by rw [rowV_len]; omega]
      exact q

theorem ok_law_amount_by {f : Addr} {fd : FuncData} (F : Fun K "_law_amount_by" "_law_amount_by" s_law_amount_by f fd) (T : Txt K mg) (D_law_mixed : Df P w K mg base CX0 1 "_law_mixed" ["_law_cell", "_law_many"] (sp_law_mixed T)) :
    FnOk P w K mg base CX0 2 f fd ["_law_cell"] (sp_law_amount_by T) := by
  refine F.ok sc_law_amount_by (fun vs H Q E h => ?_) (fun cdv A outer s H vs Q E hr h => ?_)
  · obtain ⟨c, rfl, _⟩ := h
    rfl
  · obtain ⟨c, rfl, q⟩ := h
    refine ⟨_, (pss_cons (ps_if (pt_cmpR op_eq (pe_op op_mod (pv 0) pe_int) pe_int (nomark _)) (pss_one (ps_ret (pe_ix ix_list (pe_lst (pa_cons pe_int (pa_cons pe_int (pa_cons pe_int (pa_cons pe_int pa_nil))))) (pe_op op_mod (pe_op op_fdiv (pv 0) pe_int) pe_int) (fun _ _ => rfl)))) pss_nil)
            (pss_cons (ps_if (pt_cmpR op_eq (pe_op op_mod (pv 0) pe_int) pe_int (nomark _)) (pss_one (ps_ret (pe_op op_add pe_int (pe_op op_mod (pe_op op_fdiv (pv 0) pe_int) pe_int)))) pss_nil)
            (pss_one (ps_ret (pe_op op_add pe_int (pe_op op_mod (pe_op op_add (pe_op op_mulX (pc0 D_law_mixed hr (pa_cons (pv 0) (pa_cons pe_int pa_nil))) pe_int) pe_int) pe_int)))))), ?_⟩
    unfold amountBy at q
    refine ⟨_, rfl, _, _, rfl, rfl, md, rfl, _, rfl, if_eq (fun c1 => ?_) (fun c1 => ?_)⟩
    · rw [if_pos c1] at q
      refine ⟨szl 4, fun l hl => ⟨_, rfl, _, _, rfl, rfl, dv, _, _, rfl, rfl, md, ?_⟩⟩
      obtain ⟨j, ej⟩ : ∃ j : Nat, c / 4 % 4 = (j : Int) := ⟨(c / 4 % 4).toNat, by omega⟩
      have hj : j < 4 := by omega
      refine ⟨l, _, _, V.int (([1, 2, 999999999999, 1000000000000] : List Int).getD (c / 4 % 4).toNat 0), rfl, rfl, SqL.of upd_same, at_of ej ?_, q _ (Same.new hl)⟩
      rw [ej, Int.toNat_natCast]
      match j, hj with
      | 0, _ => rfl
      | 1, _ => rfl
      | 2, _ => rfl
      | 3, _ => rfl
    · rw [if_neg c1] at q
      refine ⟨_, rfl, _, _, rfl, rfl, md, rfl, _, rfl, if_eq (fun c2 => ?_) (fun c2 => ?_)⟩
      · rw [if_pos c2] at q
        exact ⟨_, rfl, _, _, rfl, rfl, dv, _, _, rfl, rfl, md, _, _, rfl, rfl, q _ (Same.refl H)⟩
      · rw [if_neg c2] at q
        exact ⟨_, rfl, _, _, rfl, by decide, _, _, rfl, rfl, mulR, _, _, rfl, rfl, _, _, rfl, rfl, md, _, _, rfl, rfl, q _ (Same.refl H)⟩

theorem ok_law_owed {f : Addr} {fd : FuncData} (F : Fun K "_law_owed" "_law_owed" s_law_owed f fd) (T : Txt K mg)  :
    FnOk P w K mg base CX0 1 f fd ["_law_left", "_law_begun"] (sp_law_owed T) := by
  refine F.ok sc_law_owed (fun vs H Q E h => ?_) (fun cdv A outer s H vs Q E hr h => ?_)
  · obtain ⟨l, b, rfl, _⟩ := h
    rfl
  · obtain ⟨l, b, rfl, q⟩ := h
    refine ⟨_, (pss_one (ps_ret (pe_op op_add (pv 0) (pe_op op_fdiv (pe_op op_add (pv 1) pe_int) pe_int)))), ?_⟩
    have e : owedF l b = l + (b + 999999) / 1000000 := by
      unfold owedF
      rw [show b + 1000000 - 1 = b + 999999 by omega]
    rw [e] at q
    exact ⟨_, rfl, _, rfl, _, _, rfl, rfl, _, _, rfl, rfl, dv, _, _, rfl, rfl, q⟩

theorem ok_law_parts {f : Addr} {fd : FuncData} (F : Fun K "_law_parts" "_law_parts" s_law_parts f fd) (T : Txt K mg)  :
    FnOk P w K mg base CX0 1 f fd ["_law_left", "_law_begun", "_law_cents"] (sp_law_parts T) := by
  refine F.ok sc_law_parts (fun vs H Q E h => ?_) (fun cdv A outer s H vs Q E hr h => ?_)
  · obtain ⟨l, b, c, rfl, _⟩ := h
    rfl
  · obtain ⟨l, b, c, rfl, q⟩ := h
    refine ⟨_, (pss_cons (ps_set (i := 3) sc_law_parts.nd rfl (Or.inl rfl) (pe_op op_add (pv 0) (pe_op op_fdiv (pe_op op_add (pv 1) pe_int) pe_int)))
            (pss_cons (ps_if (pt_cmpR op_eq (pv 2) (pv 3) (nomark _)) (pss_one (ps_ret (pe_tup (pa_cons (pe_op op_sub (pv 3) (pv 0)) (pa_cons (pv 0) (pa_cons pe_int (pa_cons pe_int pa_nil))))))) pss_nil)
            (pss_cons (ps_set (i := 4) sc_law_parts.nd rfl (Or.inl rfl) (pe_callB (call_min2 rfl) (by rfl) T.b_min (by decide +kernel) (pa_cons (pv 2) (pa_cons (pe_op op_fdiv (pv 1) pe_int) pa_nil))))
            (pss_cons (ps_set (i := 5) sc_law_parts.nd rfl (Or.inl rfl) (pe_op op_sub (pv 2) (pv 4)))
            (pss_one (ps_ret (pe_tup (pa_cons (pv 4) (pa_cons (pv 5) (pa_cons (pe_op op_sub (pv 0) (pv 5)) (pa_cons (pe_op op_sub (pv 1) (pe_op op_mulX pe_int (pv 4))) pa_nil))))))))))), ?_⟩
    have e : owedF l b = l + (b + 999999) / 1000000 := by
      unfold owedF
      rw [show b + 1000000 - 1 = b + 999999 by omega]
    unfold payF at q
    rw [e] at q
    refine ⟨_, rfl, _, rfl, _, _, rfl, rfl, _, _, rfl, rfl, dv, _, _, rfl, rfl, ?_⟩
    refine ⟨_, rfl, _, rfl, rfl, _, rfl, if_eq (fun c1 => ?_) (fun c1 => ?_)⟩
    · rw [if_pos c1] at q
      exact ⟨_, rfl, _, rfl, _, _, rfl, rfl, _, rfl, szl 4, fun p hp => q p _ (Same.new hp) hp upd_same⟩
    · rw [if_neg c1, Int.mul_comm _ 1000000] at q
      refine ⟨_, rfl, _, rfl, _, _, rfl, rfl, dv, _, _, rfl, _, rfl, _, rfl, _, _, rfl, rfl, ?_⟩
      exact ⟨_, rfl, _, rfl, _, rfl, _, rfl, _, _, rfl, rfl, _, rfl, _, rfl, _, _, rfl, rfl, mulL, _, _, rfl, rfl, szl 4, fun p hp => q p _ (Same.new hp) hp upd_same⟩

theorem ok_law_days_by {f : Addr} {fd : FuncData} (F : Fun K "_law_days_by" "_law_days_by" s_law_days_by f fd) (T : Txt K mg) (D_law_mixed : Df P w K mg base CX0 1 "_law_mixed" ["_law_cell", "_law_many"] (sp_law_mixed T)) :
    FnOk P w K mg base CX0 2 f fd ["_law_cell", "_law_at", "_law_many", "_law_wide"] (sp_law_days_by T) := by
  refine F.ok sc_law_days_by (fun vs H Q E h => ?_) (fun cdv A outer s H vs Q E hr h => ?_)
  · obtain ⟨c, at1, many, wide, rfl, _⟩ := h
    rfl
  · obtain ⟨c, at1, many, wide, rfl, a0, m0, m1, w1, a3, a4, q⟩ := h
    refine ⟨_, (pss_cons (ps_set (i := 4) sc_law_days_by.nd rfl (Or.inl rfl) (pe_lst (pa_cons (pe_op op_add (pv 1) (pe_op op_mod (pv 0) pe_int)) pa_nil)))
            (pss_cons (ps_for PassesOwn.never rfl (pi_range2 rfl T.b_range (pa_cons pe_int (pa_cons (pv 2) pa_nil))) (pg_name (i := 5) sc_law_days_by.nd rfl (Or.inl rfl)) (pss_one (ps_expr (pe_bm PySem.F.plainAttrs_list PySem.F.slot_list_append PySem.F.type_list_append mt_append (pv 4) (pa_cons (pe_op op_add (pe_op op_add (pe_ix ix_list (pv 4) (pe_un un_neg pe_int) (fun _ _ => rfl)) pe_int) (pc0 D_law_mixed hr (pa_cons (pe_op op_add (pv 0) (pe_op op_mulX pe_int (pv 5))) (pa_cons (pv 3) pa_nil)))) pa_nil)))))
            (pss_one (ps_ret (pe_slice sl_list (pv 4) po_none (po_some (pv 2))))))), ?_⟩
    refine ⟨_, rfl, _, rfl, _, _, rfl, rfl, md, _, _, rfl, rfl, szl 1, fun l hl => ?_⟩
    have c0 : 0 ≤ c % 4 ∧ c % 4 < 4 := by omega
    refine ⟨_, rfl, 1, many, rfl, ⟨by omega, by omega, by omega, by omega⟩, for_range (lo := 1) (n := (many - 1).toNat)
      (fun i σ H' => ∃ (ds : List Int) (last : Int) (v5 : Option V), Same H H' ∧ H' l = some (.lst ((ds ++ [last]).map V.int)) ∧ ds.length = i ∧ daysB (at1 - 1) (ds ++ [last]) = true ∧ last ≤ at1 + 3 + (i : Int) * wide ∧ at1 ≤ last ∧ σ = [some (.int c), some (.int at1), some (.int many), some (.int wide), some (.ref l), v5])
      ⟨[], at1 + c % 4, none, Same.new hl, upd_same, rfl, daysB_cons.mpr ⟨⟨by omega, by omega⟩, rfl⟩, by simp; omega, by omega, rfl⟩ ?_ ?_⟩
    · rintro i σ H' hi ⟨ds, last, v5, s, hL, hn, hd, h1, h2, rfl⟩
      have x0 := mixed_ge (c := c + 17 * (1 + (i : Int))) (m := wide) (by omega)
      have x1 := mixed_lt (c := c + 17 * (1 + (i : Int))) (m := wide) (by omega)
      have hb : ((i + 1 : Nat) : Int) * wide ≤ (many - 1) * wide := Int.mul_le_mul_of_nonneg_right (by omega) (by omega)
      have he : ((i + 1 : Nat) : Int) * wide = (i : Int) * wide + wide := by
        rw [Int.natCast_add, Int.add_mul]
        simp
      refine ⟨_, rfl, .inl ⟨rfl, _, SqL.of hL⟩, _, rfl, _, rfl, l, _, _, _, rfl, rfl, SqL.of hL, by rw [List.map_append]; exact atI_last _ _, _, _, rfl, rfl, _, rfl, _, rfl, _, _, rfl, rfl, mulL, _, _, rfl, rfl, _, rfl, _, _, rfl, by omega, _, _, rfl, rfl, ?_⟩
      refine ⟨l, _, _, rfl, rfl, hL, sz_lt (by rw [List.length_map, List.length_append]; show ds.length + 1 < 100000; omega), ?_⟩
      refine ⟨ds ++ [last], last + 1 + mixed (c + 17 * (1 + (i : Int))) wide, _, s.mut hl, ?_, by rw [List.length_append, hn]; rfl, daysB_snoc hd (by rw [getLastD_append]; omega) (by omega), by omega, by omega, rfl⟩
      rw [List.map_append (l₁ := ds ++ [last])]
      exact upd_same
    · rintro σ H' ⟨ds, last, v5, s, hL, hn, hd, h1, h2, rfl⟩
      refine ⟨_, rfl, _, rfl, _, rfl, l, _, rfl, SqL.of hL, fun p hp => ?_⟩
      have hlen : (ds ++ [last]).length = (many - 1).toNat + 1 := by rw [List.length_append, hn]; rfl
      rw [cut_to (n := many.toNat) (by omega) (by rw [List.length_map]; omega), ← List.map_take]
      refine q p _ _ (s.upd hp) (s.free hp) upd_same ?_ (by rw [List.length_take]; omega)
      by_cases c1 : many = 0
      · rw [c1]
        rfl
      · rw [List.take_of_length_le (by omega)]
        exact hd

theorem ok_law_at_by {f : Addr} {fd : FuncData} (F : Fun K "_law_at_by" "_law_at_by" s_law_at_by f fd) (T : Txt K mg) (D_law_mixed : Df P w K mg base CX0 1 "_law_mixed" ["_law_cell", "_law_many"] (sp_law_mixed T)) :
    FnOk P w K mg base CX0 2 f fd ["_law_cell"] (sp_law_at_by T) := by
  refine F.ok sc_law_at_by (fun vs H Q E h => ?_) (fun cdv A outer s H vs Q E hr h => ?_)
  · obtain ⟨c, rfl, _⟩ := h
    rfl
  · obtain ⟨c, rfl, q⟩ := h
    refine ⟨_, (pss_cons (ps_if (pt_cmpR op_eq (pe_op op_mod (pe_op op_fdiv (pv 0) pe_int) pe_int) pe_int (nomark _)) (pss_one (ps_ret (pc0 D_law_mixed hr (pa_cons (pv 0) (pa_cons pe_int pa_nil))))) pss_nil)
            (pss_one (ps_ret (pe_op op_mod (pe_op op_fdiv (pv 0) pe_int) pe_int)))), ?_⟩
    refine ⟨_, rfl, _, _, rfl, rfl, dv, _, _, rfl, rfl, md, rfl, _, rfl, if_eq (fun c1 => ?_) (fun c1 => ?_)⟩
    · have h1 := mixed_ge (c := c) (m := 3001) (by decide)
      have h2 := mixed_lt (c := c) (m := 3001) (by decide)
      exact ⟨_, rfl, _, _, rfl, by decide, q _ h1 (by omega)⟩
    · exact ⟨_, rfl, _, _, rfl, rfl, dv, _, _, rfl, rfl, md, q _ (by omega) (by omega)⟩

theorem ok_law_made {f : Addr} {fd : FuncData} (F : Fun K "_law_made" "_law_made" s_law_made f fd) (T : Txt K mg) (D_Loan_init : Di P w K mg base (L2.CX P w) 3 T.a_Loan "Loan" ["self", "amount", "rates"] (sp_Loan_init T)) (D_Loan_change : Dm P w K mg base (L2.CX P w) 2 T.a_Loan "change" ["self", "day", "rate"] (sp_Loan_change T)) :
    FnOk P w K mg base CX0 5 f fd ["_law_amount", "_law_row", "_law_cell"] (sp_law_made T) := by
  refine F.ok sc_law_made (fun vs H Q E h => ?_) (fun cdv A outer s H vs Q E hr h => ?_)
  · obtain ⟨am, c, l, ts, rfl, _⟩ := h
    rfl
  · obtain ⟨am, c, l, ts, rfl, R, rok, a1, a2, q⟩ := h
    refine ⟨_, (pss_cons (ps_set (i := 3) sc_law_made.nd rfl (Or.inl rfl) (pe_op op_add pe_int (pe_op op_mod (pv 2) (pe_callB call_len_seq (by rfl) T.b_len PySem.boot_len (pa_cons (pv 1) pa_nil)))))
            (pss_cons (ps_set (i := 4) sc_law_made.nd rfl (Or.inl rfl) (pe_make D_Loan_init.mC D_Loan_init.G (hr.mono (by decide)) rfl T.g_Loan D_Loan_init.b .nil passL (pa_cons (pv 0) (pa_cons (pe_slice sl_list (pv 1) po_none (po_some (pv 3))) pa_nil))))
            (pss_cons (ps_for PassesOwn.never rfl (pi_list (pe_slice sl_list (pv 1) (po_some (pv 3)) po_none)) (pg_name (i := 5) sc_law_made.nd rfl (Or.inl rfl)) (pss_one (ps_expr (pe_meth (pv 4) T.cl_Loan D_Loan_change.me D_Loan_change.G (hr.mono (by decide)) D_Loan_change.b .nil passL (pa_cons (pe_ix ix_tup (pv 5) pe_int (fun _ _ => rfl)) (pa_cons (pe_ix ix_tup (pv 5) pe_int (fun _ _ => rfl)) pa_nil))))))
            (pss_one (ps_ret (pv 4)))))), ?_⟩
    have hlen : (vals ts).length = ts.length := vals_len ts
    obtain ⟨r0, f0⟩ := rok.g.first
    have hpos := (List.getElem?_eq_some_iff.mp f0).1
    have p0 : 0 ≤ c % ((rowV ts).length : Int) := Int.emod_nonneg _ (by rw [rowV_len]; omega)
    have p1 : c % ((rowV ts).length : Int) < ((rowV ts).length : Int) := Int.emod_lt_of_pos _ (by rw [rowV_len]; omega)
    obtain ⟨n, en⟩ : ∃ n : Nat, c % ((rowV ts).length : Int) = (n : Int) := ⟨(c % ((rowV ts).length : Int)).toNat, by omega⟩
    have hn : n < ts.length := by rw [rowV_len] at p1 en; omega
    refine ⟨_, rfl, _, rfl, l, _, rfl, .inl R.seq, _, _, rfl, rfl, by rw [rowV_len]; omega, _, _, rfl, rfl, ?_⟩
    rw [en]
    refine ⟨_, rfl, _, rfl, _, rfl, _, rfl, l, _, rfl, R.seq, fun p hp => ?_⟩
    rw [cut_to (n := n + 1) (by omega) (by rw [rowV_len]; omega), rowV_take]
    have s1 : Same H (L2.upd H p (.lst (rowV (ts.take (n + 1))))) := Same.new hp
    have R1 : Row (L2.upd H p (.lst (rowV (ts.take (n + 1))))) p (ts.take (n + 1)) := ⟨upd_same, fun t ht => (R.same s1).prs t (List.mem_of_mem_take ht)⟩
    have R1l := R.same s1
    generalize L2.upd H p (.lst (rowV (ts.take (n + 1)))) = H1 at s1 R1 R1l ⊢
    have rok1 : Rok (vals (ts.take (n + 1))) := by rw [vals_take]; exact rok.take n
    have eok : chk (-1) (vals (ts.take (n + 1))) = .ok := chk_good rok1.g rok1.last
    intro x dx nx ndx nex
    have s2 : Same H1 (L2.upd (L2.upd H1 dx (.own x)) x (.ins T.a_Loan dx [])) := (Same.new ndx).upd (by rw [L2.upd_ne (Ne.symm nex)]; exact nx)
    have hob : (L2.upd (L2.upd H1 dx (.own x)) x (.ins T.a_Loan dx [])) x = some (.ins T.a_Loan dx []) := upd_same
    generalize L2.upd (L2.upd H1 dx (.own x)) x (.ins T.a_Loan dx []) = H2 at s2 hob ⊢
    refine ⟨x, dx, p, am, _, rfl, hob, R1.same s2, fun n => absurd ⟨a1, a2⟩ n, fun _ _ e => absurd (e.symm.trans eok) (by decide), fun _ _ e => absurd (e.symm.trans eok) (by decide), fun _ _ _ l2 H3 b3 hl2 A3 => ⟨rfl, ?_⟩⟩
    have hxH : H x = none := s1.free nx
    have s3 : Same H1 H3 := fun b o e => b3 b o (s2 b o e) (ne_of_none e nx)
    have hl2H1 : H1 l2 = none := s2.free hl2
    have hl2H : H l2 = none := s1.free hl2H1
    have R3 := R1l.same s3
    refine ⟨_, rfl, _, rfl, _, rfl, l, _, rfl, R3.seq, fun p2 hp2 => ?_⟩
    rw [cut_from (n := n + 1) (by omega) (by rw [rowV_len]; omega), rowV_drop]
    have s4 : Same H3 (L2.upd H3 p2 (.lst (rowV (ts.drop (n + 1))))) := Same.new hp2
    have R4 : Row (L2.upd H3 p2 (.lst (rowV (ts.drop (n + 1))))) p2 (ts.drop (n + 1)) := ⟨upd_same, fun t ht => (R3.same s4).prs t (List.mem_of_mem_drop ht)⟩
    have A4 := A3.same s4
    have n2 : p2 ≠ l2 := (ne_of_none A3.row.lst hp2).symm
    have s14 : Same H (L2.upd H3 p2 (.lst (rowV (ts.drop (n + 1))))) := (s1.trans s3).trans s4
    generalize L2.upd H3 p2 (.lst (rowV (ts.drop (n + 1)))) = H4 at R4 A4 s14 ⊢
    refine ⟨p2, rfl, ⟨_, R4.seq⟩, for_list (K := K) (a := p2) (xs := rowV (ts.drop (n + 1)))
      (fun i σ H5 => ∃ (us : List Trp) (v5 : Option V), σ = [some (.int am), some (.ref l), some (.int c), some (.int (1 + (n : Int))), some (.ref x), v5] ∧ Same H H5 ∧ LoanAt T.a_Loan H5 x dx l2 us ⟨am, 0, 0⟩ ∧ vals us = (vals ts).take (n + 1 + i) ∧ Row H5 p2 (ts.drop (n + 1)))
      ⟨_, none, rfl, s14, A4, by rw [vals_take], R4⟩ (fun i σ H5 _ ⟨_, _, _, _, _, _, r⟩ => r.seq) ?_ ?_⟩
    · rintro i y σ H5 hi ⟨us, v5, rfl, s5, A5, eu, R5⟩
      obtain ⟨b, pr, rfl, hpr, hbp⟩ := R5.getV hi
      have hpr2 : (vals ts)[n + 1 + i]? = some pr := by
        rw [vals_drop, List.getElem?_drop] at hpr
        exact hpr
      have g6 := next_day rok.g (n := n + i) (p := pr) (by rw [show n + i + 1 = n + 1 + i by omega]; exact hpr2)
      rw [show n + i + 1 = n + 1 + i by omega, ← eu] at g6
      have hrate := rok.g.rate pr (List.mem_of_getElem? hpr2)
      have hday := Int.le_trans (rok.g.le_last (List.mem_of_getElem? hpr2)) rok.last
      have roku : Rok (vals us) := by rw [eu, show n + 1 + i = n + i + 1 by omega]; exact rok.take (n + i)
      have hlast0 := lastDay_ge roku.g
      refine ⟨_, rfl, x, dx, _, rfl, A5.ob, lf_no _ _ (by decide +kernel) (by decide +kernel) (by decide +kernel) (by decide +kernel), _, rfl, b, _, _, _, rfl, rfl, SqT.of hbp, at0 rfl, _, rfl, b, _, _, _, rfl, rfl, SqT.of hbp, at_of (j := 1) rfl rfl, ?_⟩
      refine ⟨x, dx, l2, us, ⟨am, 0, 0⟩, _, _, rfl, A5, roku, fun c1 => ?_, fun _ c1 => absurd hrate c1, fun _ _ _ p3 H6 b6 hp3 A6 => ?_⟩
      · have c1' : pr.1 ≤ 0 ∨ pr.1 ≤ lastDay (vals us) ∨ pr.1 > 100000 := c1
        omega
      · refine ⟨_, _, rfl, fun u o e => b6 u o (s5 u o e) (ne_of_none e hl2H), A6, ?_, ?_⟩
        · rw [vals_append, eu, show n + 1 + (i + 1) = n + 1 + i + 1 by omega, List.take_add_one, hpr2]
          rfl
        · exact ⟨b6 _ _ R5.lst n2, fun t ht => b6 _ _ (R5.prs t ht) (ne_of (R5.prs t ht) A5.row.lst (by intro z; cases z))⟩
    · rintro σ H5 ⟨us, v5, rfl, s5, A5, eu, R5⟩
      refine ⟨_, rfl, q x dx l2 us H5 s5 hxH hl2H A5 ?_⟩
      rw [eu]
      exact List.take_of_length_le (by rw [rowV_len, List.length_drop]; omega)

theorem ok_law_loan_by {f : Addr} {fd : FuncData} (F : Fun K "_law_loan_by" "_law_loan_by" s_law_loan_by f fd) (T : Txt K mg) (D_law_amount_by : Df P w K mg base CX0 2 "_law_amount_by" ["_law_cell"] (sp_law_amount_by T)) (D_law_cell_at : Df P w K mg base CX0 1 "_law_cell_at" ["_law_script", "_law_k"] (sp_law_cell_at T)) (D_law_made : Df P w K mg base CX0 5 "_law_made" ["_law_amount", "_law_row", "_law_cell"] (sp_law_made T)) (D_law_at_by : Df P w K mg base CX0 2 "_law_at_by" ["_law_cell"] (sp_law_at_by T)) (D_law_sum_by : Df P w K mg base CX0 1 "_law_sum_by" ["_law_row", "_law_start", "_law_end"] (sp_law_sum_by T)) (D_law_mixed : Df P w K mg base CX0 1 "_law_mixed" ["_law_cell", "_law_many"] (sp_law_mixed T)) (D_law_owed : Df P w K mg base CX0 1 "_law_owed" ["_law_left", "_law_begun"] (sp_law_owed T)) (D_Loan_pay : Dm P w K mg base (L2.CX P w) 4 T.a_Loan "pay" ["self", "day", "cents"] (sp_Loan_pay T)) (D_law_parts : Df P w K mg base CX0 1 "_law_parts" ["_law_left", "_law_begun", "_law_cents"] (sp_law_parts T)) (D_law_rate_by : Df P w K mg base CX0 2 "_law_rate_by" ["_law_cell"] (sp_law_rate_by T)) (D_Loan_change : Dm P w K mg base (L2.CX P w) 2 T.a_Loan "change" ["self", "day", "rate"] (sp_Loan_change T)) :
    FnOk P w K mg base CX0 6 f fd ["_law_script", "_law_row"] (sp_law_loan_by T) := by
  refine F.ok sc_law_loan_by (fun vs H Q E h => ?_) (fun cdv A outer s H vs Q E hr h => ?_)
  · obtain ⟨a, lr, ns, ts, rfl, _⟩ := h
    rfl
  · obtain ⟨a, lr, ns, ts, rfl, hS, R, rok, hlen, hlast, q⟩ := h
    refine ⟨_, (pss_cons (ps_set (i := 2) sc_law_loan_by.nd rfl (Or.inl rfl) (pc0 D_law_amount_by hr (pa_cons (pc0 D_law_cell_at hr (pa_cons (pv 0) (pa_cons pe_int pa_nil))) pa_nil)))
            (pss_cons (ps_set (i := 3) sc_law_loan_by.nd rfl (Or.inl rfl) (pc0 D_law_made hr (pa_cons (pv 2) (pa_cons (pv 1) (pa_cons (pc0 D_law_cell_at hr (pa_cons (pv 0) (pa_cons pe_int pa_nil))) pa_nil)))))
            (pss_cons (ps_par3 (i := 4) (j := 5) (l := 6) (by rfl) sc_law_loan_by.nd rfl rfl rfl (by decide) (by decide) (by decide) rfl rfl rfl (pa_cons (pv 2) (pa_cons pe_int (pa_cons pe_int pa_nil))) (by rfl))
            (Evl.pss_cut (ps_if (pt_cmpR op_eq (pe_op op_mod (pc0 D_law_cell_at hr (pa_cons (pv 0) (pa_cons pe_int pa_nil))) pe_int) pe_int (nomark _)) (pss_cons (ps_set (i := 6) sc_law_loan_by.nd rfl (Or.inl rfl) (pc0 D_law_at_by hr (pa_cons (pc0 D_law_cell_at hr (pa_cons (pv 0) (pa_cons pe_int pa_nil))) pa_nil)))
            (pss_cons (ps_set (i := 5) sc_law_loan_by.nd rfl (Or.inl rfl) (pe_op op_mulX (pv 2) (pc0 D_law_sum_by hr (pa_cons (pv 1) (pa_cons pe_int (pa_cons (pv 6) pa_nil))))))
            (pss_cons (ps_set (i := 7) sc_law_loan_by.nd rfl (Or.inl rfl) (pe_op op_add pe_int (pe_op op_mod (pe_op op_mulX (pc0 D_law_mixed hr (pa_cons (pc0 D_law_cell_at hr (pa_cons (pv 0) (pa_cons pe_int pa_nil))) (pa_cons pe_int pa_nil))) pe_int) (pc0 D_law_owed hr (pa_cons (pv 2) (pa_cons (pv 5) pa_nil))))))
            (Evl.pss_cut (ps_if (pt_cmpR op_eq (pe_op op_mod (pc0 D_law_cell_at hr (pa_cons (pv 0) (pa_cons pe_int pa_nil))) pe_int) pe_int (nomark _)) (pss_one (ps_set (i := 7) sc_law_loan_by.nd rfl (Or.inl rfl) (pc0 D_law_owed hr (pa_cons (pv 2) (pa_cons (pv 5) pa_nil))))) pss_nil)
            (pss_cons (ps_expr (pe_meth (pv 3) T.cl_Loan D_Loan_pay.me D_Loan_pay.G (hr.mono (by decide)) D_Loan_pay.b .nil passL (pa_cons (pv 6) (pa_cons (pv 7) pa_nil))))
            (pss_one (ps_asg (pe_slice sl_tup (pc0 D_law_parts hr (pa_cons (pv 2) (pa_cons (pv 5) (pa_cons (pv 7) pa_nil)))) (po_some pe_int) po_none) (pg_tup rfl (pgs_cons (pg_name (i := 4) sc_law_loan_by.nd rfl (Or.inl rfl)) (pgs_cons (pg_name (i := 5) sc_law_loan_by.nd rfl (Or.inl rfl)) pgs_nil)))))))))) pss_nil)
            (pss_cons (ps_set (i := 8) sc_law_loan_by.nd rfl (Or.inl rfl) (pc0 D_law_cell_at hr (pa_cons (pv 0) (pa_cons pe_int pa_nil))))
            (Evl.pss_cut (ps_if (PW.pt (pw_and (pt_cmpR op_eq (pe_op op_mod (pv 8) pe_int) pe_int (nomark _)) (pw_and1 (pt_cmpR op_lt (pe_callB call_len_seq (by rfl) T.b_len PySem.boot_len (pa_cons (pv 1) pa_nil)) pe_int (nomark _))))) (pss_cons (ps_set (i := 1) sc_law_loan_by.nd rfl (Or.inl rfl) (pe_op op_cat (pv 1) (pe_lst (pa_cons (pe_tup (pa_cons (pe_op op_add (pe_op op_add (pe_callB (call_max2 rfl) (by rfl) T.b_max (by decide +kernel) (pa_cons (pv 6) (pa_cons (pe_ix ix_tup (pe_ix ix_list (pv 1) (pe_un un_neg pe_int) (fun _ _ => rfl)) pe_int (fun _ _ => rfl)) pa_nil))) pe_int) (pe_op op_mod (pe_op op_fdiv (pv 8) pe_int) pe_int)) (pa_cons (pc0 D_law_rate_by hr (pa_cons (pe_op op_fdiv (pv 8) pe_int) pa_nil)) pa_nil))) pa_nil))))
            (pss_one (ps_expr (pe_meth (pv 3) T.cl_Loan D_Loan_change.me D_Loan_change.G (hr.mono (by decide)) D_Loan_change.b .nil passL (pa_cons (pe_ix ix_tup (pe_ix ix_list (pv 1) (pe_un un_neg pe_int) (fun _ _ => rfl)) pe_int (fun _ _ => rfl)) (pa_cons (pe_ix ix_tup (pe_ix ix_list (pv 1) (pe_un un_neg pe_int) (fun _ _ => rfl)) pe_int (fun _ _ => rfl)) pa_nil)))))) pss_nil)
            (pss_one (ps_ret (pe_tup (pa_cons (pv 3) (pa_cons (pe_tup (pa_cons (pv 4) (pa_cons (pv 5) (pa_cons (pv 6) pa_nil)))) (pa_cons (pv 1) pa_nil)))))))))))), ?_⟩
    refine ⟨_, rfl, a, ns, _, rfl, hS, by decide, _, rfl, fun H1 s1 => ?_⟩
    have ham := amountBy_ok (cellAt ns 0)
    generalize amountBy (cellAt ns 0) = am at ham ⊢
    obtain ⟨am1, am2⟩ := ham
    have hS1 := s1.seq hS
    refine ⟨_, rfl, _, rfl, _, rfl, a, ns, _, rfl, hS1, by decide, am, _, lr, ts, rfl, R.same s1, rok, am1, am2, fun x dx l us H2 s2 hx hl X2 eu => ?_⟩
    have s12 := s1.trans s2
    have nx : H x = none := s1.free hx
    have nl : H l = none := s1.free hl
    have rokU : Rok (vals us) := by rw [eu]; exact rok
    have ok0 : LnOk ⟨am, 0, 0⟩ := ⟨by show 0 ≤ am; omega, am2, by show (0 : Int) ≤ 0; decide, by show (0 : Int) ≤ 0; decide, by show (0 : Int) ≤ 100000; decide⟩
    refine ⟨_, rfl, _, _, _, rfl, ?_⟩
    refine ⟨fun σ H' => ∃ (z : Ln) (v7 : Option V), Same H H' ∧ LoanAt T.a_Loan H' x dx l us z ∧ LnOk z ∧ z.day ≤ 3000 ∧ σ = [some (.ref a), some (.ref lr), some (.int am), some (.ref x), some (.int z.left), some (.int z.begun), some (.int z.day), v7, none], ?_, ?_⟩
    · have hS2 := s12.seq hS
      have R2 := R.same s12
      refine ⟨_, rfl, a, ns, _, rfl, hS2, by decide, _, _, rfl, rfl, md, rfl, _, rfl, if_eq (fun _ => ?_) (fun _ => ?_)⟩
      · refine ⟨_, rfl, a, ns, _, rfl, hS2, by decide, _, rfl, fun at1 t0 t1 => ?_⟩
        refine ⟨_, rfl, _, rfl, _, rfl, lr, ts, _, _, rfl, R2, by omega, rok.g, by decide, t0, _, _, rfl, rfl, IntMulOk.of_left (PySem.intBits_le_64 (by omega) (by omega)), ?_⟩
        have eb : am * gsum (vals ts) 0 at1 = begunAt (vals us) ⟨am, 0, 0⟩ at1 := by rw [eu]; exact (Int.zero_add _).symm
        have b0 := begunAt_ge (d := at1) ok0 rokU.g t0
        show gName 5 (V.int (am * gsum (vals ts) 0 at1)) _ _ _
        rw [eb]
        have o1 : 1 ≤ owedF am (begunAt (vals us) ⟨am, 0, 0⟩ at1) := by unfold owedF; omega
        refine ⟨_, rfl, a, ns, _, rfl, hS2, by decide, _, _, rfl, by decide, _, _, rfl, rfl, mulR, _, rfl, _, rfl, _, _, rfl, _, _, rfl, rfl, by omega, _, _, rfl, rfl, ?_⟩
        refine ⟨fun σ H5 => H5 = H2 ∧ ∃ c, 1 ≤ c ∧ c ≤ owedF am (begunAt (vals us) ⟨am, 0, 0⟩ at1) ∧ σ = [some (.ref a), some (.ref lr), some (.int am), some (.ref x), some (.int am), some (.int (begunAt (vals us) ⟨am, 0, 0⟩ at1)), some (.int at1), some (.int c), none], ?_, ?_⟩
        · refine ⟨_, rfl, a, ns, _, rfl, hS2, by decide, _, _, rfl, rfl, md, rfl, _, rfl, if_eq (fun _ => ?_) (fun _ => ?_)⟩
          · exact ⟨_, rfl, _, rfl, _, _, rfl, rfl, _, o1, Int.le_refl _, rfl⟩
          · refine ⟨rfl, _, ?_, ?_, rfl⟩
            · have := Int.emod_nonneg (mixed (cellAt ns 3) 2147483647 * 467) (show owedF am (begunAt (vals us) ⟨am, 0, 0⟩ at1) ≠ 0 by omega)
              omega
            · have := Int.emod_lt_of_pos (mixed (cellAt ns 3) 2147483647 * 467) (show 0 < owedF am (begunAt (vals us) ⟨am, 0, 0⟩ at1) by omega)
              omega
        rintro σ H5 ⟨rfl, c, c1, c2, rfl⟩
        refine ⟨_, rfl, x, dx, _, rfl, X2.ob, lf_no _ _ (by decide +kernel) (by decide +kernel) (by decide +kernel) (by decide +kernel), _, rfl, _, rfl, x, dx, l, us, ⟨am, 0, 0⟩, at1, c, rfl, X2, rokU, ok0, fun n => absurd ⟨t0, by omega⟩ n, fun _ _ n => absurd ⟨c1, c2⟩ n, fun _ _ _ _ p2 H6 b6 _ X6 _ => ?_⟩
        have s6 : Same H H6 := fun b o hb => b6 b o (s12 b o hb) (ne_of_none hb nx)
        refine ⟨_, rfl, _, rfl, _, rfl, _, _, _, rfl, fun p3 H7 s7 hp3 t7 => ?_⟩
        refine ⟨_, rfl, p3, _, rfl, SqT.of t7, by show ¬ (HT.sIx 4 0 (some 2) = 0 ∧ HT.sIx 4 4 none = 4); decide, fun p4 hp4 => ?_⟩
        have s8 : Same H7 (L2.upd H7 p4 (.tup (cutV [V.int (payF am (begunAt (vals us) ⟨am, 0, 0⟩ at1) c).1, .int (payF am (begunAt (vals us) ⟨am, 0, 0⟩ at1) c).2.1, .int (payF am (begunAt (vals us) ⟨am, 0, 0⟩ at1) c).2.2.1, .int (payF am (begunAt (vals us) ⟨am, 0, 0⟩ at1) c).2.2.2] (some 2) none))) := Same.new hp4
        refine ⟨p4, _, rfl, SqT.of upd_same, rfl, _, _, rfl, _, _, rfl, rfl, ?_⟩
        exact ⟨payLn (vals us) ⟨am, 0, 0⟩ at1 c, some (.int c), (s6.trans s7).trans s8, (X6.same s7).same s8, payLn_ok ok0 rokU.g t0 (by omega) c1 c2, t1, rfl⟩
      · exact ⟨⟨am, 0, 0⟩, none, s12, X2, ok0, by show (0 : Int) ≤ 3000; decide, rfl⟩
    clear X2 s12 s1 s2 hS1
    rintro σ H3 ⟨z, v7, s3, X3, lok, z3, rfl⟩
    have hz0 := lok.d0
    have R3 := R.same s3
    refine ⟨_, rfl, a, ns, _, rfl, s3.seq hS, by decide, ?_⟩
    generalize cellAt ns 11 = mo
    refine ⟨fun σ H' => ∃ (us2 tm : List Trp) (lm : Addr), Same H H' ∧ LoanAt T.a_Loan H' x dx l us2 z ∧ Row H' lm tm ∧ vals us2 = vals tm ∧ Rok (vals tm) ∧ tm.length ≤ 60 ∧ lm ≠ l ∧ lastDay (vals tm) ≤ 90050 ∧
      σ = [some (.ref a), some (.ref lm), some (.int am), some (.ref x), some (.int z.left), some (.int z.begun), some (.int z.day), v7, some (.int mo)], ?_, ?_⟩
    · have keep : ∃ (us2 tm : List Trp) (lm : Addr), Same H H3 ∧ LoanAt T.a_Loan H3 x dx l us2 z ∧ Row H3 lm tm ∧ vals us2 = vals tm ∧ Rok (vals tm) ∧ tm.length ≤ 60 ∧ lm ≠ l ∧ lastDay (vals tm) ≤ 90050 ∧ [some (V.ref a), some (.ref lr), some (.int am), some (.ref x), some (.int z.left), some (.int z.begun), some (.int z.day), v7, some (.int mo)] = [some (.ref a), some (.ref lm), some (.int am), some (.ref x), some (.int z.left), some (.int z.begun), some (.int z.day), v7, some (.int mo)] :=
        ⟨us, ts, lr, s3, X3, R3, eu, rok, hlen, ne_of_none R.lst nl, by omega, rfl⟩
      refine ⟨_, rfl, _, _, rfl, rfl, md, rfl, _, rfl, if_eq (fun _ => ?_) (fun _ => keep)⟩
      refine ⟨_, rfl, lr, _, rfl, .inl R3.seq, _, _, rfl, rfl, _, rfl, ifd (fun c => ?_) (fun _ => keep)⟩
      have c' : ((rowV ts).length : Int) < 60 := c
      rw [rowV_len] at c'
      clear keep
      obtain ⟨b, rl, hb, hbp, _⟩ := R3.last (good_ne rok.g)
      refine ⟨_, rfl, _, rfl, _, rfl, _, rfl, lr, _, _, _, rfl, rfl, R3.seq, hb, b, _, _, _, rfl, rfl, SqT.of hbp, at0 rfl, _, _, rfl, _, _, rfl, rfl, _, rfl, _, _, rfl, rfl, dv, _, _, rfl, rfl, md, _, _, rfl, rfl, _, rfl, _, _, rfl, rfl, dv, _, rfl, fun H5 s5 => ⟨szl 2, fun p5 h5 => ?_⟩⟩
      have ro := rateBy_ok (mo / 3)
      generalize rateBy (mo / 3) = r at ro ⊢
      obtain ⟨nd, en, n1, n2, n3⟩ : ∃ nd, (if lastDay (vals ts) > z.day then lastDay (vals ts) else z.day) + 1 + mo / 3 % 50 = nd ∧ z.day < nd ∧ lastDay (vals ts) < nd ∧ nd ≤ 90050 := ⟨_, rfl, by split <;> omega, by split <;> omega, by split <;> omega⟩
      have z6 : Same H5 (L2.upd H5 p5 (tupV (nd, r))) := Same.new h5
      have u6 : (L2.upd H5 p5 (tupV (nd, r))) p5 = some (tupV (nd, r)) := upd_same
      refine ⟨szl 1, fun p6 h6 => ?_⟩
      change (L2.upd H5 p5 (.tup [V.int ((if lastDay (vals ts) > z.day then lastDay (vals ts) else z.day) + 1 + mo / 3 % 50), .int r])) p6 = none at h6
      show rCat _ _ (L2.upd (L2.upd H5 p5 (.tup [V.int ((if lastDay (vals ts) > z.day then lastDay (vals ts) else z.day) + 1 + mo / 3 % 50), .int r])) p6 (.lst [.ref p5])) _
      rw [en] at h6 ⊢
      change (L2.upd H5 p5 (tupV (nd, r))) p6 = none at h6
      show rCat _ _ (L2.upd (L2.upd H5 p5 (tupV (nd, r))) p6 (.lst [.ref p5])) _
      generalize L2.upd H5 p5 (tupV (nd, r)) = H6 at z6 u6 h6 ⊢
      have z7 : Same H6 (L2.upd H6 p6 (.lst [.ref p5])) := Same.new h6
      have u7 : (L2.upd H6 p6 (.lst [.ref p5])) p6 = some (.lst [.ref p5]) := upd_same
      generalize L2.upd H6 p6 (.lst [.ref p5]) = H7 at z7 u7 ⊢
      have z37 := (s5.trans z6).trans z7
      have R7 := R3.same z37
      have X7 := X3.same z37
      refine ⟨lr, p6, rowV ts, [.ref p5], rfl, rfl, R7.lst, u7, sz_small (by rw [rowV_len]; show ts.length + 1 ≤ 100000; omega), fun lm h8 => ?_⟩
      have z8 : Same H7 (L2.upd H7 lm (.lst (rowV ts ++ [.ref p5]))) := Same.new h8
      have Rm : Row (L2.upd H7 lm (.lst (rowV ts ++ [.ref p5]))) lm (ts ++ [(p5, nd, r)]) := by
        refine ⟨by rw [rowV_append]; exact upd_same, fun t ht => ?_⟩
        rcases List.mem_append.mp ht with e1 | e1
        · exact z8 _ _ (R7.prs t e1)
        · obtain rfl : t = (p5, nd, r) := by simpa using e1
          exact z8 _ _ (z7 _ _ u6)
      have X8 := X7.same z8
      have nlm : lm ≠ l := Ne.symm (ne_of_none X7.row.lst h8)
      have s8 := (s3.trans z37).trans z8
      show tSeq _ _ _ _ (L2.upd H7 lm (.lst (rowV ts ++ [.ref p5])))
      generalize L2.upd H7 lm (.lst (rowV ts ++ [.ref p5])) = H8 at Rm X8 s8 ⊢
      have Rl := Rm.lst
      have hp5 : H8 p5 = some (tupV (nd, r)) := Rm.prs (p5, nd, r) (by simp)
      have hlst : atI (rowV (ts ++ [(p5, nd, r)])) (-1) = some (.ref p5) := by rw [rowV_append]; exact atI_last _ _
      refine ⟨_, rfl, x, dx, _, rfl, X8.ob, lf_no _ _ (by decide +kernel) (by decide +kernel) (by decide +kernel) (by decide +kernel), _, rfl, _, rfl, lm, _, _, _, rfl, rfl, Rm.seq, hlst, p5, _, _, _, rfl, rfl, SqT.of hp5, at0 rfl, _, rfl, _, rfl, lm, _, _, _, rfl, rfl, Rm.seq, hlst, p5, _, _, _, rfl, rfl, SqT.of hp5, at_of (j := 1) rfl rfl, ?_⟩
      refine ⟨x, dx, l, us, z, nd, r, rfl, X8, rokU, fun n => ?_, fun _ n => absurd ro n, fun _ _ _ p9 H9 b9 hp9 X9 => ?_⟩
      · exfalso
        rw [eu] at n
        omega
      · refine ⟨_, _, lm, fun b o hb => b9 b o (s8 b o hb) (ne_of_none hb nl), X9, b9.rowl X8.row.lst nlm Rm, by rw [vals_append, vals_append, eu]; rfl, ?_, by rw [List.length_append]; show ts.length + 1 ≤ 60; omega, nlm, ?_, rfl⟩
        · rw [vals_append]
          exact rok.snoc n2 (by omega) ro.1 ro.2 (by rw [vals_len]; omega)
        · rw [vals_append]
          show lastDay (vals ts ++ [(nd, r)]) ≤ 90050
          rw [lastDay_snoc]
          exact n3
    rintro σ H4 ⟨us2, tm, lm, s4, X4, R4, e4, rok4, l4, nlm, last4, rfl⟩
    refine ⟨_, rfl, _, rfl, _, rfl, _, rfl, szl 3, fun tp htp => ⟨_, rfl, szl 3, fun p hp => ?_⟩⟩
    have z5 : Same H4 (L2.upd H4 tp (.tup [.int z.left, .int z.begun, .int z.day])) := Same.new htp
    have z6 := Same.new (o := .tup [.ref x, .ref tp, .ref lm]) hp
    have z56 := z5.trans z6
    exact q p x dx l tp lm us2 tm z _ (s4.trans z56) nx nl (X4.same z56) (z6 _ _ upd_same) (R4.same z56) e4 rok4 lok z3 l4 nlm last4 upd_same

theorem ok_law_turned {f : Addr} {fd : FuncData} (F : Fun K "_law_turned" "_law_turned" s_law_turned f fd) (T : Txt K mg)  :
    FnOk P w K mg base CX0 1 f fd ["_law_days", "_law_at", "_law_cell"] (sp_law_turned T) := by
  refine F.ok sc_law_turned (fun vs H Q E h => ?_) (fun cdv A outer s H vs Q E hr h => ?_)
  · obtain ⟨dl, ds, at1, c, rfl, _⟩ := h
    rfl
  · obtain ⟨dl, ds, at1, c, rfl, hD, hlen, q⟩ := h
    refine ⟨_, (pss_cons (ps_if (PW.pt (pw_or (pt_cmpR op_eq (pe_callB call_len_seq (by rfl) T.b_len PySem.boot_len (pa_cons (pv 0) pa_nil)) pe_int (nomark _)) (pw_or1 (pt_cmpR op_lt (pe_op op_mod (pv 2) pe_int) pe_int (nomark _))))) (pss_one (ps_ret (pv 0))) pss_nil)
            (pss_cons (ps_set (i := 3) sc_law_turned.nd rfl (Or.inl rfl) (pe_op op_mod (pe_op op_fdiv (pv 2) pe_int) (pe_callB call_len_seq (by rfl) T.b_len PySem.boot_len (pa_cons (pv 0) pa_nil))))
            (Evl.pss_cut (ps_set (i := 4) sc_law_turned.nd rfl (Or.inl rfl) (pv 1))
            (Evl.pss_cut (ps_if (pt_cmpR op_gt (pv 3) pe_int (nomark _)) (pss_one (ps_set (i := 4) sc_law_turned.nd rfl (Or.inl rfl) (pe_ix ix_list (pv 0) (pe_op op_sub (pv 3) pe_int) (fun _ _ => rfl)))) pss_nil)
            (pss_cons (ps_set (i := 5) sc_law_turned.nd rfl (Or.inl rfl) (pe_ix ix_list (pe_lst (pa_cons (pv 4) (pa_cons (pe_op op_sub (pv 4) pe_int) (pa_cons (pe_op op_sub (pv 1) pe_int) (pa_cons (pe_op op_add pe_int (pe_op op_mod (pe_op op_fdiv (pv 2) pe_int) pe_int)) pa_nil))))) (pe_op op_sub (pe_op op_mod (pv 2) pe_int) pe_int) (fun _ _ => rfl)))
            (pss_one (ps_ret (pe_op op_cat (pe_op op_cat (pe_slice sl_list (pv 0) po_none (po_some (pv 3))) (pe_lst (pa_cons (pv 5) pa_nil))) (pe_slice sl_list (pv 0) (po_some (pe_op op_add (pv 3) pe_int)) po_none))))))))), ?_⟩
    refine ⟨_, rfl, dl, _, rfl, .inl (SqL.of hD), rfl, _, rfl, if_eq (fun _ => ?_) (fun c0 => ?_)⟩
    · exact iteT ⟨_, rfl, q dl ds H (Same.refl _) hD hlen⟩
    refine ⟨_, rfl, _, _, rfl, rfl, md, _, _, rfl, rfl, _, rfl, ifd (fun _ => ?_) (fun c1 => ?_)⟩
    · exact ⟨_, rfl, q dl ds H (Same.refl _) hD hlen⟩
    rw [List.length_map] at c0
    have c1' : ¬ c % 6 < 2 := c1
    have p0 := Int.emod_nonneg (c / 6) (show (ds.length : Int) ≠ 0 from c0)
    have p1 := Int.emod_lt_of_pos (c / 6) (show 0 < (ds.length : Int) by omega)
    obtain ⟨n, en⟩ : ∃ n : Nat, c / 6 % (ds.length : Int) = (n : Int) := ⟨(c / 6 % (ds.length : Int)).toNat, by omega⟩
    refine ⟨_, rfl, _, _, rfl, rfl, dv, _, rfl, dl, _, rfl, .inl (SqL.of hD), _, _, rfl, rfl, by rw [List.length_map]; omega, ?_⟩
    show gName 3 (V.int (c / 6 % ((ds.map V.int).length : Int))) _ _ _
    rw [List.length_map, en]
    have hn : n < ds.length := by omega
    refine ⟨fun σ H' => H' = H ∧ σ = [some (.ref dl), some (.int at1), some (.int c), some (.int (n : Int)), some (.int at1), none], ⟨_, rfl, rfl, rfl⟩, ?_⟩
    rintro σ H' ⟨rfl, rfl⟩
    refine ⟨fun σ H1 => H1 = H' ∧ ∃ ah, σ = [some (.ref dl), some (.int at1), some (.int c), some (.int (n : Int)), some (.int ah), none], ?_, ?_⟩
    · refine ⟨_, rfl, _, _, rfl, rfl, _, rfl, ifd (fun c2 => ?_) (fun _ => ⟨rfl, _, rfl⟩)⟩
      have c2' : (n : Int) > 0 := c2
      obtain ⟨v, hv⟩ := get_of (l := ds) (j := n - 1) (by omega)
      exact ⟨_, rfl, _, rfl, _, _, rfl, rfl, dl, _, _, _, rfl, rfl, SqL.of hD, at_m (f := V.int) (by omega) hv, rfl, _, rfl⟩
    rintro σ H1 ⟨rfl, ah, rfl⟩
    refine ⟨_, rfl, _, rfl, _, _, rfl, rfl, _, rfl, _, _, rfl, rfl, _, rfl, _, _, rfl, rfl, dv, _, _, rfl, rfl, md, _, _, rfl, rfl, szl 4, fun p hp => ?_⟩
    have s1 : Same H1 (L2.upd H1 p (.lst [.int ah, .int (ah - 1), .int (at1 - 1), .int (99999 + c / 36 % 3)])) := Same.new hp
    obtain ⟨j, ej⟩ : ∃ j : Nat, c % 6 - 2 = (j : Int) := ⟨(c % 6 - 2).toNat, by omega⟩
    obtain ⟨v, hv⟩ := get_of (l := ([ah, ah - 1, at1 - 1, 99999 + c / 36 % 3] : List Int)) (j := j) (by show j < 4; omega)
    refine ⟨_, rfl, _, _, rfl, rfl, md, _, _, rfl, rfl, p, _, _, _, rfl, rfl, SqL.of upd_same, at_m (f := V.int) (l := [ah, ah - 1, at1 - 1, 99999 + c / 36 % 3]) ej hv, ?_⟩
    show gName 5 (.int v) _ (L2.upd H1 p (.lst [.int ah, .int (ah - 1), .int (at1 - 1), .int (99999 + c / 36 % 3)])) _
    generalize L2.upd H1 p (.lst [.int ah, .int (ah - 1), .int (at1 - 1), .int (99999 + c / 36 % 3)]) = H2 at s1 ⊢
    have hD2 := s1 _ _ hD
    refine ⟨_, rfl, _, rfl, _, rfl, dl, _, rfl, SqL.of hD2, fun p2 h2 => ?_⟩
    rw [cut_to (n := n) rfl (by rw [List.length_map]; omega), ← List.map_take]
    have s3 : Same H2 (L2.upd H2 p2 (.lst ((ds.take n).map V.int))) := Same.new h2
    have u3 : (L2.upd H2 p2 (.lst ((ds.take n).map V.int))) p2 = _ := upd_same
    show tLst _ _ (L2.upd H2 p2 (.lst ((ds.take n).map V.int))) _
    generalize L2.upd H2 p2 (.lst ((ds.take n).map V.int)) = H3 at s3 u3 ⊢
    refine ⟨_, rfl, szl 1, fun p3 h3 => ?_⟩
    have s4 : Same H3 (L2.upd H3 p3 (.lst [.int v])) := Same.new h3
    have u4 : (L2.upd H3 p3 (.lst [.int v])) p3 = some (.lst [.int v]) := upd_same
    show rCat _ _ (L2.upd H3 p3 (.lst [.int v])) _
    generalize L2.upd H3 p3 (.lst [.int v]) = H4 at s4 u4 ⊢
    refine ⟨p2, p3, _, _, rfl, rfl, s4 _ _ u3, u4, sz_small (by rw [List.length_map, List.length_take]; show min n ds.length + 1 ≤ 100000; omega), fun p4 h4 => ?_⟩
    have s5 : Same H4 (L2.upd H4 p4 (.lst ((ds.take n).map V.int ++ [V.int v]))) := Same.new h4
    have u5 : (L2.upd H4 p4 (.lst ((ds.take n).map V.int ++ [V.int v]))) p4 = _ := upd_same
    show tSl _ _ _ _ _ (L2.upd H4 p4 (.lst ((ds.take n).map V.int ++ [V.int v]))) _
    generalize L2.upd H4 p4 (.lst ((ds.take n).map V.int ++ [V.int v])) = H5 at s5 u5 ⊢
    have s25 := (s3.trans s4).trans s5
    refine ⟨_, rfl, _, rfl, _, _, rfl, rfl, _, rfl, dl, _, rfl, SqL.of (s25 _ _ hD2), fun p5 h5 => ?_⟩
    rw [cut_from (n := n + 1) (by omega) (by rw [List.length_map]; omega), ← List.map_drop]
    have s6 : Same H5 (L2.upd H5 p5 (.lst ((ds.drop (n + 1)).map V.int))) := Same.new h5
    refine ⟨p4, p5, _, _, rfl, rfl, s6 _ _ u5, upd_same, sz_small (by rw [List.length_append, List.length_map, List.length_map, List.length_take, List.length_drop]; show min n ds.length + 1 + _ ≤ 100000; omega), fun p6 h6 => ?_⟩
    refine q p6 (ds.take n ++ [v] ++ ds.drop (n + 1)) _ (((s1.trans s25).trans s6).upd h6) ?_ (by rw [List.length_append, List.length_append, List.length_take, List.length_drop]; show min n ds.length + 1 + _ ≤ 100; omega)
    rw [List.map_append, List.map_append]
    exact upd_same

theorem ok_law_days_good {f : Addr} {fd : FuncData} (F : Fun K "_law_days_good" "_law_days_good" s_law_days_good f fd) (T : Txt K mg)  :
    FnOk P w K mg base CX0 1 f fd ["_law_days", "_law_at"] (sp_law_days_good T) := by
  refine F.ok sc_law_days_good (fun vs H Q E h => ?_) (fun cdv A outer s H vs Q E hr h => ?_)
  · obtain ⟨dl, ds, at1, rfl, _⟩ := h
    rfl
  · obtain ⟨dl, ds, at1, rfl, D, q⟩ := h
    refine ⟨_, (pss_cons (ps_set (i := 2) sc_law_days_good.nd rfl (Or.inl rfl) (pe_op op_sub (pv 1) pe_int))
            (pss_cons (ps_for PassesOwn.never rfl (pi_list (pv 0)) (pg_name (i := 3) sc_law_days_good.nd rfl (Or.inl rfl)) (pss_cons (ps_if (PW.pt (pw_or (pt_cmpR op_le (pv 3) (pv 2) (nomark _)) (pw_or1 (pt_cmpR op_gt (pv 3) pe_int (nomark _))))) (pss_one (ps_ret pe_bl)) pss_nil)
            (pss_one (ps_set (i := 2) sc_law_days_good.nd rfl (Or.inl rfl) (pv 3)))))
            (pss_one (ps_ret pe_bl)))), ?_⟩
    refine ⟨_, rfl, _, _, rfl, rfl, ?_⟩
    refine ⟨_, rfl, dl, rfl, ⟨_, D⟩, for_list (K := K) (a := dl) (xs := ds.map V.int)
      (fun i σ H1 => H1 = H ∧ ∃ (ah : Int) (v3 : Option V), daysB (at1 - 1) ds = daysB ah (ds.drop i) ∧ σ = [some (.ref dl), some (.int at1), some (.int ah), v3])
      ⟨rfl, _, none, rfl, rfl⟩ (fun i σ H1 _ ⟨e, _⟩ => by rw [e]; exact D) ?_ ?_⟩
    · rintro i y σ H1 hi ⟨rfl, ah, v3, e, rfl⟩
      obtain ⟨d, hd, rfl⟩ := map_get hi
      rw [drop_get hd] at e
      have e2 : daysB ah (d :: ds.drop (i + 1)) = (decide (ah < d ∧ d ≤ 100000) && daysB d (ds.drop (i + 1))) := rfl
      rw [e2] at e
      refine ⟨_, rfl, _, rfl, _, _, rfl, rfl, _, rfl, ifd (fun c1 => ?_) (fun c1 => ?_)⟩
      · rw [e, decide_eq_false (by omega), Bool.false_and] at q
        exact iteT q
      refine ⟨_, rfl, _, _, rfl, rfl, _, rfl, ifd (fun c2 => ?_) (fun c2 => ?_)⟩
      · rw [e, decide_eq_false (by omega), Bool.false_and] at q
        exact q
      · rw [decide_eq_true (by omega), Bool.true_and] at e
        exact ⟨_, rfl, rfl, _, _, e, rfl⟩
    · rintro σ H1 ⟨rfl, ah, v3, e, rfl⟩
      rw [List.length_map, List.drop_length] at e
      rw [e] at q
      exact q

theorem ok_law_asked {f : Addr} {fd : FuncData} (F : Fun K "_law_asked" "_law_asked" s_law_asked f fd) (T : Txt K mg) (D_plan : Df P w K mg base (L2.CX P w) 6 "plan" ["loan", "days", "part"] (sp_plan T)) (D_least_part : Df P w K mg base (L2.CX P w) 7 "least_part" ["loan", "days"] (sp_least_part T)) (D_cost : Df P w K mg base (L2.CX P w) 7 "cost" ["loan", "days", "part"] (sp_cost T)) (D_saved : Df P w K mg base (L2.CX P w) 7 "saved" ["loan", "days", "part", "day", "cents"] (sp_saved T)) :
    FnOk P w K mg base CX0 8 f fd ["_law_word", "_law_loan", "_law_days", "_law_part", "_law_early"] (sp_law_asked T) := by
  refine F.ok sc_law_asked (fun vs H Q E h => ?_) (fun cdv A outer s H vs Q E hr h => ?_)
  · obtain ⟨w, x, dx, l, dl, ep, us, z, ds, part, e, c, o, rfl, _⟩ := h
    rfl
  · obtain ⟨w', x, dx, l, dl, ep, us, z, ds, part, e, c, o, rfl, X, D, he, rok, lok, hlen, eo, q⟩ := h
    refine ⟨_, (Evl.pss_cut (ps_try_mix rfl rfl takes0 (fun W pn xe tk po => (pss_one (ps_if (pt_cmpR op_eq (pv 0) pe_str (nomark _)) (pss_one (ps_expr (by exact (pe_callS D_plan.G (hr.mono (by decide)) rfl D_plan.m D_plan.kp D_plan.b (fun σ => passAt tk σ) (by exact (pa_cons (pv 1) (pa_cons (pv 2) (pa_cons (pv 3) pa_nil)))))))) (pss_one (ps_if (pt_cmpR op_eq (pv 0) pe_str (nomark _)) (pss_one (ps_expr (by exact (pe_callS D_least_part.G (hr.mono (by decide)) rfl D_least_part.m D_least_part.kp D_least_part.b (fun σ => passAt tk σ) (by exact (pa_cons (pv 1) (pa_cons (pv 2) pa_nil))))))) (pss_one (ps_if (pt_cmpR op_eq (pv 0) pe_str (nomark _)) (pss_one (ps_expr (by exact (pe_callS D_cost.G (hr.mono (by decide)) rfl D_cost.m D_cost.kp D_cost.b (fun σ => passAt tk σ) (by exact (pa_cons (pv 1) (pa_cons (pv 2) (pa_cons (pv 3) pa_nil)))))))) (pss_one (ps_expr (by exact (pe_callS D_saved.G (hr.mono (by decide)) rfl D_saved.m D_saved.kp D_saved.b (fun σ => passAt tk σ) (by exact (pa_cons (pv 1) (pa_cons (pv 2) (pa_cons (pv 3) (pa_cons (pe_ix (ix_tupK (K := K)) (pv 4) pe_int (fun _ _ => rfl)) (pa_cons (pe_ix (ix_tupK (K := K)) (pv 4) pe_int (fun _ _ => rfl)) pa_nil))))))))))))))))) (.plain ⟨rfl, by decide, .inl T.g_BadDay⟩ (fun a oe cls d pn hz hf => (pss_one (ps_ret pe_str))) (.named (i := 5) sc_law_asked.nd rfl rfl ⟨rfl, by decide, .inl T.g_LoanError⟩ (fun a oe cls d pn hz hf => (pss_one (ps_ret (pe_ix (ix_listK (K := K)) (pe_lst (pa_cons pe_str (pa_cons pe_str pa_nil))) (pe_callTy call_int1 (by rfl) T.b_int (by decide +kernel) (pa_cons (pe_and (pe_isS hz hf T.b_isinstance (pv 5) (pe_gref T.g_BadPay)) (pe_one (pe_isS hz hf T.b_isinstance (pv 5) (pe_bltn (v := .ty "ValueError") (u := .type "ValueError") rfl T.b_ValueError (by decide +kernel) rfl)))) pa_nil)) (fun _ _ => rfl))))) .nil)))
            (pss_one (ps_ret pe_str))), ?_⟩
    refine ⟨fun σ H' => Same H H' ∧ dueK w' z.day ds part e c o = "", ?_, ?_⟩
    rotate_left
    · rintro σ H' ⟨s, e2⟩
      have := q H' s
      rw [e2] at this
      exact this
    unfold dueK at q ⊢
    cases w' with
    | pl =>
      dsimp only at q ⊢
      refine ⟨_, rfl, rfl, _, rfl, ifd (fun _ => ?_) (fun n => absurd rfl n)⟩
      refine ⟨_, rfl, _, rfl, _, rfl, x, dx, l, dl, us, z, ds, part, rfl, X, D, rok, lok, hlen, fun n => ?_, fun hd n => ?_, fun hd p1 rl ts H' s hrl R er => ?_⟩
      · refine ⟨true, T.m_BadDay_BadDay, fun _ a ha => ?_, fun y => Bool.noConfusion y⟩
        have := q H (Same.refl _)
        rw [if_pos n] at this
        exact this
      · refine ⟨false, T.m_BadPay_BadDay, fun y => Bool.noConfusion y, fun _ => ⟨true, T.m_BadPay_LoanError, fun _ a ha => ?_, fun y => Bool.noConfusion y⟩⟩
        refine ⟨szl 2, fun p hp => ⟨_, rfl, T.a_BadPay, _, _, true, rfl, rfl, T.i_BadPay, rfl, fun u r => r, T.ki_BadPay_BadPay, true, rfl, iteT ?_⟩⟩
        refine ⟨_, rfl, T.a_BadPay, _, _, true, rfl, rfl, T.i_BadPay, rfl, fun u r => r, T.ki_BadPay_ValueError, .inr ⟨true, rfl, p, _, _, _, rfl, rfl, SqL.of upd_same, at_of (j := 1) rfl rfl, ?_⟩⟩
        have := q _ (Same.new (o := .lst [.str "else", .str "pay"]) hp)
        rw [if_neg (by rw [hd]; decide), if_pos n] at this
        exact this
      · refine ⟨s, ?_⟩
        rw [if_neg (by rw [hd]; decide), if_neg (by omega)]
    | le =>
      dsimp only at q ⊢
      refine ⟨_, rfl, rfl, _, rfl, ifd (fun n => absurd n (by decide)) (fun _ => ?_)⟩
      refine ⟨_, rfl, rfl, _, rfl, ifd (fun _ => ?_) (fun n => absurd rfl n)⟩
      refine ⟨_, rfl, _, rfl, x, dx, l, dl, us, z, ds, rfl, X, D, rok, lok, hlen, fun n => ?_, fun hd hne n H' s _ _ _ _ => ?_⟩
      · refine ⟨true, T.m_BadDay_BadDay, fun _ a ha => ?_, fun y => Bool.noConfusion y⟩
        have := q H (Same.refl _)
        by_cases hb : daysB (z.day - 1) ds = false
        · rw [if_pos hb] at this
          exact this
        · rw [if_neg hb, if_pos (n.resolve_left hb)] at this
          exact this
      · refine ⟨s, ?_⟩
        rw [if_neg (by rw [hd]; decide), if_neg hne]
    | co =>
      dsimp only at q ⊢
      refine ⟨_, rfl, rfl, _, rfl, ifd (fun n => absurd n (by decide)) (fun _ => ?_)⟩
      refine ⟨_, rfl, rfl, _, rfl, ifd (fun n => absurd n (by decide)) (fun _ => ?_)⟩
      refine ⟨_, rfl, rfl, _, rfl, ifd (fun _ => ?_) (fun n => absurd rfl n)⟩
      refine ⟨_, rfl, _, rfl, _, rfl, x, dx, l, dl, us, z, ds, part, rfl, X, D, rok, lok, hlen, fun n => ?_, fun hd hne n => ?_, fun hd hne p1 H' s => ?_⟩
      · refine ⟨true, T.m_BadDay_BadDay, fun _ a ha => ?_, fun y => Bool.noConfusion y⟩
        have := q H (Same.refl _)
        by_cases hb : daysB (z.day - 1) ds = false
        · rw [if_pos hb] at this
          exact this
        · rw [if_neg hb, if_pos (n.resolve_left hb)] at this
          exact this
      · refine ⟨false, T.m_BadPay_BadDay, fun y => Bool.noConfusion y, fun _ => ⟨true, T.m_BadPay_LoanError, fun _ a ha => ?_, fun y => Bool.noConfusion y⟩⟩
        refine ⟨szl 2, fun p hp => ⟨_, rfl, T.a_BadPay, _, _, true, rfl, rfl, T.i_BadPay, rfl, fun u r => r, T.ki_BadPay_BadPay, true, rfl, iteT ?_⟩⟩
        refine ⟨_, rfl, T.a_BadPay, _, _, true, rfl, rfl, T.i_BadPay, rfl, fun u r => r, T.ki_BadPay_ValueError, .inr ⟨true, rfl, p, _, _, _, rfl, rfl, SqL.of upd_same, at_of (j := 1) rfl rfl, ?_⟩⟩
        have := q _ (Same.new (o := .lst [.str "else", .str "pay"]) hp)
        rw [if_neg (by rw [hd]; decide), if_neg hne, if_pos n] at this
        exact this
      · refine ⟨s, ?_⟩
        rw [if_neg (by rw [hd]; decide), if_neg hne, if_neg (by omega)]
    | sa =>
      dsimp only at q ⊢
      refine ⟨_, rfl, rfl, _, rfl, ifd (fun n => absurd n (by decide)) (fun _ => ?_)⟩
      refine ⟨_, rfl, rfl, _, rfl, ifd (fun n => absurd n (by decide)) (fun _ => ?_)⟩
      refine ⟨_, rfl, rfl, _, rfl, ifd (fun n => absurd n (by decide)) (fun _ => ?_)⟩
      refine ⟨_, rfl, _, rfl, _, rfl, _, rfl, ep, _, _, _, rfl, rfl, SqT.of he, at0 rfl, _, rfl, ep, _, _, _, rfl, rfl, SqT.of he, at_of (j := 1) rfl rfl, x, dx, l, dl, us, z, ds.headD 0, ds.tail, ds, part, e, c, rfl, X, D, rok, lok, hlen, fun n => ?_, fun n => ?_, fun hd hne n => ?_, fun hd hne p1 n H' s => ?_, fun hd hne p1 e1 e2 n H' s => ?_, fun hd hne p1 e1 e2 c1 c2 H' s => ?_⟩
      · cases ds with
        | nil => exact absurd rfl n
        | cons a b => rfl
      · refine ⟨true, T.m_BadDay_BadDay, fun _ a ha => ?_, fun y => Bool.noConfusion y⟩
        have := q H (Same.refl _)
        by_cases hb : daysB (z.day - 1) ds = false
        · rw [if_pos hb] at this
          exact this
        · rw [if_neg hb, if_pos (n.resolve_left hb)] at this
          exact this
      · refine ⟨false, T.m_BadPay_BadDay, fun y => Bool.noConfusion y, fun _ => ⟨true, T.m_BadPay_LoanError, fun _ a ha => ?_, fun y => Bool.noConfusion y⟩⟩
        refine ⟨szl 2, fun p hp => ⟨_, rfl, T.a_BadPay, _, _, true, rfl, rfl, T.i_BadPay, rfl, fun u r => r, T.ki_BadPay_BadPay, true, rfl, iteT ?_⟩⟩
        refine ⟨_, rfl, T.a_BadPay, _, _, true, rfl, rfl, T.i_BadPay, rfl, fun u r => r, T.ki_BadPay_ValueError, .inr ⟨true, rfl, p, _, _, _, rfl, rfl, SqL.of upd_same, at_of (j := 1) rfl rfl, ?_⟩⟩
        have := q _ (Same.new (o := .lst [.str "else", .str "pay"]) hp)
        rw [if_neg (by rw [hd]; decide), if_neg hne, if_pos n] at this
        exact this
      · refine ⟨true, T.m_BadDay_BadDay, fun _ a ha => ?_, fun y => Bool.noConfusion y⟩
        have := q H' s
        rw [if_neg (by rw [hd]; decide), if_neg hne, if_neg (by omega), if_pos n] at this
        exact this
      · have hd0 : ds.headD 0 ≤ 100000 := by
          cases ds with
          | nil => exact absurd rfl hne
          | cons a b => exact (daysB_cons.mp hd).1.2
        refine ⟨false, T.m_BadPay_BadDay, fun y => Bool.noConfusion y, fun _ => ⟨true, T.m_BadPay_LoanError, fun _ a ha => ?_, fun y => Bool.noConfusion y⟩⟩
        refine ⟨szl 2, fun p hp => ⟨_, rfl, T.a_BadPay, _, _, true, rfl, rfl, T.i_BadPay, rfl, fun u r => r, T.ki_BadPay_BadPay, true, rfl, iteT ?_⟩⟩
        refine ⟨_, rfl, T.a_BadPay, _, _, true, rfl, rfl, T.i_BadPay, rfl, fun u r => r, T.ki_BadPay_ValueError, .inr ⟨true, rfl, p, _, _, _, rfl, rfl, SqL.of upd_same, at_of (j := 1) rfl rfl, ?_⟩⟩
        have := q _ (s.upd (o := .lst [.str "else", .str "pay"]) hp)
        rw [if_neg (by rw [hd]; decide), if_neg hne, if_neg (by omega), if_neg (fun y => y ⟨e1, e2⟩), if_pos (by rw [eo e1 (by omega)]; exact n)] at this
        exact this
      · have hd0 : ds.headD 0 ≤ 100000 := by
          cases ds with
          | nil => exact absurd rfl hne
          | cons a b => exact (daysB_cons.mp hd).1.2
        refine ⟨s, ?_⟩
        rw [if_neg (by rw [hd]; decide), if_neg hne, if_neg (by omega), if_neg (fun y => y ⟨e1, e2⟩), if_neg (fun y => y ⟨c1, by rw [eo e1 (by omega)]; exact c2⟩)]

theorem ok_law_due {f : Addr} {fd : FuncData} (F : Fun K "_law_due" "_law_due" s_law_due f fd) (T : Txt K mg) (D_law_days_good : Df P w K mg base CX0 1 "_law_days_good" ["_law_days", "_law_at"] (sp_law_days_good T)) :
    FnOk P w K mg base CX0 2 f fd ["_law_word", "_law_days", "_law_at", "_law_part", "_law_early", "_law_owed_here"] (sp_law_due T) := by
  refine F.ok sc_law_due (fun vs H Q E h => ?_) (fun cdv A outer s H vs Q E hr h => ?_)
  · obtain ⟨w, dl, ep, ds, at1, part, e, c, o, rfl, _⟩ := h
    rfl
  · obtain ⟨w', dl, ep, ds, at1, part, e, c, o, rfl, D, he, q⟩ := h
    refine ⟨_, (pss_cons (ps_if (PW.pt (pw_or (pt_not (pt_val (pc0 D_law_days_good hr (pa_cons (pv 1) (pa_cons (pv 2) pa_nil))))) (pw_or1 (PW.pt (pw_and (pt_cmpR op_eq (pe_callB call_len_seq (by rfl) T.b_len PySem.boot_len (pa_cons (pv 1) pa_nil)) pe_int (nomark _)) (pw_and1 (pt_cmpR op_ne (pv 0) pe_str (nomark _)))))))) (pss_one (ps_ret pe_str)) pss_nil)
            (pss_cons (ps_if (PW.pt (pw_and (pt_cmpR op_ne (pv 0) pe_str (nomark _)) (pw_and1 (pt_cmpR op_lt (pv 3) pe_int (nomark _))))) (pss_one (ps_ret pe_str)) pss_nil)
            (pss_cons (ps_if (PW.pt (pw_and (pt_cmpR op_eq (pv 0) pe_str (nomark _)) (pw_and1 (pt_not (pt_chain op_le op_le (pv 2) (pe_ix ix_tup (pv 4) pe_int (fun _ _ => rfl)) (pe_ix ix_list (pv 1) pe_int (fun _ _ => rfl))))))) (pss_one (ps_ret pe_str)) pss_nil)
            (pss_cons (ps_if (PW.pt (pw_and (pt_cmpR op_eq (pv 0) pe_str (nomark _)) (pw_and1 (pt_not (pt_chain op_le op_le pe_int (pe_ix ix_tup (pv 4) pe_int (fun _ _ => rfl)) (pv 5)))))) (pss_one (ps_ret pe_str)) pss_nil)
            (pss_one (ps_ret pe_str)))))), ?_⟩
    refine ⟨_, rfl, _, rfl, dl, ds, at1, rfl, D, daysB (at1 - 1) ds, rfl, ?_⟩
    unfold dueK at q
    cases hb : daysB (at1 - 1) ds with
    | false =>
      rw [if_pos hb] at q
      exact iteT q
    | true =>
    rw [if_neg (by rw [hb]; decide)] at q
    refine ifnT ?_
    refine ⟨_, rfl, dl, _, rfl, .inl D, rfl, _, rfl, ?_⟩
    rw [List.length_map]
    cases ds with
    | nil =>
      refine ifd (fun _ => ?_) (fun n => absurd rfl n)
      cases w' with
      | pl =>
        dsimp only at q
        refine ⟨_, rfl, rfl, _, rfl, ifdn (fun n => absurd rfl n) (fun _ => ?_)⟩
        refine ⟨_, rfl, rfl, _, rfl, ifdn (fun _ => ?_) (fun n => absurd n (by decide))⟩
        refine ⟨_, rfl, _, _, rfl, rfl, _, rfl, ifd (fun c1 => ?_) (fun c1 => ?_)⟩
        · exact (show Q (.str "pay") H by rw [if_pos (show part < 1 from c1)] at q; exact q)
        · refine ⟨_, rfl, rfl, _, rfl, ifd (fun n => absurd n (by decide)) (fun _ => ?_)⟩
          refine ⟨_, rfl, rfl, _, rfl, ifd (fun n => absurd n (by decide)) (fun _ => ?_)⟩
          exact (show Q (.str "") H by rw [if_neg (show ¬ part < 1 from c1)] at q; exact q)
      | le =>
        dsimp only at q
        exact ⟨_, rfl, rfl, _, rfl, ifdn (fun _ => q) (fun n => absurd n (by decide))⟩
      | co =>
        dsimp only at q
        exact ⟨_, rfl, rfl, _, rfl, ifdn (fun _ => q) (fun n => absurd n (by decide))⟩
      | sa =>
        dsimp only at q
        exact ⟨_, rfl, rfl, _, rfl, ifdn (fun _ => q) (fun n => absurd n (by decide))⟩
    | cons d0 r =>
      refine if_eq (fun n => absurd n (by simp only [List.length_cons]; omega)) (fun _ => ?_)
      have ne : ¬ (d0 :: r = []) := fun n => by cases n
      cases w' with
      | pl =>
        dsimp only at q
        refine ⟨_, rfl, rfl, _, rfl, ifdn (fun _ => ?_) (fun n => absurd n (by decide))⟩
        refine ⟨_, rfl, _, _, rfl, rfl, _, rfl, ifd (fun c1 => ?_) (fun c1 => ?_)⟩
        · exact (show Q (.str "pay") H by rw [if_pos (show part < 1 from c1)] at q; exact q)
        · refine ⟨_, rfl, rfl, _, rfl, ifd (fun n => absurd n (by decide)) (fun _ => ?_)⟩
          refine ⟨_, rfl, rfl, _, rfl, ifd (fun n => absurd n (by decide)) (fun _ => ?_)⟩
          exact (show Q (.str "") H by rw [if_neg (show ¬ part < 1 from c1)] at q; exact q)
      | le =>
        dsimp only at q
        refine ⟨_, rfl, rfl, _, rfl, ifdn (fun n => absurd rfl n) (fun _ => ?_)⟩
        refine ⟨_, rfl, rfl, _, rfl, ifd (fun n => absurd n (by decide)) (fun _ => ?_)⟩
        refine ⟨_, rfl, rfl, _, rfl, ifd (fun n => absurd n (by decide)) (fun _ => ?_)⟩
        exact (show Q (.str "") H by rw [if_neg ne] at q; exact q)
      | co =>
        dsimp only at q
        rw [if_neg ne] at q
        refine ⟨_, rfl, rfl, _, rfl, ifdn (fun _ => ?_) (fun n => absurd n (by decide))⟩
        refine ⟨_, rfl, _, _, rfl, rfl, _, rfl, ifd (fun c1 => ?_) (fun c1 => ?_)⟩
        · exact (show Q (.str "pay") H by rw [if_pos (show part < 1 from c1)] at q; exact q)
        · refine ⟨_, rfl, rfl, _, rfl, ifd (fun n => absurd n (by decide)) (fun _ => ?_)⟩
          refine ⟨_, rfl, rfl, _, rfl, ifd (fun n => absurd n (by decide)) (fun _ => ?_)⟩
          exact (show Q (.str "") H by rw [if_neg (show ¬ part < 1 from c1)] at q; exact q)
      | sa =>
        dsimp only at q
        rw [if_neg ne] at q
        refine ⟨_, rfl, rfl, _, rfl, ifdn (fun _ => ?_) (fun n => absurd n (by decide))⟩
        refine ⟨_, rfl, _, _, rfl, rfl, _, rfl, ifd (fun c1 => ?_) (fun c1 => ?_)⟩
        · exact (show Q (.str "pay") H by rw [if_pos (show part < 1 from c1)] at q; exact q)
        rw [if_neg (show ¬ part < 1 from c1)] at q
        refine ⟨_, rfl, rfl, _, rfl, ifd (fun _ => ?_) (fun n => absurd rfl n)⟩
        refine ⟨_, rfl, _, rfl, ep, _, _, _, rfl, rfl, SqT.of he, at0 rfl, _, _, rfl, rfl, _, rfl, ifd (fun e1 => ?_) (fun e1 => ?_)⟩
        rotate_left
        · exact ⟨_, rfl, (show Q (.str "day") H by rw [if_pos (show ¬ (at1 ≤ e ∧ e ≤ (d0 :: r).headD 0) from fun y => e1 y.1)] at q; exact q)⟩
        refine ⟨_, rfl, dl, _, _, _, rfl, rfl, D, at0 rfl, _, _, rfl, rfl, _, rfl, ifdn (fun e2 => ?_) (fun e2 => ?_)⟩
        · exact (show Q (.str "day") H by rw [if_pos (show ¬ (at1 ≤ e ∧ e ≤ (d0 :: r).headD 0) from fun y => e2 y.2)] at q; exact q)
        rw [if_neg (show ¬ ¬ (at1 ≤ e ∧ e ≤ (d0 :: r).headD 0) from fun y => y ⟨e1, e2⟩)] at q
        refine ⟨_, rfl, rfl, _, rfl, ifd (fun _ => ?_) (fun n => absurd rfl n)⟩
        refine ⟨_, rfl, ep, _, _, _, rfl, rfl, SqT.of he, at_of (j := 1) rfl rfl, _, _, rfl, rfl, _, rfl, ifd (fun c3 => ?_) (fun c3 => ?_)⟩
        rotate_left
        · exact ⟨_, rfl, (show Q (.str "pay") H by rw [if_pos (show ¬ (1 ≤ c ∧ c ≤ o) from fun y => c3 y.1)] at q; exact q)⟩
        refine ⟨_, rfl, _, _, rfl, rfl, _, rfl, ifdn (fun c4 => ?_) (fun c4 => ?_)⟩
        · exact (show Q (.str "pay") H by rw [if_pos (show ¬ (1 ≤ c ∧ c ≤ o) from fun y => c4 y.2)] at q; exact q)
        · exact (show Q (.str "") H by rw [if_neg (show ¬ ¬ (1 ≤ c ∧ c ≤ o) from fun y => y ⟨c3, c4⟩)] at q; exact q)

theorem ok_law_behind {f : Addr} {fd : FuncData} (F : Fun K "_law_behind" "_law_behind" s_law_behind f fd) (T : Txt K mg) (D_law_sum_by : Df P w K mg base CX0 1 "_law_sum_by" ["_law_row", "_law_start", "_law_end"] (sp_law_sum_by T)) (D_law_owed : Df P w K mg base CX0 1 "_law_owed" ["_law_left", "_law_begun"] (sp_law_owed T)) (D_law_parts : Df P w K mg base CX0 1 "_law_parts" ["_law_left", "_law_begun", "_law_cents"] (sp_law_parts T)) :
    FnOk P w K mg base CX0 2 f fd ["_law_stood", "_law_row", "_law_days", "_law_part"] (sp_law_behind T) := by
  refine F.ok sc_law_behind (fun vs H Q E h => ?_) (fun cdv A outer s H vs Q E hr h => ?_)
  · obtain ⟨tp, lm, dl, tm, z, ds, part, rfl, _⟩ := h
    rfl
  · obtain ⟨tp, lm, dl, tm, z, ds, part, rfl, t0, R0, D0, rok, lok0, hd0, p0, q⟩ := h
    refine ⟨_, (pss_cons (ps_asg (pv 0) (pg_tup rfl (pgs_cons (pg_name (i := 4) sc_law_behind.nd rfl (Or.inl rfl)) (pgs_cons (pg_name (i := 5) sc_law_behind.nd rfl (Or.inl rfl)) (pgs_cons (pg_name (i := 6) sc_law_behind.nd rfl (Or.inl rfl)) pgs_nil)))))
            (pss_cons (ps_set (i := 7) sc_law_behind.nd rfl (Or.inl rfl) pe_int)
            (pss_cons (ps_for PassesOwn.never rfl (pi_list (pv 2)) (pg_name (i := 8) sc_law_behind.nd rfl (Or.inl rfl)) (pss_cons (ps_set (i := 5) sc_law_behind.nd rfl (Or.inl rfl) (pe_op op_add (pv 5) (pe_op op_mulX (pv 4) (pc0 D_law_sum_by hr (pa_cons (pv 1) (pa_cons (pv 6) (pa_cons (pv 8) pa_nil)))))))
            (pss_cons (ps_set (i := 6) sc_law_behind.nd rfl (Or.inl rfl) (pv 8))
            (pss_cons (ps_set (i := 9) sc_law_behind.nd rfl (Or.inl rfl) (pe_callB (call_min2 rfl) (by rfl) T.b_min (by decide +kernel) (pa_cons (pv 3) (pa_cons (pc0 D_law_owed hr (pa_cons (pv 4) (pa_cons (pv 5) pa_nil))) pa_nil))))
            (pss_one (ps_if (pt_cmpR op_gt (pv 9) pe_int (nomark _)) (pss_cons (ps_asg (pe_slice sl_tup (pc0 D_law_parts hr (pa_cons (pv 4) (pa_cons (pv 5) (pa_cons (pv 9) pa_nil)))) (po_some pe_int) po_none) (pg_tup rfl (pgs_cons (pg_name (i := 4) sc_law_behind.nd rfl (Or.inl rfl)) (pgs_cons (pg_name (i := 5) sc_law_behind.nd rfl (Or.inl rfl)) pgs_nil))))
            (pss_one (ps_set (i := 7) sc_law_behind.nd rfl (Or.inl rfl) (pe_op op_add (pv 7) (pv 9))))) pss_nil))))))
            (pss_one (ps_ret (pe_tup (pa_cons (pv 7) (pa_cons (pc0 D_law_owed hr (pa_cons (pv 4) (pa_cons (pv 5) pa_nil))) pa_nil)))))))), ?_⟩
    have hltm : tm.length ≤ 1000 := by rw [← vals_len]; exact rok.len
    refine ⟨_, rfl, tp, _, rfl, SqT.of t0, rfl, _, _, rfl, _, _, rfl, _, _, rfl, rfl, ?_⟩
    refine ⟨_, rfl, dl, rfl, ⟨_, D0⟩, for_list (K := K) (a := dl) (xs := ds.map V.int)
      (fun i σ H' => ∃ (zi : Ln) (t : Int) (v8 v9 : Option V), Same H H' ∧ LnOk zi ∧ daysB (zi.day - 1) (ds.drop i) = true ∧ behindS (vals tm) part z 0 ds = behindS (vals tm) part zi t (ds.drop i) ∧
        σ = [some (.ref tp), some (.ref lm), some (.ref dl), some (.int part), some (.int zi.left), some (.int zi.begun), some (.int zi.day), some (.int t), v8, v9])
      ⟨z, 0, none, none, Same.refl _, lok0, hd0, rfl, rfl⟩ (fun i σ H' _ ⟨_, _, _, _, s, _⟩ => s.seq D0) ?_ ?_⟩
    · rintro i y σ H2 hi ⟨zi, t, v8, v9, s2, lok, hdi, e1, rfl⟩
      obtain ⟨d, hd, rfl⟩ := map_get hi
      rw [drop_get hd] at hdi e1
      have h3 := daysB_cons.mp hdi
      have hz0 := lok.d0
      have hl0 := lok.l0
      have hl1 := lok.l1
      have dp := dueP_ok (part := part) (d := d) lok rok.g (by omega) p0
      refine ⟨_, rfl, _, rfl, _, rfl, _, rfl, _, rfl, lm, tm, _, _, rfl, R0.same s2, hltm, rok.g, hz0, by omega, _, _, rfl, rfl, IntMulOk.of_left (PySem.intBits_le_64 (by omega) (by omega)), _, _, rfl, rfl, ?_⟩
      show gName 5 (V.int (begunAt (vals tm) zi d)) _ _ _
      refine ⟨_, rfl, _, rfl, _, rfl, _, rfl, _, _, rfl, _, _, rfl, ?_⟩
      show gName 9 (V.int (dueP (vals tm) part zi d)) _ _ _
      refine ⟨_, rfl, _, _, rfl, rfl, _, rfl, ifd (fun c => ?_) (fun c => ?_)⟩
      · rw [behindS_go c] at e1
        refine ⟨_, rfl, _, rfl, _, rfl, _, _, _, rfl, fun p3 H3 s3 hp3 t3 => ?_⟩
        refine ⟨_, rfl, p3, _, rfl, SqT.of t3, by show ¬ (HT.sIx 4 0 (some 2) = 0 ∧ HT.sIx 4 4 none = 4); decide, fun p4 hp4 => ?_⟩
        have s4 : Same H3 (L2.upd H3 p4 (.tup (cutV [V.int (payF zi.left (begunAt (vals tm) zi d) (dueP (vals tm) part zi d)).1, .int (payF zi.left (begunAt (vals tm) zi d) (dueP (vals tm) part zi d)).2.1, .int (payF zi.left (begunAt (vals tm) zi d) (dueP (vals tm) part zi d)).2.2.1, .int (payF zi.left (begunAt (vals tm) zi d) (dueP (vals tm) part zi d)).2.2.2] (some 2) none))) := Same.new hp4
        refine ⟨p4, _, rfl, SqT.of upd_same, rfl, _, _, rfl, _, _, rfl, rfl, ?_⟩
        exact ⟨_, rfl, _, rfl, _, _, rfl, rfl, payLn (vals tm) zi d (dueP (vals tm) part zi d), _, _, _, (s2.trans s3).trans s4, payLn_ok lok rok.g (by omega) h3.1.2 (by omega) dp.2.1, daysB_next h3.2, e1, rfl⟩
      · rw [behindS_not c] at e1
        exact ⟨moveLn (vals tm) zi d, t, _, _, s2, moveLn_ok lok rok.g (by omega) h3.1.2, daysB_next h3.2, e1, rfl⟩
    · rintro σ H2 ⟨zi, t, v8, v9, s2, lok, hdi, e1, rfl⟩
      rw [List.length_map, List.drop_length] at e1
      have e2 : behindS (vals tm) part zi t [] = (zi, t) := rfl
      rw [e2] at e1
      rw [e1] at q
      exact ⟨_, rfl, _, rfl, _, rfl, _, _, rfl, szl 2, fun p hp => q p _ (s2.trans (Same.new hp)) upd_same⟩

theorem ok_law_good_then {f : Addr} {fd : FuncData} (F : Fun K "_law_good_then" "_law_good_then" s_law_good_then f fd) (T : Txt K mg) (D_law_owed : Df P w K mg base CX0 1 "_law_owed" ["_law_left", "_law_begun"] (sp_law_owed T)) (D_law_asked : Df P w K mg base CX0 8 "_law_asked" ["_law_word", "_law_loan", "_law_days", "_law_part", "_law_early"] (sp_law_asked T)) (D_law_behind : Df P w K mg base CX0 2 "_law_behind" ["_law_stood", "_law_row", "_law_days", "_law_part"] (sp_law_behind T)) (D_cost : Df P w K mg base (L2.CX P w) 7 "cost" ["loan", "days", "part"] (sp_cost T)) (D_plan : Df P w K mg base (L2.CX P w) 6 "plan" ["loan", "days", "part"] (sp_plan T)) (D_least_part : Df P w K mg base (L2.CX P w) 7 "least_part" ["loan", "days"] (sp_least_part T)) :
    FnOk P w K mg base CX0 9 f fd ["_law_loan", "_law_stood", "_law_row", "_law_first"] (sp_law_good_then T) := by
  refine F.ok sc_law_good_then (fun vs H Q E h => ?_) (fun cdv A outer s H vs Q E hr h => ?_)
  · obtain ⟨x, dx, l, tp, lm, us, tm, z, f, rfl, _⟩ := h
    rfl
  · obtain ⟨x, dx, l, tp, lm, us, tm, z, f, rfl, X0, t0, R0, eu, rok, lok, f0, f1, q⟩ := h
    refine ⟨_, (pss_cons (ps_set (i := 4) sc_law_good_then.nd rfl (Or.inl rfl) (pe_lst (pa_cons (pv 3) (pa_cons (pe_op op_add (pv 3) pe_int) (pa_cons (pe_op op_add (pv 3) pe_int) pa_nil)))))
            (pss_cons (ps_set (i := 5) sc_law_good_then.nd rfl (Or.inl rfl) (pe_op op_add pe_int (pe_op op_fdiv (pe_ix ix_tup (pv 1) pe_int (fun _ _ => rfl)) pe_int)))
            (pss_cons (ps_set (i := 6) sc_law_good_then.nd rfl (Or.inl rfl) (pc0 D_law_owed hr (pa_cons (pe_ix ix_tup (pv 1) pe_int (fun _ _ => rfl)) (pa_cons (pe_ix ix_tup (pv 1) pe_int (fun _ _ => rfl)) pa_nil))))
            (pss_cons (ps_set (i := 7) sc_law_good_then.nd rfl (Or.inl rfl) (pe_tup (pa_cons (pe_ix ix_tup (pv 1) pe_int (fun _ _ => rfl)) (pa_cons (pe_callB (call_max2 rfl) (by rfl) T.b_max (by decide +kernel) (pa_cons pe_int (pa_cons (pv 6) pa_nil))) pa_nil))))
            (pss_cons (ps_for PassesOwn.never rfl (pi_list (pe_lst (pa_cons pe_str (pa_cons pe_str (pa_cons pe_str pa_nil))))) (pg_name (i := 8) sc_law_good_then.nd rfl (Or.inl rfl)) (pss_one (ps_if (pt_cmpR op_ne (pc0 D_law_asked hr (pa_cons (pv 8) (pa_cons (pv 0) (pa_cons (pv 4) (pa_cons (pv 5) (pa_cons (pv 7) pa_nil)))))) pe_str (nomark _)) (pss_one (ps_ret pe_bl)) pss_nil)))
            (pss_cons (ps_if (pt_cmpR op_ne (pc0 D_law_asked hr (pa_cons pe_str (pa_cons (pv 0) (pa_cons (pv 4) (pa_cons (pv 5) (pa_cons (pv 7) pa_nil)))))) (pe_op op_repS pe_str (pe_callTy call_int1 (by rfl) T.b_int (by decide +kernel) (pa_cons (pe_cmpR op_eq (pv 6) pe_int (nomark _)) pa_nil))) (nomark _)) (pss_one (ps_ret pe_bl)) pss_nil)
            (pss_cons (ps_asg (pc0 D_law_behind hr (pa_cons (pv 1) (pa_cons (pv 2) (pa_cons (pv 4) (pa_cons (pv 5) pa_nil))))) (pg_tup rfl (pgs_cons (pg_name (i := 9) sc_law_good_then.nd rfl (Or.inl rfl)) (pgs_cons (pg_name (i := 10) sc_law_good_then.nd rfl (Or.inl rfl)) pgs_nil))))
            (pss_cons (ps_if (PW.pt (pw_or (pt_cmpR op_ne (pcL D_cost hr (pa_cons (pv 0) (pa_cons (pv 4) (pa_cons (pv 5) pa_nil)))) (pe_op op_add (pv 9) (pv 10)) (nomark _)) (pw_or1 (pt_cmpR op_gt (pe_callB call_len_seq (by rfl) T.b_len PySem.boot_len (pa_cons (pcL D_plan hr (pa_cons (pv 0) (pa_cons (pv 4) (pa_cons (pv 5) pa_nil)))) pa_nil)) pe_int (nomark _))))) (pss_one (ps_ret pe_bl)) pss_nil)
            (pss_cons (ps_set (i := 11) sc_law_good_then.nd rfl (Or.inl rfl) (pcL D_least_part hr (pa_cons (pv 0) (pa_cons (pv 4) pa_nil))))
            (pss_one (ps_ret (pe_or (pe_cmpR op_eq (pv 11) pe_int (nomark _)) (pe_one (pe_cmpR op_eq (pe_ix ix_tup (pc0 D_law_behind hr (pa_cons (pv 1) (pa_cons (pv 2) (pa_cons (pv 4) (pa_cons (pv 11) pa_nil))))) pe_int (fun _ _ => rfl)) pe_int (nomark _))))))))))))))), ?_⟩
    have rokU : Rok (vals us) := by rw [eu]; exact rok
    have hl0 := lok.l0
    have hb0 := lok.b0
    refine ⟨_, rfl, _, rfl, _, _, rfl, rfl, _, rfl, _, _, rfl, rfl, szl 3, fun dl hdl => ?_⟩
    have s1 : Same H (L2.upd H dl (.lst [.int f, .int (f + 7), .int (f + 30)])) := Same.new hdl
    have hD : (L2.upd H dl (.lst [.int f, .int (f + 7), .int (f + 30)])) dl = some (.lst (([f, f + 7, f + 30] : List Int).map V.int)) := upd_same
    show gName 4 (.ref dl) _ (L2.upd H dl (.lst [.int f, .int (f + 7), .int (f + 30)])) _
    generalize L2.upd H dl (.lst [.int f, .int (f + 7), .int (f + 30)]) = H1 at s1 hD ⊢
    have hd : daysB (z.day - 1) [f, f + 7, f + 30] = true := daysB_cons.mpr ⟨⟨by omega, by omega⟩, daysB_cons.mpr ⟨⟨by omega, by omega⟩, daysB_cons.mpr ⟨⟨by omega, by omega⟩, rfl⟩⟩⟩
    have hne : ([f, f + 7, f + 30] : List Int) ≠ [] := fun y => by cases y
    have hln : ([f, f + 7, f + 30] : List Int).length = 3 := rfl
    have hhd : ([f, f + 7, f + 30] : List Int).headD 0 = f := rfl
    generalize ([f, f + 7, f + 30] : List Int) = ds at hD hd hne hln hhd
    have X1 := X0.same s1
    have t1 := s1 _ _ t0
    have R1 := R0.same s1
    refine ⟨_, rfl, tp, _, _, _, rfl, rfl, SqT.of t1, at0 rfl, _, _, rfl, rfl, dv, _, _, rfl, rfl, ?_⟩
    have p1 : 1 ≤ 1 + z.left / 2 := by omega
    show gName 5 (V.int (1 + z.left / 2)) _ _ _
    generalize 1 + z.left / 2 = part at p1 ⊢
    refine ⟨_, rfl, tp, _, _, _, rfl, rfl, SqT.of t1, at0 rfl, _, rfl, tp, _, _, _, rfl, rfl, SqT.of t1, at_of (j := 1) rfl rfl, _, _, rfl, ?_⟩
    have og : 0 ≤ owedF z.left z.begun := by
      unfold owedF
      omega
    have ebu : begunAt (vals us) z z.day = z.begun := begunAt_self _ _
    obtain ⟨now, en⟩ : ∃ now, owedF z.left z.begun = now := ⟨_, rfl⟩
    rw [en] at og
    show gName 6 (V.int (owedF z.left z.begun)) _ _ _
    rw [en]
    refine ⟨_, rfl, tp, _, _, _, rfl, rfl, SqT.of t1, at_of (j := 2) rfl rfl, _, rfl, _, _, rfl, szl 2, fun ep hep => ?_⟩
    obtain ⟨c, ec⟩ : ∃ c, (if now > 1 then now else 1) = c := ⟨_, rfl⟩
    show gName 7 (.ref ep) _ (L2.upd H1 ep (.tup [.int z.day, .int (if now > 1 then now else 1)])) _
    rw [ec]
    have s2 : Same H1 (L2.upd H1 ep (.tup [.int z.day, .int c])) := Same.new hep
    have e2 : (L2.upd H1 ep (.tup [.int z.day, .int c])) ep = some (.tup [.int z.day, .int c]) := upd_same
    generalize L2.upd H1 ep (.tup [.int z.day, .int c]) = H2 at s2 e2 ⊢
    refine ⟨szl 3, fun wl hwl => ?_⟩
    have s3 : Same H2 (L2.upd H2 wl (.lst [.str "plan", .str "least", .str "cost"])) := Same.new hwl
    have u3 : (L2.upd H2 wl (.lst [.str "plan", .str "least", .str "cost"])) wl = some (.lst [.str "plan", .str "least", .str "cost"]) := upd_same
    generalize L2.upd H2 wl (.lst [.str "plan", .str "least", .str "cost"]) = H3 at s3 u3 ⊢
    have s13 := s2.trans s3
    have X3 := X1.same s13
    have t3 := s13 _ _ t1
    have R3 := R1.same s13
    have hD3 := s13 _ _ hD
    have e3 := s3 _ _ e2
    have eo : z.day ≤ z.day → z.day ≤ 100000 → now = owedF z.left (begunAt (vals us) z z.day) := fun _ _ => by rw [ebu, en]
    have hw : ∀ w : Wd, (∃ v, v = w ∧ v ≠ Wd.sa) → dueK w z.day ds part z.day c now = "" := by
      intro w ⟨v, ev, nv⟩
      unfold dueK
      rw [if_neg (by rw [hd]; decide)]
      cases w with
      | pl => exact if_neg (by omega)
      | le => exact if_neg hne
      | co => exact (if_neg hne).trans (if_neg (by omega))
      | sa => exact absurd ev nv
    refine ⟨wl, rfl, ⟨_, SqL.of u3⟩, for_list (K := K) (a := wl) (xs := [.str "plan", .str "least", .str "cost"])
      (fun i σ H' => Same H3 H' ∧ ∃ v8 : Option V, σ = [some (.ref x), some (.ref tp), some (.ref lm), some (.int f), some (.ref dl), some (.int part), some (.int now), some (.ref ep), v8, none, none, none])
      ⟨Same.refl _, none, rfl⟩ (fun i σ H' _ ⟨s, _⟩ => SqL.of (s _ _ u3)) ?_ ?_⟩
    · rintro i v' σ H' hi ⟨s, v8, rfl⟩
      obtain ⟨w', rfl, hw2⟩ : ∃ w', v' = V.str (wdS w') ∧ dueK w' z.day ds part z.day c now = "" := by
        match i, hi with
        | 0, hi => exact ⟨.pl, (Option.some.inj hi).symm, hw _ ⟨.pl, rfl, fun y => by cases y⟩⟩
        | 1, hi => exact ⟨.le, (Option.some.inj hi).symm, hw _ ⟨.le, rfl, fun y => by cases y⟩⟩
        | 2, hi => exact ⟨.co, (Option.some.inj hi).symm, hw _ ⟨.co, rfl, fun y => by cases y⟩⟩
      refine ⟨_, rfl, _, rfl, _, rfl, _, rfl, _, rfl, w', x, dx, l, dl, ep, us, z, ds, part, z.day, c, now, rfl, X3.same s, SqL.of (s _ _ hD3), s _ _ e3, rokU, lok, by omega, eo, fun H4 s4 => ?_⟩
      rw [hw2]
      exact ⟨rfl, _, rfl, ifdn (fun n => absurd rfl n) fun _ => ⟨s.trans s4, _, rfl⟩⟩
    · rintro σ H' ⟨s, v8, rfl⟩
      have X4 := X3.same s
      refine ⟨_, rfl, _, rfl, _, rfl, _, rfl, .sa, x, dx, l, dl, ep, us, z, ds, part, z.day, c, now, rfl, X4, SqL.of (s _ _ hD3), s _ _ e3, rokU, lok, by omega, eo, fun H5 s5 => ?_⟩
      have es : dueK .sa z.day ds part z.day c now = (if (if decide (V.int now = V.int 0) = true then (1 : Int) else 0) = 0 then Str.empty else "pay") := by
        unfold dueK
        rw [if_neg (by rw [hd]; decide)]
        show (if ds = [] then ("day" : Str) else _) = _
        rw [if_neg hne, if_neg (by omega), if_neg (fun y => y ⟨Int.le_refl _, by rw [hhd]; exact f0⟩)]
        by_cases h0 : now = 0
        · rw [eqInt h0, if_pos rfl, if_neg (by decide : ¬ (1 : Int) = 0), if_pos (by rw [← ec]; split <;> omega)]
        · rw [decide_eq_false (show ¬ V.int now = V.int 0 from fun y => h0 (V.int.inj y)), if_neg Bool.false_ne_true, if_pos rfl, if_neg (fun y => y ⟨by rw [← ec]; split <;> omega, by rw [← ec]; split <;> omega⟩)]
          rfl
      refine ⟨_, rfl, rfl, .inr ⟨_, rfl, _, _, rfl, rfl, by split <;> simp, ?_⟩⟩
      rw [es]
      refine ⟨rfl, _, rfl, ifdn (fun n => absurd rfl n) fun _ => ?_⟩
      have s35 := s.trans s5
      refine ⟨_, rfl, _, rfl, _, rfl, _, rfl, tp, lm, dl, tm, z, ds, part, rfl, s35 _ _ t3, R3.same s35, SqL.of (s35 _ _ hD3), rok, lok, hd, by omega, fun p6 H6 s6 hp6 => ?_⟩
      refine ⟨p6, _, rfl, SqT.of hp6, rfl, _, _, rfl, _, _, rfl, rfl, ?_⟩
      have s36 := s35.trans s6
      have hdn : daysB (z.day - 1) ds = false ∨ ds = [] → False := fun n => by
        rcases n with n | n
        · exact absurd (n.symm.trans hd) (by decide)
        · exact absurd n hne
      have ecost := costF_behind (ps := vals tm) (part := part) (ds := ds) (z := z) (t := 0)
      rw [Int.zero_add] at ecost
      refine ⟨_, rfl, _, rfl, _, rfl, x, dx, l, dl, us, z, ds, part, rfl, X3.same s36, SqL.of (s36 _ _ hD3), rokU, lok, by omega, fun n => (hdn n).elim, fun _ _ n => absurd p1 (by omega), fun _ _ _ H7 s7 => ?_⟩
      refine ⟨_, rfl, _, rfl, _, _, rfl, rfl, rfl, _, rfl, if_ne (fun n => absurd (by rw [eu]; exact ecost.symm) n) fun _ => ?_⟩
      have s37 := s36.trans s7
      refine ⟨_, rfl, _, rfl, _, rfl, x, dx, l, dl, us, z, ds, part, rfl, X3.same s37, SqL.of (s37 _ _ hD3), rokU, lok, by omega, fun n => absurd (n.symm.trans hd) (by decide), fun _ n => absurd p1 (by omega), fun _ _ rl ps H8 s8 hrl P8 e8 => ?_⟩
      refine ⟨rl, _, rfl, .inl (SqL.of P8.lst), _, _, rfl, rfl, _, rfl, ifd (fun n => ?_) (fun _ => ?_)⟩
      · have n' : ((psV ps).length : Int) > 3 := n
        have hl := payAll_len (vals us) part ds z
        rw [← e8, psL_len] at hl
        rw [psV_len] at n'
        omega
      have s38 := s37.trans s8
      refine ⟨_, rfl, _, rfl, x, dx, l, dl, us, z, ds, rfl, X3.same s38, SqL.of (s38 _ _ hD3), rokU, lok, by omega, fun n => (hdn n).elim, fun _ _ n H9 s9 n0 n1 _ _ => ?_⟩
      rw [eu] at n1
      have s39 := s38.trans s9
      refine ⟨_, rfl, rfl, _, rfl, if_eq (fun _ => ?_) (fun _ => ?_)⟩
      · exact q _
      refine ⟨_, rfl, _, rfl, _, rfl, _, rfl, tp, lm, dl, tm, z, ds, n, rfl, s39 _ _ t3, R3.same s39, SqL.of (s39 _ _ hD3), rok, lok, hd, n0, fun p H10 s10 hp => ⟨p, _, _, _, rfl, rfl, SqT.of hp, at_of (j := 1) rfl rfl, rfl, ?_⟩⟩
      rw [eqInt ((behindS_eq (t := 0) rok.g n0 lok hd).1.trans n1)]
      exact q _

theorem ok_law {f : Addr} {fd : FuncData} (F : Fun K "law" "law" s_law f fd) (T : Txt K mg) (D_law_row_by : Df P w K mg base CX0 3 "_law_row_by" ["_law_cell", "_law_many", "_law_wide"] (sp_law_row_by T)) (D_law_cell_at : Df P w K mg base CX0 1 "_law_cell_at" ["_law_script", "_law_k"] (sp_law_cell_at T)) (D_law_loan_by : Df P w K mg base CX0 6 "_law_loan_by" ["_law_script", "_law_row"] (sp_law_loan_by T)) (D_law_days_by : Df P w K mg base CX0 2 "_law_days_by" ["_law_cell", "_law_at", "_law_many", "_law_wide"] (sp_law_days_by T)) (D_law_turned : Df P w K mg base CX0 1 "_law_turned" ["_law_days", "_law_at", "_law_cell"] (sp_law_turned T)) (D_law_owed : Df P w K mg base CX0 1 "_law_owed" ["_law_left", "_law_begun"] (sp_law_owed T)) (D_law_sum_by : Df P w K mg base CX0 1 "_law_sum_by" ["_law_row", "_law_start", "_law_end"] (sp_law_sum_by T)) (D_law_asked : Df P w K mg base CX0 8 "_law_asked" ["_law_word", "_law_loan", "_law_days", "_law_part", "_law_early"] (sp_law_asked T)) (D_law_due : Df P w K mg base CX0 2 "_law_due" ["_law_word", "_law_days", "_law_at", "_law_part", "_law_early", "_law_owed_here"] (sp_law_due T)) (D_law_good_then : Df P w K mg base CX0 9 "_law_good_then" ["_law_loan", "_law_stood", "_law_row", "_law_first"] (sp_law_good_then T)) :
    FnOk P w K mg base CX0 10 f fd ["_law_script"] (sp_law K) := by
  refine F.ok sc_law (fun vs H Q E h => ?_) (fun cdv A outer s H vs Q E hr h => ?_)
  · obtain ⟨a, ns, rfl, _⟩ := h
    rfl
  · obtain ⟨a, ns, rfl, hS, hlen, k⟩ := h
    refine ⟨_, (pss_cons (ps_set (i := 1) sc_law.nd rfl (Or.inl rfl) (pc0 D_law_row_by hr (pa_cons (pc0 D_law_cell_at hr (pa_cons (pv 0) (pa_cons pe_int pa_nil))) (pa_cons (pe_op op_add pe_int (pe_op op_mod (pc0 D_law_cell_at hr (pa_cons (pv 0) (pa_cons pe_int pa_nil))) pe_int)) (pa_cons pe_int pa_nil)))))
            (pss_cons (ps_asg (pc0 D_law_loan_by hr (pa_cons (pv 0) (pa_cons (pv 1) pa_nil))) (pg_tup rfl (pgs_cons (pg_name (i := 2) sc_law.nd rfl (Or.inl rfl)) (pgs_cons (pg_name (i := 3) sc_law.nd rfl (Or.inl rfl)) (pgs_cons (pg_name (i := 1) sc_law.nd rfl (Or.inl rfl)) pgs_nil)))))
            (pss_cons (ps_asg (pv 3) (pg_tup rfl (pgs_cons (pg_name (i := 4) sc_law.nd rfl (Or.inl rfl)) (pgs_cons (pg_name (i := 5) sc_law.nd rfl (Or.inl rfl)) (pgs_cons (pg_name (i := 6) sc_law.nd rfl (Or.inl rfl)) pgs_nil)))))
            (pss_cons (ps_set (i := 7) sc_law.nd rfl (Or.inl rfl) (pc0 D_law_days_by hr (pa_cons (pc0 D_law_cell_at hr (pa_cons (pv 0) (pa_cons pe_int pa_nil))) (pa_cons (pv 6) (pa_cons (pe_op op_mod (pc0 D_law_cell_at hr (pa_cons (pv 0) (pa_cons pe_int pa_nil))) pe_int) (pa_cons pe_int pa_nil))))))
            (pss_cons (ps_set (i := 7) sc_law.nd rfl (Or.inl rfl) (pc0 D_law_turned hr (pa_cons (pv 7) (pa_cons (pv 6) (pa_cons (pc0 D_law_cell_at hr (pa_cons (pv 0) (pa_cons pe_int pa_nil))) pa_nil)))))
            (pss_cons (ps_set (i := 8) sc_law.nd rfl (Or.inl rfl) (pe_ix ix_list (pe_lst (pa_cons pe_int (pa_cons (pe_op op_sub (pe_un un_neg pe_int) (pv 4)) (pa_cons pe_int (pa_cons (pe_op op_add pe_int (pv 4)) pa_nil))))) (pe_op op_mod (pc0 D_law_cell_at hr (pa_cons (pv 0) (pa_cons pe_int pa_nil))) pe_int) (fun _ _ => rfl)))
            (Evl.pss_cut (ps_if (pt_cmpR op_eq (pe_op op_mod (pe_op op_fdiv (pc0 D_law_cell_at hr (pa_cons (pv 0) (pa_cons pe_int pa_nil))) pe_int) pe_int) pe_int (nomark _)) (pss_one (ps_set (i := 8) sc_law.nd rfl (Or.inl rfl) (pe_op op_add pe_int (pe_op op_fdiv (pv 4) pe_int)))) pss_nil)
            (pss_cons (ps_set (i := 9) sc_law.nd rfl (Or.inl rfl) (pe_op op_sub (pe_op op_add (pv 6) (pe_op op_mod (pc0 D_law_cell_at hr (pa_cons (pv 0) (pa_cons pe_int pa_nil))) pe_int)) pe_int))
            (Evl.pss_cut (ps_if (pt_cmpR op_gt (pe_callB call_len_seq (by rfl) T.b_len PySem.boot_len (pa_cons (pv 7) pa_nil)) pe_int (nomark _)) (pss_one (ps_set (i := 9) sc_law.nd rfl (Or.inl rfl) (pe_ix ix_list (pe_lst (pa_cons (pe_op op_sub (pv 6) pe_int) (pa_cons (pv 6) (pa_cons (pe_ix ix_list (pv 7) pe_int (fun _ _ => rfl)) (pa_cons (pe_op op_add (pe_ix ix_list (pv 7) pe_int (fun _ _ => rfl)) pe_int) (pa_cons pe_int pa_nil)))))) (pe_op op_mod (pc0 D_law_cell_at hr (pa_cons (pv 0) (pa_cons pe_int pa_nil))) pe_int) (fun _ _ => rfl)))) pss_nil)
            (pss_cons (ps_set (i := 10) sc_law.nd rfl (Or.inl rfl) (pv 4))
            (Evl.pss_cut (ps_if (pt_chain op_le op_le (pv 6) (pv 9) pe_int) (pss_one (ps_set (i := 10) sc_law.nd rfl (Or.inl rfl) (pc0 D_law_owed hr (pa_cons (pv 4) (pa_cons (pe_op op_add (pv 5) (pe_op op_mulX (pv 4) (pc0 D_law_sum_by hr (pa_cons (pv 1) (pa_cons (pv 6) (pa_cons (pv 9) pa_nil)))))) pa_nil))))) pss_nil)
            (pss_cons (ps_set (i := 11) sc_law.nd rfl (Or.inl rfl) (pe_tup (pa_cons (pv 9) (pa_cons (pe_ix ix_list (pe_lst (pa_cons pe_int (pa_cons (pe_un un_neg pe_int) (pa_cons pe_int (pa_cons (pv 10) (pa_cons (pe_op op_add (pv 10) pe_int) (pa_cons (pe_op op_add pe_int (pe_op op_fdiv (pv 10) pe_int)) pa_nil))))))) (pe_op op_mod (pc0 D_law_cell_at hr (pa_cons (pv 0) (pa_cons pe_int pa_nil))) pe_int) (fun _ _ => rfl)) pa_nil))))
            (pss_cons (ps_set (i := 12) sc_law.nd rfl (Or.inl rfl) (pe_callTy call_list_of (by rfl) T.b_list (by decide +kernel) (pa_cons (pv 7) pa_nil)))
            (pss_cons (ps_set (i := 13) sc_law.nd rfl (Or.inl rfl) (pe_lst (pa_cons pe_str (pa_cons pe_str (pa_cons pe_str (pa_cons pe_str pa_nil))))))
            (Evl.pss_cut (ps_if (pt_cmpR op_eq (pe_op op_mod (pe_op op_fdiv (pc0 D_law_cell_at hr (pa_cons (pv 0) (pa_cons pe_int pa_nil))) pe_int) pe_int) pe_int (nomark _)) (pss_one (ps_set (i := 13) sc_law.nd rfl (Or.inl rfl) (pe_revL (pv 13)))) pss_nil)
            (pss_cons (ps_for PassesOwn.never rfl (pi_list (pv 13)) (pg_name (i := 14) sc_law.nd rfl (Or.inl rfl)) (pss_one (ps_if (pt_cmpR op_ne (pc0 D_law_asked hr (pa_cons (pv 14) (pa_cons (pv 2) (pa_cons (pv 12) (pa_cons (pv 8) (pa_cons (pv 11) pa_nil)))))) (pc0 D_law_due hr (pa_cons (pv 14) (pa_cons (pv 7) (pa_cons (pv 6) (pa_cons (pv 8) (pa_cons (pv 11) (pa_cons (pv 10) pa_nil))))))) (nomark _)) (pss_one (ps_ret pe_bl)) pss_nil)))
            (pss_cons (ps_if (PW.pt (pw_or (pt_cmpR (op_neD hr.units) (pv 12) (pv 7) (nomark _)) (pw_or1 (pt_cmpR (op_neD hr.units) (pe_fld (pv 2) rfl) (pv 1) (nomark _))))) (pss_one (ps_ret pe_bl)) pss_nil)
            (pss_cons (ps_if (pt_cmpR (op_neD hr.units) (pe_tup (pa_cons (pe_fld (pv 2) rfl) (pa_cons (pe_fld (pv 2) rfl) (pa_cons (pe_fld (pv 2) rfl) pa_nil)))) (pv 3) (nomark _)) (pss_one (ps_ret pe_bl)) pss_nil)
            (pss_one (ps_ret (pc0 D_law_good_then hr (pa_cons (pv 2) (pa_cons (pv 3) (pa_cons (pv 1) (pa_cons (pe_op op_add (pv 6) (pe_op op_mod (pc0 D_law_cell_at hr (pa_cons (pv 0) (pa_cons pe_int pa_nil))) pe_int)) pa_nil))))))))))))))))))))))))), ?_⟩
    refine ⟨_, rfl, a, ns, _, rfl, hS, by decide, _, rfl, a, ns, _, rfl, hS, by decide, _, _, rfl, rfl, md, _, _, rfl, rfl, _, _, _, rfl, by omega, by omega, by decide, fun lr ts H1 s1 hlr R1 er => ?_⟩
    have m0 : 0 ≤ cellAt ns 1 % 3 ∧ cellAt ns 1 % 3 < 3 := by omega
    generalize cellAt ns 1 % 3 = m at m0 er ⊢
    have g : Good (vals ts) := by rw [er]; exact rowBy_good (by decide)
    have len : (vals ts).length = (1 + m).toNat := by rw [er]; exact rowBy_len (by omega)
    have last1 : lastDay (vals ts) ≤ 18 := by
      have h1 : lastDay (vals ts) ≤ (1 + m - 1) * 9 := by rw [er]; exact rowBy_last (by decide) (by omega)
      omega
    have rok1 : Rok (vals ts) := ⟨g, by omega, by omega⟩
    have l1 : ts.length ≤ 60 := by rw [← vals_len]; omega
    clear er
    refine ⟨_, rfl, _, rfl, a, lr, ns, ts, rfl, s1.seq hS, R1, rok1, l1, by omega, fun p x dx l tp lm us tm z H2 s2 nx1 nl1 X2 t2 R2 eu rok lok z3 ltm nlm last hp => ?_⟩
    have s12 := s1.trans s2
    have rokU : Rok (vals us) := by rw [eu]; exact rok
    have hz0 := lok.d0
    have hl0 := lok.l0
    have hl1 := lok.l1
    refine ⟨p, _, rfl, SqT.of hp, rfl, _, _, rfl, _, _, rfl, _, _, rfl, rfl, ?_⟩
    refine ⟨_, rfl, tp, _, rfl, SqT.of t2, rfl, _, _, rfl, _, _, rfl, _, _, rfl, rfl, ?_⟩
    have hS2 := s12.seq hS
    refine ⟨_, rfl, a, ns, _, rfl, hS2, by decide, _, rfl, _, rfl, a, ns, _, rfl, hS2, by decide, _, _, rfl, rfl, md, _, _, _, _, rfl, hz0, by omega, by omega, by decide, by omega, by omega, fun d1 ds1 H3 s3 hd1 hD1 hdd hn => ?_⟩
    have hS3 := s3.seq hS2
    refine ⟨_, rfl, _, rfl, _, rfl, a, ns, _, rfl, hS3, by decide, d1, ds1, _, _, rfl, hD1, by omega, fun dl ds H4 s4 hD hn2 => ?_⟩
    have s34 := s3.trans s4
    have X4 := X2.same s34
    have t4 := s34 _ _ t2
    have R4 := R2.same s34
    have hS4 := s4.seq hS3
    clear X2 t2 R2 hS2 hS3 hD1 hd1 hdd s3 s4 hp s1 s2 R1
    -- the part
    refine ⟨_, rfl, _, rfl, _, _, rfl, rfl, _, rfl, _, _, rfl, rfl, szl 4, fun p4 h4 => ?_⟩
    have s5 : Same H4 (L2.upd H4 p4 (.lst [.int 0, .int (-1 - z.left), .int 1, .int (1 + z.left)])) := Same.new h4
    obtain ⟨j, ej⟩ : ∃ j : Nat, cellAt ns 7 % 4 = (j : Int) := ⟨(cellAt ns 7 % 4).toNat, by omega⟩
    obtain ⟨v, hv⟩ := get_of (l := ([0, -1 - z.left, 1, 1 + z.left] : List Int)) (j := j) (by show j < 4; omega)
    refine ⟨_, rfl, a, ns, _, rfl, s5.seq hS4, by decide, _, _, rfl, rfl, md, p4, _, _, _, rfl, rfl, SqL.of upd_same, at_m (f := V.int) (l := [0, -1 - z.left, 1, 1 + z.left]) ej hv, ?_⟩
    show gName 8 (.int v) _ (L2.upd H4 p4 (.lst [.int 0, .int (-1 - z.left), .int 1, .int (1 + z.left)])) _
    generalize L2.upd H4 p4 (.lst [.int 0, .int (-1 - z.left), .int 1, .int (1 + z.left)]) = H5 at s5 ⊢
    have X5 := X4.same s5
    have t5 := s5 _ _ t4
    have R5 := R4.same s5
    have hS5 := s5.seq hS4
    have hD5 := s5 _ _ hD
    clear X4 t4 R4 hS4 hD h4 s5 hv ej
    refine ⟨fun σ H' => H' = H5 ∧ ∃ part, σ = [some (.ref a), some (.ref lm), some (.ref x), some (.ref tp), some (.int z.left), some (.int z.begun), some (.int z.day), some (.ref dl), some (.int part), none, none, none, none, none, none], ?_, ?_⟩
    · refine ⟨_, rfl, a, ns, _, rfl, hS5, by decide, _, _, rfl, rfl, dv, _, _, rfl, rfl, md, rfl, _, rfl, if_eq (fun _ => ?_) (fun _ => ⟨rfl, _, rfl⟩)⟩
      exact ⟨_, rfl, _, _, rfl, rfl, dv, _, _, rfl, rfl, rfl, _, rfl⟩
    rintro σ H' ⟨rfl, part, rfl⟩
    -- the early day
    refine ⟨_, rfl, _, rfl, a, ns, _, rfl, hS5, by decide, _, _, rfl, rfl, md, _, _, rfl, rfl, _, _, rfl, rfl, ?_⟩
    refine ⟨fun σ H6 => Same H' H6 ∧ ∃ e, σ = [some (.ref a), some (.ref lm), some (.ref x), some (.ref tp), some (.int z.left), some (.int z.begun), some (.int z.day), some (.ref dl), some (.int part), some (.int e), none, none, none, none, none], ?_, ?_⟩
    · refine ⟨_, rfl, dl, _, rfl, .inl (SqL.of hD5), _, _, rfl, rfl, _, rfl, ifd (fun c => ?_) (fun _ => ⟨Same.refl _, _, rfl⟩)⟩
      cases eds : ds with
      | nil => rw [eds] at c; exact absurd c (by decide)
      | cons d0 r =>
        rw [eds] at hD5
        refine ⟨_, rfl, _, _, rfl, rfl, _, rfl, _, rfl, dl, _, _, _, rfl, rfl, SqL.of hD5, at0 rfl, _, rfl, dl, _, _, _, rfl, rfl, SqL.of hD5, at0 rfl, _, _, rfl, rfl, szl 5, fun p6 h6 => ?_⟩
        have s6 := Same.new (o := .lst [.int (z.day - 1), .int z.day, .int d0, .int (d0 + 1), .int 100001]) h6
        obtain ⟨j, ej⟩ : ∃ j : Nat, cellAt ns 8 % 5 = (j : Int) := ⟨(cellAt ns 8 % 5).toNat, by omega⟩
        obtain ⟨v, hv⟩ := get_of (l := ([z.day - 1, z.day, d0, d0 + 1, 100001] : List Int)) (j := j) (by show j < 5; omega)
        exact ⟨_, rfl, a, ns, _, rfl, s6.seq hS5, by decide, _, _, rfl, rfl, md, p6, _, _, _, rfl, rfl, SqL.of upd_same, at_m (f := V.int) (l := [z.day - 1, z.day, d0, d0 + 1, 100001]) ej hv, s6, _, rfl⟩
    rintro σ H6 ⟨s6, e, rfl⟩
    have X6 := X5.same s6
    have t6 := s6 _ _ t5
    have R6 := R5.same s6
    have hS6 := s6.seq hS5
    have hD6 := s6 _ _ hD5
    clear X5 t5 R5 hS5 hD5 s6
    refine ⟨_, rfl, ?_⟩
    refine ⟨fun σ H7 => H7 = H6 ∧ ∃ o, (z.day ≤ e → e ≤ 100000 → o = owedF z.left (begunAt (vals tm) z e)) ∧ σ = [some (.ref a), some (.ref lm), some (.ref x), some (.ref tp), some (.int z.left), some (.int z.begun), some (.int z.day), some (.ref dl), some (.int part), some (.int e), some (.int o), none, none, none, none], ?_, ?_⟩
    · refine ⟨_, rfl, _, rfl, _, _, rfl, rfl, _, rfl, ifd (fun c1 => ?_) (fun c1 => ?_)⟩
      · have c1' : z.day ≤ e := c1
        refine ⟨_, _, rfl, rfl, _, rfl, ifd (fun c2 => ?_) (fun c2 => ⟨rfl, _, fun _ y => absurd y c2, rfl⟩)⟩
        have c2' : e ≤ 100000 := c2
        exact ⟨_, rfl, _, rfl, _, rfl, _, rfl, _, rfl, _, rfl, lm, tm, _, _, rfl, R6, by omega, rok.g, hz0, c1', _, _, rfl, rfl, IntMulOk.of_left (PySem.intBits_le_64 (by omega) (by omega)), _, _, rfl, rfl, _, _, rfl, rfl, _, fun _ _ => rfl, rfl⟩
      · exact ⟨_, rfl, rfl, _, fun y _ => absurd y c1, rfl⟩
    rintro σ H7 ⟨rfl, o, eo, rfl⟩
    -- the early cents
    refine ⟨_, rfl, _, rfl, _, rfl, _, rfl, _, _, rfl, rfl, _, rfl, _, _, rfl, rfl, dv, _, _, rfl, rfl, szl 6, fun p7 h7 => ?_⟩
    have s7 : Same H7 (L2.upd H7 p7 (.lst [.int 0, .int (-5), .int 1, .int o, .int (o + 1), .int (1 + o / 2)])) := Same.new h7
    obtain ⟨j, ej⟩ : ∃ j : Nat, cellAt ns 9 % 6 = (j : Int) := ⟨(cellAt ns 9 % 6).toNat, by omega⟩
    obtain ⟨c, hc⟩ := get_of (l := ([0, -5, 1, o, o + 1, 1 + o / 2] : List Int)) (j := j) (by show j < 6; omega)
    refine ⟨_, rfl, a, ns, _, rfl, s7.seq hS6, by decide, _, _, rfl, rfl, md, p7, _, _, _, rfl, rfl, SqL.of upd_same, at_m (f := V.int) (l := [0, -5, 1, o, o + 1, 1 + o / 2]) ej hc, szl 2, fun ep hep => ?_⟩
    have s8 : Same (L2.upd H7 p7 (.lst [.int 0, .int (-5), .int 1, .int o, .int (o + 1), .int (1 + o / 2)])) (L2.upd (L2.upd H7 p7 (.lst [.int 0, .int (-5), .int 1, .int o, .int (o + 1), .int (1 + o / 2)])) ep (.tup [.int e, .int c])) := Same.new hep
    have e8 : (L2.upd (L2.upd H7 p7 (.lst [.int 0, .int (-5), .int 1, .int o, .int (o + 1), .int (1 + o / 2)])) ep (.tup [.int e, .int c])) ep = some (.tup [.int e, .int c]) := upd_same
    show gName 11 (.ref ep) _ (L2.upd (L2.upd H7 p7 (.lst [.int 0, .int (-5), .int 1, .int o, .int (o + 1), .int (1 + o / 2)])) ep (.tup [.int e, .int c])) _
    have s78 := s7.trans s8
    generalize L2.upd (L2.upd H7 p7 (.lst [.int 0, .int (-5), .int 1, .int o, .int (o + 1), .int (1 + o / 2)])) ep (.tup [.int e, .int c]) = H8 at s78 e8 ⊢
    have X8 := X6.same s78
    have t8 := s78 _ _ t6
    have R8 := R6.same s78
    have hS8 := s78.seq hS6
    have hD8 := s78 _ _ hD6
    clear X6 t6 R6 hS6 hD6 s78 s8 s7 hc ej h7 hep
    refine ⟨_, rfl, dl, _, rfl, .inl (SqL.of hD8), fun hl hhl => ?_⟩
    have s9 : Same H8 (L2.upd H8 hl (.lst (ds.map V.int))) := Same.new hhl
    have hL9 : (L2.upd H8 hl (.lst (ds.map V.int))) hl = some (.lst (ds.map V.int)) := upd_same
    show gName 12 (.ref hl) _ (L2.upd H8 hl (.lst (ds.map V.int))) _
    generalize L2.upd H8 hl (.lst (ds.map V.int)) = H9 at s9 hL9 ⊢
    refine ⟨szl 4, fun wl hwl => ?_⟩
    have s10 : Same H9 (L2.upd H9 wl (.lst [.str "plan", .str "least", .str "cost", .str "saved"])) := Same.new hwl
    have u10 : (L2.upd H9 wl (.lst [.str "plan", .str "least", .str "cost", .str "saved"])) wl = some (.lst (([.pl, .le, .co, .sa] : List Wd).map fun w => V.str (wdS w))) := upd_same
    show gName 13 (.ref wl) _ (L2.upd H9 wl (.lst [.str "plan", .str "least", .str "cost", .str "saved"])) _
    generalize L2.upd H9 wl (.lst [.str "plan", .str "least", .str "cost", .str "saved"]) = H10 at s10 u10 ⊢
    have s810 := s9.trans s10
    have hS10 := s810.seq hS8
    refine ⟨fun σ H' => Same H10 H' ∧ ∃ (wl : Addr) (ws : List Wd), H' wl = some (.lst (ws.map fun w => V.str (wdS w))) ∧ σ = [some (.ref a), some (.ref lm), some (.ref x), some (.ref tp), some (.int z.left), some (.int z.begun), some (.int z.day), some (.ref dl), some (.int part), some (.int e), some (.int o), some (.ref ep), some (.ref hl), some (.ref wl), none], ?_, ?_⟩
    · refine ⟨_, rfl, a, ns, _, rfl, hS10, by decide, _, _, rfl, rfl, dv, _, _, rfl, rfl, md, rfl, _, rfl, if_eq (fun _ => ?_) (fun _ => ⟨Same.refl _, wl, _, u10, rfl⟩)⟩
      exact ⟨_, rfl, wl, _, rfl, SqL.of u10, fun wr hwr => ⟨Same.new hwr, wr, [.sa, .co, .le, .pl], upd_same, rfl⟩⟩
    clear u10 hwl
    rintro σ H11 ⟨s11, wl, ws, u11, rfl⟩
    have s911 := s10.trans s11
    have s811 := s9.trans s911
    have X11 := X8.same s811
    have t11 := s811 _ _ t8
    have R11 := R8.same s811
    have hS11 := s811.seq hS8
    have hD11 := s811 _ _ hD8
    have e11 := s811 _ _ e8
    have hL11 := s911 _ _ hL9
    clear X8 t8 R8 hS8 hD8 e8 hL9 hS10 s810 s811 s911 s9 s10 s11 hhl
    refine ⟨_, rfl, wl, rfl, ⟨_, SqL.of u11⟩, for_list (K := K) (a := wl) (xs := ws.map fun w => V.str (wdS w))
      (fun i σ H' => Same H11 H' ∧ ∃ v14 : Option V, σ = [some (.ref a), some (.ref lm), some (.ref x), some (.ref tp), some (.int z.left), some (.int z.begun), some (.int z.day), some (.ref dl), some (.int part), some (.int e), some (.int o), some (.ref ep), some (.ref hl), some (.ref wl), v14])
      ⟨Same.refl _, none, rfl⟩ (fun i σ H' _ ⟨s, _⟩ => SqL.of (s _ _ u11)) ?_ ?_⟩
    · rintro i v' σ H' hi ⟨s, v14, rfl⟩
      obtain ⟨w', hw', rfl⟩ := map_get hi
      refine ⟨_, rfl, _, rfl, _, rfl, _, rfl, _, rfl, w', x, dx, l, hl, ep, us, z, ds, part, e, c, o, rfl, X11.same s, SqL.of (s _ _ hL11), s _ _ e11, rokU, lok, by omega, by rw [eu]; exact eo, fun H4 s4 => ?_⟩
      have s' := s.trans s4
      exact ⟨_, rfl, _, rfl, _, rfl, _, rfl, _, rfl, _, rfl, w', dl, ep, ds, z.day, part, e, c, o, rfl, SqL.of (s' _ _ hD11), s' _ _ e11, rfl, _, rfl, ifdn (fun n => absurd rfl n) fun _ => ⟨s', _, rfl⟩⟩
    · rintro σ H' ⟨s, v14, rfl⟩
      have X12 := X11.same s
      have R12 := R11.same s
      refine ⟨_, rfl, _, rfl, ints_ne (SqL.of (s _ _ hL11)) (SqL.of (s _ _ hD11)) ⟨_, rfl, iteF ?_⟩⟩
      refine ⟨_, rfl, x, _, dx, _, _, rfl, X12.ob, T.cl_Loan, T.n_Loan_rates, lf_rates _ _, _, rfl, row_ne X12.row R12 eu ⟨_, rfl, iteF ?_⟩⟩
      refine ⟨_, rfl, x, _, dx, _, _, rfl, X12.ob, T.cl_Loan, T.n_Loan_left, lf_left _ _, _, rfl, x, _, dx, _, _, rfl, X12.ob, T.cl_Loan, T.n_Loan_begun, lf_begun _ _, _, rfl, x, _, dx, _, _, rfl, X12.ob, T.cl_Loan, T.n_Loan_day, lf_day _ _, szl 3, fun q1 g1 => ?_⟩
      have s13 : Same H' (L2.upd H' q1 (.tup [.int z.left, .int z.begun, .int z.day])) := Same.new g1
      have t12 := s _ _ t11
      refine ⟨_, rfl, tups_ne (l := [z.left, z.begun, z.day]) (SqT.of upd_same) (SqT.of (s13 _ _ t12)) ⟨_, rfl, iteF ?_⟩⟩
      refine ⟨_, rfl, _, rfl, _, rfl, _, rfl, _, rfl, a, ns, _, rfl, (s.trans s13).seq hS11, by decide, _, _, rfl, rfl, md, _, _, rfl, rfl, x, dx, l, tp, lm, us, tm, z, _, rfl, X12.same s13, s13 _ _ t12, R12.same s13, eu, rok, lok, by omega, by omega, fun H' => k _⟩

end
theorem all_mk {l : PySem.W.OpenLaw} {w : World} {K : PySem.W.Frag} {h : Heap} {mg : Str → Option Value} (X : K.In h) (G : h.Ns mainGlobals mg) {fa a_LoanError a_BadAmount a_BadRate a_BadDay a_BadPay a_Loan f_need_rate f_checked f_grown f_need_days f_need_some f_need_part f_rows_of f_plan f_settles f_least_part f_whole_cost f_cost f_saved f_need_amount f_Loan_init f_Loan_stand f_Loan_owed f_Loan_pay f_Loan_change f_Loan_twin f_law_cell_at f_law_mixed f_law_rate_by f_law_row_by f_law_sum_by f_law_amount_by f_law_owed f_law_parts f_law_days_by f_law_at_by f_law_made f_law_loan_by f_law_turned f_law_days_good f_law_asked f_law_due f_law_behind f_law_good_then f_law : Addr}
    {od_need_rate an_need_rate : Option Addr} {sl_need_rate : Array (Option Value)} {oc_need_rate kV_need_rate dc_need_rate pm_need_rate cd_need_rate ct_need_rate : Value}
    {od_checked an_checked : Option Addr} {sl_checked : Array (Option Value)} {oc_checked kV_checked dc_checked pm_checked cd_checked ct_checked : Value}
    {od_grown an_grown : Option Addr} {sl_grown : Array (Option Value)} {oc_grown kV_grown dc_grown pm_grown cd_grown ct_grown : Value}
    {od_need_days an_need_days : Option Addr} {sl_need_days : Array (Option Value)} {oc_need_days kV_need_days dc_need_days pm_need_days cd_need_days ct_need_days : Value}
    {od_need_some an_need_some : Option Addr} {sl_need_some : Array (Option Value)} {oc_need_some kV_need_some dc_need_some pm_need_some cd_need_some ct_need_some : Value}
    {od_need_part an_need_part : Option Addr} {sl_need_part : Array (Option Value)} {oc_need_part kV_need_part dc_need_part pm_need_part cd_need_part ct_need_part : Value}
    {od_rows_of an_rows_of : Option Addr} {sl_rows_of : Array (Option Value)} {oc_rows_of kV_rows_of dc_rows_of pm_rows_of cd_rows_of ct_rows_of : Value}
    {od_plan an_plan : Option Addr} {sl_plan : Array (Option Value)} {oc_plan kV_plan dc_plan pm_plan cd_plan ct_plan : Value}
    {od_settles an_settles : Option Addr} {sl_settles : Array (Option Value)} {oc_settles kV_settles dc_settles pm_settles cd_settles ct_settles : Value}
    {od_least_part an_least_part : Option Addr} {sl_least_part : Array (Option Value)} {oc_least_part kV_least_part dc_least_part pm_least_part cd_least_part ct_least_part : Value}
    {od_whole_cost an_whole_cost : Option Addr} {sl_whole_cost : Array (Option Value)} {oc_whole_cost kV_whole_cost dc_whole_cost pm_whole_cost cd_whole_cost ct_whole_cost : Value}
    {od_cost an_cost : Option Addr} {sl_cost : Array (Option Value)} {oc_cost kV_cost dc_cost pm_cost cd_cost ct_cost : Value}
    {od_saved an_saved : Option Addr} {sl_saved : Array (Option Value)} {oc_saved kV_saved dc_saved pm_saved cd_saved ct_saved : Value}
    {od_need_amount an_need_amount : Option Addr} {sl_need_amount : Array (Option Value)} {oc_need_amount kV_need_amount dc_need_amount pm_need_amount cd_need_amount ct_need_amount : Value}
    {od_Loan_init an_Loan_init : Option Addr} {sl_Loan_init : Array (Option Value)} {oc_Loan_init kV_Loan_init dc_Loan_init pm_Loan_init cd_Loan_init ct_Loan_init : Value}
    {od_Loan_stand an_Loan_stand : Option Addr} {sl_Loan_stand : Array (Option Value)} {oc_Loan_stand kV_Loan_stand dc_Loan_stand pm_Loan_stand cd_Loan_stand ct_Loan_stand : Value}
    {od_Loan_owed an_Loan_owed : Option Addr} {sl_Loan_owed : Array (Option Value)} {oc_Loan_owed kV_Loan_owed dc_Loan_owed pm_Loan_owed cd_Loan_owed ct_Loan_owed : Value}
    {od_Loan_pay an_Loan_pay : Option Addr} {sl_Loan_pay : Array (Option Value)} {oc_Loan_pay kV_Loan_pay dc_Loan_pay pm_Loan_pay cd_Loan_pay ct_Loan_pay : Value}
    {od_Loan_change an_Loan_change : Option Addr} {sl_Loan_change : Array (Option Value)} {oc_Loan_change kV_Loan_change dc_Loan_change pm_Loan_change cd_Loan_change ct_Loan_change : Value}
    {od_Loan_twin an_Loan_twin : Option Addr} {sl_Loan_twin : Array (Option Value)} {oc_Loan_twin kV_Loan_twin dc_Loan_twin pm_Loan_twin cd_Loan_twin ct_Loan_twin : Value}
    {od_law_cell_at an_law_cell_at : Option Addr} {sl_law_cell_at : Array (Option Value)} {oc_law_cell_at kV_law_cell_at dc_law_cell_at pm_law_cell_at cd_law_cell_at ct_law_cell_at : Value}
    {od_law_mixed an_law_mixed : Option Addr} {sl_law_mixed : Array (Option Value)} {oc_law_mixed kV_law_mixed dc_law_mixed pm_law_mixed cd_law_mixed ct_law_mixed : Value}
    {od_law_rate_by an_law_rate_by : Option Addr} {sl_law_rate_by : Array (Option Value)} {oc_law_rate_by kV_law_rate_by dc_law_rate_by pm_law_rate_by cd_law_rate_by ct_law_rate_by : Value}
    {od_law_row_by an_law_row_by : Option Addr} {sl_law_row_by : Array (Option Value)} {oc_law_row_by kV_law_row_by dc_law_row_by pm_law_row_by cd_law_row_by ct_law_row_by : Value}
    {od_law_sum_by an_law_sum_by : Option Addr} {sl_law_sum_by : Array (Option Value)} {oc_law_sum_by kV_law_sum_by dc_law_sum_by pm_law_sum_by cd_law_sum_by ct_law_sum_by : Value}
    {od_law_amount_by an_law_amount_by : Option Addr} {sl_law_amount_by : Array (Option Value)} {oc_law_amount_by kV_law_amount_by dc_law_amount_by pm_law_amount_by cd_law_amount_by ct_law_amount_by : Value}
    {od_law_owed an_law_owed : Option Addr} {sl_law_owed : Array (Option Value)} {oc_law_owed kV_law_owed dc_law_owed pm_law_owed cd_law_owed ct_law_owed : Value}
    {od_law_parts an_law_parts : Option Addr} {sl_law_parts : Array (Option Value)} {oc_law_parts kV_law_parts dc_law_parts pm_law_parts cd_law_parts ct_law_parts : Value}
    {od_law_days_by an_law_days_by : Option Addr} {sl_law_days_by : Array (Option Value)} {oc_law_days_by kV_law_days_by dc_law_days_by pm_law_days_by cd_law_days_by ct_law_days_by : Value}
    {od_law_at_by an_law_at_by : Option Addr} {sl_law_at_by : Array (Option Value)} {oc_law_at_by kV_law_at_by dc_law_at_by pm_law_at_by cd_law_at_by ct_law_at_by : Value}
    {od_law_made an_law_made : Option Addr} {sl_law_made : Array (Option Value)} {oc_law_made kV_law_made dc_law_made pm_law_made cd_law_made ct_law_made : Value}
    {od_law_loan_by an_law_loan_by : Option Addr} {sl_law_loan_by : Array (Option Value)} {oc_law_loan_by kV_law_loan_by dc_law_loan_by pm_law_loan_by cd_law_loan_by ct_law_loan_by : Value}
    {od_law_turned an_law_turned : Option Addr} {sl_law_turned : Array (Option Value)} {oc_law_turned kV_law_turned dc_law_turned pm_law_turned cd_law_turned ct_law_turned : Value}
    {od_law_days_good an_law_days_good : Option Addr} {sl_law_days_good : Array (Option Value)} {oc_law_days_good kV_law_days_good dc_law_days_good pm_law_days_good cd_law_days_good ct_law_days_good : Value}
    {od_law_asked an_law_asked : Option Addr} {sl_law_asked : Array (Option Value)} {oc_law_asked kV_law_asked dc_law_asked pm_law_asked cd_law_asked ct_law_asked : Value}
    {od_law_due an_law_due : Option Addr} {sl_law_due : Array (Option Value)} {oc_law_due kV_law_due dc_law_due pm_law_due cd_law_due ct_law_due : Value}
    {od_law_behind an_law_behind : Option Addr} {sl_law_behind : Array (Option Value)} {oc_law_behind kV_law_behind dc_law_behind pm_law_behind cd_law_behind ct_law_behind : Value}
    {od_law_good_then an_law_good_then : Option Addr} {sl_law_good_then : Array (Option Value)} {oc_law_good_then kV_law_good_then dc_law_good_then pm_law_good_then cd_law_good_then ct_law_good_then : Value}
    {od_law an_law : Option Addr} {sl_law : Array (Option Value)} {oc_law kV_law dc_law pm_law cd_law ct_law : Value}
    {tk_MOST_DAY : Tok}
    {tk_MOST_RATE : Tok}
    {tk_MOST_AMOUNT : Tok}
    {tk_MILLION : Tok} (hfa : mg "law" = some (.ref fa))
    (z_len : PySem.W.nsIn K mainGlobals "len" = some none)
    (z_max : PySem.W.nsIn K mainGlobals "max" = some none)
    (z_min : PySem.W.nsIn K mainGlobals "min" = some none)
    (z_int : PySem.W.nsIn K mainGlobals "int" = some none)
    (z_list : PySem.W.nsIn K mainGlobals "list" = some none)
    (z_range : PySem.W.nsIn K mainGlobals "range" = some none)
    (z_isinstance : PySem.W.nsIn K mainGlobals "isinstance" = some none)
    (z_ValueError : PySem.W.nsIn K mainGlobals "ValueError" = some none)
    (q_MOST_DAY : PySem.W.nsIn K mainGlobals "MOST_DAY" = some (some (.int 100000 tk_MOST_DAY)))
    (q_MOST_RATE : PySem.W.nsIn K mainGlobals "MOST_RATE" = some (some (.int 100000 tk_MOST_RATE)))
    (q_MOST_AMOUNT : PySem.W.nsIn K mainGlobals "MOST_AMOUNT" = some (some (.int 1000000000000 tk_MOST_AMOUNT)))
    (q_MILLION : PySem.W.nsIn K mainGlobals "MILLION" = some (some (.int 1000000 tk_MILLION)))
    (ac_LoanError : PySem.W.nsIn K mainGlobals "LoanError" = some (some (.ref a_LoanError)))
    (xc_LoanError : PySem.W.excIn K a_LoanError [.type "ValueError", .type "Exception", .type "BaseException", .type "object"] "ValueError.__new__" = true)
    (xk_LoanError : PySem.W.keepIn K (.ref a_LoanError) = true)
    (xs_LoanError : PySem.W.subIn K (.ref a_LoanError) (.type "BaseException") = some true)
    (xt_LoanError : PySem.W.typeIn K (.ref a_LoanError) = some (.type "type"))
    (ac_BadAmount : PySem.W.nsIn K mainGlobals "BadAmount" = some (some (.ref a_BadAmount)))
    (xc_BadAmount : PySem.W.excIn K a_BadAmount [.type "ValueError", .type "Exception", .type "BaseException", .type "object"] "ValueError.__new__" = true)
    (xk_BadAmount : PySem.W.keepIn K (.ref a_BadAmount) = true)
    (xs_BadAmount : PySem.W.subIn K (.ref a_BadAmount) (.type "BaseException") = some true)
    (xt_BadAmount : PySem.W.typeIn K (.ref a_BadAmount) = some (.type "type"))
    (ac_BadRate : PySem.W.nsIn K mainGlobals "BadRate" = some (some (.ref a_BadRate)))
    (xc_BadRate : PySem.W.excIn K a_BadRate [.type "ValueError", .type "Exception", .type "BaseException", .type "object"] "ValueError.__new__" = true)
    (xk_BadRate : PySem.W.keepIn K (.ref a_BadRate) = true)
    (xs_BadRate : PySem.W.subIn K (.ref a_BadRate) (.type "BaseException") = some true)
    (xt_BadRate : PySem.W.typeIn K (.ref a_BadRate) = some (.type "type"))
    (ac_BadDay : PySem.W.nsIn K mainGlobals "BadDay" = some (some (.ref a_BadDay)))
    (xc_BadDay : PySem.W.excIn K a_BadDay [.type "ValueError", .type "Exception", .type "BaseException", .type "object"] "ValueError.__new__" = true)
    (xk_BadDay : PySem.W.keepIn K (.ref a_BadDay) = true)
    (xs_BadDay : PySem.W.subIn K (.ref a_BadDay) (.type "BaseException") = some true)
    (xt_BadDay : PySem.W.typeIn K (.ref a_BadDay) = some (.type "type"))
    (ac_BadPay : PySem.W.nsIn K mainGlobals "BadPay" = some (some (.ref a_BadPay)))
    (xc_BadPay : PySem.W.excIn K a_BadPay [.type "ValueError", .type "Exception", .type "BaseException", .type "object"] "ValueError.__new__" = true)
    (xk_BadPay : PySem.W.keepIn K (.ref a_BadPay) = true)
    (xs_BadPay : PySem.W.subIn K (.ref a_BadPay) (.type "BaseException") = some true)
    (xt_BadPay : PySem.W.typeIn K (.ref a_BadPay) = some (.type "type"))
    (ac_Loan : PySem.W.nsIn K mainGlobals "Loan" = some (some (.ref a_Loan)))
    (pg_Loan : PySem.W.plainGet K a_Loan Str.empty = true)
    (hd_Loan : PySem.W.hasDictIn K a_Loan = true)
    (po_Loan : PySem.W.plainOver K a_Loan = true)
    (sa_Loan : PySem.W.findIn K (.ref a_Loan) "__setattr__" = some (some (.builtin "object.__setattr__")))
    (mk_Loan : PySem.W.makesIn K a_Loan = true)
    (kc_Loan : PySem.W.keepIn K (.ref a_Loan) = true)
    (nf_Loan_left : PySem.W.findIn K (.ref a_Loan) "left" = some none)
    (nf_Loan_begun : PySem.W.findIn K (.ref a_Loan) "begun" = some none)
    (nf_Loan_day : PySem.W.findIn K (.ref a_Loan) "day" = some none)
    (nf_Loan_rates : PySem.W.findIn K (.ref a_Loan) "rates" = some none)
    (xg_BadAmount : PySem.W.findIn K (.ref a_BadAmount) "__getattribute__" = some (some (.builtin "BaseException.__getattribute__")))
    (xq_BadAmount : PySem.W.findIn K (.ref a_BadAmount) "__getattr__" = some none)
    (xb_BadAmount : PySem.W.subIn K (.ref a_BadAmount) (.type "BaseException") = some true)
    (xd_BadAmount : PySem.W.hasDictIn K a_BadAmount = true)
    (xa_BadAmount : PySem.W.findIn K (.ref a_BadAmount) "__class__" = some (some (.builtin "object.__class__")))
    (xn_BadAmount : PySem.W.specialIn K (.builtin "object.__class__") "__get__" = some (some (.builtin "getset_descriptor.__get__")))
    (xp_BadAmount : PySem.W.takesIn K (.builtin "object.__class__") = some true)
    (xm_BadAmount : PySem.W.mroIn K a_BadAmount (.type "object") = some true)
    (sv_BadAmount : PySem.W.subIn K (.ref a_BadAmount) (.type "ValueError") = some true)
    (xg_BadDay : PySem.W.findIn K (.ref a_BadDay) "__getattribute__" = some (some (.builtin "BaseException.__getattribute__")))
    (xq_BadDay : PySem.W.findIn K (.ref a_BadDay) "__getattr__" = some none)
    (xb_BadDay : PySem.W.subIn K (.ref a_BadDay) (.type "BaseException") = some true)
    (xd_BadDay : PySem.W.hasDictIn K a_BadDay = true)
    (xa_BadDay : PySem.W.findIn K (.ref a_BadDay) "__class__" = some (some (.builtin "object.__class__")))
    (xn_BadDay : PySem.W.specialIn K (.builtin "object.__class__") "__get__" = some (some (.builtin "getset_descriptor.__get__")))
    (xp_BadDay : PySem.W.takesIn K (.builtin "object.__class__") = some true)
    (xm_BadDay : PySem.W.mroIn K a_BadDay (.type "object") = some true)
    (sv_BadDay : PySem.W.subIn K (.ref a_BadDay) (.type "ValueError") = some true)
    (xg_BadPay : PySem.W.findIn K (.ref a_BadPay) "__getattribute__" = some (some (.builtin "BaseException.__getattribute__")))
    (xq_BadPay : PySem.W.findIn K (.ref a_BadPay) "__getattr__" = some none)
    (xb_BadPay : PySem.W.subIn K (.ref a_BadPay) (.type "BaseException") = some true)
    (xd_BadPay : PySem.W.hasDictIn K a_BadPay = true)
    (xa_BadPay : PySem.W.findIn K (.ref a_BadPay) "__class__" = some (some (.builtin "object.__class__")))
    (xn_BadPay : PySem.W.specialIn K (.builtin "object.__class__") "__get__" = some (some (.builtin "getset_descriptor.__get__")))
    (xp_BadPay : PySem.W.takesIn K (.builtin "object.__class__") = some true)
    (xm_BadPay : PySem.W.mroIn K a_BadPay (.type "object") = some true)
    (sv_BadPay : PySem.W.subIn K (.ref a_BadPay) (.type "ValueError") = some true)
    (xg_BadRate : PySem.W.findIn K (.ref a_BadRate) "__getattribute__" = some (some (.builtin "BaseException.__getattribute__")))
    (xq_BadRate : PySem.W.findIn K (.ref a_BadRate) "__getattr__" = some none)
    (xb_BadRate : PySem.W.subIn K (.ref a_BadRate) (.type "BaseException") = some true)
    (xd_BadRate : PySem.W.hasDictIn K a_BadRate = true)
    (xa_BadRate : PySem.W.findIn K (.ref a_BadRate) "__class__" = some (some (.builtin "object.__class__")))
    (xn_BadRate : PySem.W.specialIn K (.builtin "object.__class__") "__get__" = some (some (.builtin "getset_descriptor.__get__")))
    (xp_BadRate : PySem.W.takesIn K (.builtin "object.__class__") = some true)
    (xm_BadRate : PySem.W.mroIn K a_BadRate (.type "object") = some true)
    (sv_BadRate : PySem.W.subIn K (.ref a_BadRate) (.type "ValueError") = some true)
    (sb_BadAmount_BadPay : PySem.W.subIn K (.ref a_BadAmount) (.ref a_BadPay) = some false)
    (sb_BadPay_BadPay : PySem.W.subIn K (.ref a_BadPay) (.ref a_BadPay) = some true)
    (sb_BadDay_BadPay : PySem.W.subIn K (.ref a_BadDay) (.ref a_BadPay) = some false)
    (sb_BadRate_BadPay : PySem.W.subIn K (.ref a_BadRate) (.ref a_BadPay) = some false)
    (sb_BadAmount_BadDay : PySem.W.subIn K (.ref a_BadAmount) (.ref a_BadDay) = some false)
    (sb_BadAmount_LoanError : PySem.W.subIn K (.ref a_BadAmount) (.ref a_LoanError) = some true)
    (sb_BadDay_BadDay : PySem.W.subIn K (.ref a_BadDay) (.ref a_BadDay) = some true)
    (sb_BadDay_LoanError : PySem.W.subIn K (.ref a_BadDay) (.ref a_LoanError) = some true)
    (sb_BadPay_BadDay : PySem.W.subIn K (.ref a_BadPay) (.ref a_BadDay) = some false)
    (sb_BadPay_LoanError : PySem.W.subIn K (.ref a_BadPay) (.ref a_LoanError) = some true)
    (sb_BadRate_BadDay : PySem.W.subIn K (.ref a_BadRate) (.ref a_BadDay) = some false)
    (sb_BadRate_LoanError : PySem.W.subIn K (.ref a_BadRate) (.ref a_LoanError) = some true)
    (dd_BadDay : PySem.W.hasDictIn K a_BadDay = true)
    (dd_BadPay : PySem.W.hasDictIn K a_BadPay = true)
    (dd_LoanError : PySem.W.hasDictIn K a_LoanError = true)
    (at_need_rate : PySem.W.nsIn K mainGlobals "need_rate" = some (some (.ref f_need_rate)))
    (lk_need_rate : K.lookup f_need_rate = some ⟨oc_need_rate, od_need_rate, .func (PySem.W.fnOf "need_rate" "need_rate" (defArgs s_need_rate) (defBody s_need_rate) (defScope s_need_rate) .none kV_need_rate dc_need_rate pm_need_rate an_need_rate cd_need_rate ct_need_rate), sl_need_rate⟩)
    (cd_need_rate_in : PySem.W.codeIn K cd_need_rate "need_rate" = true)
    (kp_need_rate : PySem.W.keepIn K (.ref f_need_rate) = true)
    (at_checked : PySem.W.nsIn K mainGlobals "checked" = some (some (.ref f_checked)))
    (lk_checked : K.lookup f_checked = some ⟨oc_checked, od_checked, .func (PySem.W.fnOf "checked" "checked" (defArgs s_checked) (defBody s_checked) (defScope s_checked) .none kV_checked dc_checked pm_checked an_checked cd_checked ct_checked), sl_checked⟩)
    (cd_checked_in : PySem.W.codeIn K cd_checked "checked" = true)
    (kp_checked : PySem.W.keepIn K (.ref f_checked) = true)
    (at_grown : PySem.W.nsIn K mainGlobals "grown" = some (some (.ref f_grown)))
    (lk_grown : K.lookup f_grown = some ⟨oc_grown, od_grown, .func (PySem.W.fnOf "grown" "grown" (defArgs s_grown) (defBody s_grown) (defScope s_grown) .none kV_grown dc_grown pm_grown an_grown cd_grown ct_grown), sl_grown⟩)
    (cd_grown_in : PySem.W.codeIn K cd_grown "grown" = true)
    (kp_grown : PySem.W.keepIn K (.ref f_grown) = true)
    (at_need_days : PySem.W.nsIn K mainGlobals "need_days" = some (some (.ref f_need_days)))
    (lk_need_days : K.lookup f_need_days = some ⟨oc_need_days, od_need_days, .func (PySem.W.fnOf "need_days" "need_days" (defArgs s_need_days) (defBody s_need_days) (defScope s_need_days) .none kV_need_days dc_need_days pm_need_days an_need_days cd_need_days ct_need_days), sl_need_days⟩)
    (cd_need_days_in : PySem.W.codeIn K cd_need_days "need_days" = true)
    (kp_need_days : PySem.W.keepIn K (.ref f_need_days) = true)
    (at_need_some : PySem.W.nsIn K mainGlobals "need_some" = some (some (.ref f_need_some)))
    (lk_need_some : K.lookup f_need_some = some ⟨oc_need_some, od_need_some, .func (PySem.W.fnOf "need_some" "need_some" (defArgs s_need_some) (defBody s_need_some) (defScope s_need_some) .none kV_need_some dc_need_some pm_need_some an_need_some cd_need_some ct_need_some), sl_need_some⟩)
    (cd_need_some_in : PySem.W.codeIn K cd_need_some "need_some" = true)
    (kp_need_some : PySem.W.keepIn K (.ref f_need_some) = true)
    (at_need_part : PySem.W.nsIn K mainGlobals "need_part" = some (some (.ref f_need_part)))
    (lk_need_part : K.lookup f_need_part = some ⟨oc_need_part, od_need_part, .func (PySem.W.fnOf "need_part" "need_part" (defArgs s_need_part) (defBody s_need_part) (defScope s_need_part) .none kV_need_part dc_need_part pm_need_part an_need_part cd_need_part ct_need_part), sl_need_part⟩)
    (cd_need_part_in : PySem.W.codeIn K cd_need_part "need_part" = true)
    (kp_need_part : PySem.W.keepIn K (.ref f_need_part) = true)
    (at_rows_of : PySem.W.nsIn K mainGlobals "rows_of" = some (some (.ref f_rows_of)))
    (lk_rows_of : K.lookup f_rows_of = some ⟨oc_rows_of, od_rows_of, .func (PySem.W.fnOf "rows_of" "rows_of" (defArgs s_rows_of) (defBody s_rows_of) (defScope s_rows_of) .none kV_rows_of dc_rows_of pm_rows_of an_rows_of cd_rows_of ct_rows_of), sl_rows_of⟩)
    (cd_rows_of_in : PySem.W.codeIn K cd_rows_of "rows_of" = true)
    (kp_rows_of : PySem.W.keepIn K (.ref f_rows_of) = true)
    (at_plan : PySem.W.nsIn K mainGlobals "plan" = some (some (.ref f_plan)))
    (lk_plan : K.lookup f_plan = some ⟨oc_plan, od_plan, .func (PySem.W.fnOf "plan" "plan" (defArgs s_plan) (defBody s_plan) (defScope s_plan) .none kV_plan dc_plan pm_plan an_plan cd_plan ct_plan), sl_plan⟩)
    (cd_plan_in : PySem.W.codeIn K cd_plan "plan" = true)
    (kp_plan : PySem.W.keepIn K (.ref f_plan) = true)
    (at_settles : PySem.W.nsIn K mainGlobals "settles" = some (some (.ref f_settles)))
    (lk_settles : K.lookup f_settles = some ⟨oc_settles, od_settles, .func (PySem.W.fnOf "settles" "settles" (defArgs s_settles) (defBody s_settles) (defScope s_settles) .none kV_settles dc_settles pm_settles an_settles cd_settles ct_settles), sl_settles⟩)
    (cd_settles_in : PySem.W.codeIn K cd_settles "settles" = true)
    (kp_settles : PySem.W.keepIn K (.ref f_settles) = true)
    (at_least_part : PySem.W.nsIn K mainGlobals "least_part" = some (some (.ref f_least_part)))
    (lk_least_part : K.lookup f_least_part = some ⟨oc_least_part, od_least_part, .func (PySem.W.fnOf "least_part" "least_part" (defArgs s_least_part) (defBody s_least_part) (defScope s_least_part) .none kV_least_part dc_least_part pm_least_part an_least_part cd_least_part ct_least_part), sl_least_part⟩)
    (cd_least_part_in : PySem.W.codeIn K cd_least_part "least_part" = true)
    (kp_least_part : PySem.W.keepIn K (.ref f_least_part) = true)
    (at_whole_cost : PySem.W.nsIn K mainGlobals "whole_cost" = some (some (.ref f_whole_cost)))
    (lk_whole_cost : K.lookup f_whole_cost = some ⟨oc_whole_cost, od_whole_cost, .func (PySem.W.fnOf "whole_cost" "whole_cost" (defArgs s_whole_cost) (defBody s_whole_cost) (defScope s_whole_cost) .none kV_whole_cost dc_whole_cost pm_whole_cost an_whole_cost cd_whole_cost ct_whole_cost), sl_whole_cost⟩)
    (cd_whole_cost_in : PySem.W.codeIn K cd_whole_cost "whole_cost" = true)
    (kp_whole_cost : PySem.W.keepIn K (.ref f_whole_cost) = true)
    (at_cost : PySem.W.nsIn K mainGlobals "cost" = some (some (.ref f_cost)))
    (lk_cost : K.lookup f_cost = some ⟨oc_cost, od_cost, .func (PySem.W.fnOf "cost" "cost" (defArgs s_cost) (defBody s_cost) (defScope s_cost) .none kV_cost dc_cost pm_cost an_cost cd_cost ct_cost), sl_cost⟩)
    (cd_cost_in : PySem.W.codeIn K cd_cost "cost" = true)
    (kp_cost : PySem.W.keepIn K (.ref f_cost) = true)
    (at_saved : PySem.W.nsIn K mainGlobals "saved" = some (some (.ref f_saved)))
    (lk_saved : K.lookup f_saved = some ⟨oc_saved, od_saved, .func (PySem.W.fnOf "saved" "saved" (defArgs s_saved) (defBody s_saved) (defScope s_saved) .none kV_saved dc_saved pm_saved an_saved cd_saved ct_saved), sl_saved⟩)
    (cd_saved_in : PySem.W.codeIn K cd_saved "saved" = true)
    (kp_saved : PySem.W.keepIn K (.ref f_saved) = true)
    (at_need_amount : PySem.W.nsIn K mainGlobals "need_amount" = some (some (.ref f_need_amount)))
    (lk_need_amount : K.lookup f_need_amount = some ⟨oc_need_amount, od_need_amount, .func (PySem.W.fnOf "need_amount" "need_amount" (defArgs s_need_amount) (defBody s_need_amount) (defScope s_need_amount) .none kV_need_amount dc_need_amount pm_need_amount an_need_amount cd_need_amount ct_need_amount), sl_need_amount⟩)
    (cd_need_amount_in : PySem.W.codeIn K cd_need_amount "need_amount" = true)
    (kp_need_amount : PySem.W.keepIn K (.ref f_need_amount) = true)
    (at_Loan_init : PySem.W.findIn K (.ref a_Loan) "__init__" = some (some (.ref f_Loan_init)))
    (is_Loan_init : PySem.W.isFn K (.ref f_Loan_init) = true)
    (lk_Loan_init : K.lookup f_Loan_init = some ⟨oc_Loan_init, od_Loan_init, .func (PySem.W.fnOf "__init__" "Loan.__init__" (defArgs s_Loan_init) (defBody s_Loan_init) (defScope s_Loan_init) .none kV_Loan_init dc_Loan_init pm_Loan_init an_Loan_init cd_Loan_init ct_Loan_init), sl_Loan_init⟩)
    (cd_Loan_init_in : PySem.W.codeIn K cd_Loan_init "Loan.__init__" = true)
    (kp_Loan_init : PySem.W.keepIn K (.ref f_Loan_init) = true)
    (at_Loan_stand : PySem.W.findIn K (.ref a_Loan) "stand" = some (some (.ref f_Loan_stand)))
    (is_Loan_stand : PySem.W.isFn K (.ref f_Loan_stand) = true)
    (lk_Loan_stand : K.lookup f_Loan_stand = some ⟨oc_Loan_stand, od_Loan_stand, .func (PySem.W.fnOf "stand" "Loan.stand" (defArgs s_Loan_stand) (defBody s_Loan_stand) (defScope s_Loan_stand) .none kV_Loan_stand dc_Loan_stand pm_Loan_stand an_Loan_stand cd_Loan_stand ct_Loan_stand), sl_Loan_stand⟩)
    (cd_Loan_stand_in : PySem.W.codeIn K cd_Loan_stand "Loan.stand" = true)
    (kp_Loan_stand : PySem.W.keepIn K (.ref f_Loan_stand) = true)
    (at_Loan_owed : PySem.W.findIn K (.ref a_Loan) "owed" = some (some (.ref f_Loan_owed)))
    (is_Loan_owed : PySem.W.isFn K (.ref f_Loan_owed) = true)
    (lk_Loan_owed : K.lookup f_Loan_owed = some ⟨oc_Loan_owed, od_Loan_owed, .func (PySem.W.fnOf "owed" "Loan.owed" (defArgs s_Loan_owed) (defBody s_Loan_owed) (defScope s_Loan_owed) .none kV_Loan_owed dc_Loan_owed pm_Loan_owed an_Loan_owed cd_Loan_owed ct_Loan_owed), sl_Loan_owed⟩)
    (cd_Loan_owed_in : PySem.W.codeIn K cd_Loan_owed "Loan.owed" = true)
    (kp_Loan_owed : PySem.W.keepIn K (.ref f_Loan_owed) = true)
    (at_Loan_pay : PySem.W.findIn K (.ref a_Loan) "pay" = some (some (.ref f_Loan_pay)))
    (is_Loan_pay : PySem.W.isFn K (.ref f_Loan_pay) = true)
    (lk_Loan_pay : K.lookup f_Loan_pay = some ⟨oc_Loan_pay, od_Loan_pay, .func (PySem.W.fnOf "pay" "Loan.pay" (defArgs s_Loan_pay) (defBody s_Loan_pay) (defScope s_Loan_pay) .none kV_Loan_pay dc_Loan_pay pm_Loan_pay an_Loan_pay cd_Loan_pay ct_Loan_pay), sl_Loan_pay⟩)
    (cd_Loan_pay_in : PySem.W.codeIn K cd_Loan_pay "Loan.pay" = true)
    (kp_Loan_pay : PySem.W.keepIn K (.ref f_Loan_pay) = true)
    (at_Loan_change : PySem.W.findIn K (.ref a_Loan) "change" = some (some (.ref f_Loan_change)))
    (is_Loan_change : PySem.W.isFn K (.ref f_Loan_change) = true)
    (lk_Loan_change : K.lookup f_Loan_change = some ⟨oc_Loan_change, od_Loan_change, .func (PySem.W.fnOf "change" "Loan.change" (defArgs s_Loan_change) (defBody s_Loan_change) (defScope s_Loan_change) .none kV_Loan_change dc_Loan_change pm_Loan_change an_Loan_change cd_Loan_change ct_Loan_change), sl_Loan_change⟩)
    (cd_Loan_change_in : PySem.W.codeIn K cd_Loan_change "Loan.change" = true)
    (kp_Loan_change : PySem.W.keepIn K (.ref f_Loan_change) = true)
    (at_Loan_twin : PySem.W.findIn K (.ref a_Loan) "twin" = some (some (.ref f_Loan_twin)))
    (is_Loan_twin : PySem.W.isFn K (.ref f_Loan_twin) = true)
    (lk_Loan_twin : K.lookup f_Loan_twin = some ⟨oc_Loan_twin, od_Loan_twin, .func (PySem.W.fnOf "twin" "Loan.twin" (defArgs s_Loan_twin) (defBody s_Loan_twin) (defScope s_Loan_twin) .none kV_Loan_twin dc_Loan_twin pm_Loan_twin an_Loan_twin cd_Loan_twin ct_Loan_twin), sl_Loan_twin⟩)
    (cd_Loan_twin_in : PySem.W.codeIn K cd_Loan_twin "Loan.twin" = true)
    (kp_Loan_twin : PySem.W.keepIn K (.ref f_Loan_twin) = true)
    (at_law_cell_at : PySem.W.nsIn K mainGlobals "_law_cell_at" = some (some (.ref f_law_cell_at)))
    (lk_law_cell_at : K.lookup f_law_cell_at = some ⟨oc_law_cell_at, od_law_cell_at, .func (PySem.W.fnOf "_law_cell_at" "_law_cell_at" (defArgs s_law_cell_at) (defBody s_law_cell_at) (defScope s_law_cell_at) .none kV_law_cell_at dc_law_cell_at pm_law_cell_at an_law_cell_at cd_law_cell_at ct_law_cell_at), sl_law_cell_at⟩)
    (cd_law_cell_at_in : PySem.W.codeIn K cd_law_cell_at "_law_cell_at" = true)
    (kp_law_cell_at : PySem.W.keepIn K (.ref f_law_cell_at) = true)
    (at_law_mixed : PySem.W.nsIn K mainGlobals "_law_mixed" = some (some (.ref f_law_mixed)))
    (lk_law_mixed : K.lookup f_law_mixed = some ⟨oc_law_mixed, od_law_mixed, .func (PySem.W.fnOf "_law_mixed" "_law_mixed" (defArgs s_law_mixed) (defBody s_law_mixed) (defScope s_law_mixed) .none kV_law_mixed dc_law_mixed pm_law_mixed an_law_mixed cd_law_mixed ct_law_mixed), sl_law_mixed⟩)
    (cd_law_mixed_in : PySem.W.codeIn K cd_law_mixed "_law_mixed" = true)
    (kp_law_mixed : PySem.W.keepIn K (.ref f_law_mixed) = true)
    (at_law_rate_by : PySem.W.nsIn K mainGlobals "_law_rate_by" = some (some (.ref f_law_rate_by)))
    (lk_law_rate_by : K.lookup f_law_rate_by = some ⟨oc_law_rate_by, od_law_rate_by, .func (PySem.W.fnOf "_law_rate_by" "_law_rate_by" (defArgs s_law_rate_by) (defBody s_law_rate_by) (defScope s_law_rate_by) .none kV_law_rate_by dc_law_rate_by pm_law_rate_by an_law_rate_by cd_law_rate_by ct_law_rate_by), sl_law_rate_by⟩)
    (cd_law_rate_by_in : PySem.W.codeIn K cd_law_rate_by "_law_rate_by" = true)
    (kp_law_rate_by : PySem.W.keepIn K (.ref f_law_rate_by) = true)
    (at_law_row_by : PySem.W.nsIn K mainGlobals "_law_row_by" = some (some (.ref f_law_row_by)))
    (lk_law_row_by : K.lookup f_law_row_by = some ⟨oc_law_row_by, od_law_row_by, .func (PySem.W.fnOf "_law_row_by" "_law_row_by" (defArgs s_law_row_by) (defBody s_law_row_by) (defScope s_law_row_by) .none kV_law_row_by dc_law_row_by pm_law_row_by an_law_row_by cd_law_row_by ct_law_row_by), sl_law_row_by⟩)
    (cd_law_row_by_in : PySem.W.codeIn K cd_law_row_by "_law_row_by" = true)
    (kp_law_row_by : PySem.W.keepIn K (.ref f_law_row_by) = true)
    (at_law_sum_by : PySem.W.nsIn K mainGlobals "_law_sum_by" = some (some (.ref f_law_sum_by)))
    (lk_law_sum_by : K.lookup f_law_sum_by = some ⟨oc_law_sum_by, od_law_sum_by, .func (PySem.W.fnOf "_law_sum_by" "_law_sum_by" (defArgs s_law_sum_by) (defBody s_law_sum_by) (defScope s_law_sum_by) .none kV_law_sum_by dc_law_sum_by pm_law_sum_by an_law_sum_by cd_law_sum_by ct_law_sum_by), sl_law_sum_by⟩)
    (cd_law_sum_by_in : PySem.W.codeIn K cd_law_sum_by "_law_sum_by" = true)
    (kp_law_sum_by : PySem.W.keepIn K (.ref f_law_sum_by) = true)
    (at_law_amount_by : PySem.W.nsIn K mainGlobals "_law_amount_by" = some (some (.ref f_law_amount_by)))
    (lk_law_amount_by : K.lookup f_law_amount_by = some ⟨oc_law_amount_by, od_law_amount_by, .func (PySem.W.fnOf "_law_amount_by" "_law_amount_by" (defArgs s_law_amount_by) (defBody s_law_amount_by) (defScope s_law_amount_by) .none kV_law_amount_by dc_law_amount_by pm_law_amount_by an_law_amount_by cd_law_amount_by ct_law_amount_by), sl_law_amount_by⟩)
    (cd_law_amount_by_in : PySem.W.codeIn K cd_law_amount_by "_law_amount_by" = true)
    (kp_law_amount_by : PySem.W.keepIn K (.ref f_law_amount_by) = true)
    (at_law_owed : PySem.W.nsIn K mainGlobals "_law_owed" = some (some (.ref f_law_owed)))
    (lk_law_owed : K.lookup f_law_owed = some ⟨oc_law_owed, od_law_owed, .func (PySem.W.fnOf "_law_owed" "_law_owed" (defArgs s_law_owed) (defBody s_law_owed) (defScope s_law_owed) .none kV_law_owed dc_law_owed pm_law_owed an_law_owed cd_law_owed ct_law_owed), sl_law_owed⟩)
    (cd_law_owed_in : PySem.W.codeIn K cd_law_owed "_law_owed" = true)
    (kp_law_owed : PySem.W.keepIn K (.ref f_law_owed) = true)
    (at_law_parts : PySem.W.nsIn K mainGlobals "_law_parts" = some (some (.ref f_law_parts)))
    (lk_law_parts : K.lookup f_law_parts = some ⟨oc_law_parts, od_law_parts, .func (PySem.W.fnOf "_law_parts" "_law_parts" (defArgs s_law_parts) (defBody s_law_parts) (defScope s_law_parts) .none kV_law_parts dc_law_parts pm_law_parts an_law_parts cd_law_parts ct_law_parts), sl_law_parts⟩)
    (cd_law_parts_in : PySem.W.codeIn K cd_law_parts "_law_parts" = true)
    (kp_law_parts : PySem.W.keepIn K (.ref f_law_parts) = true)
    (at_law_days_by : PySem.W.nsIn K mainGlobals "_law_days_by" = some (some (.ref f_law_days_by)))
    (lk_law_days_by : K.lookup f_law_days_by = some ⟨oc_law_days_by, od_law_days_by, .func (PySem.W.fnOf "_law_days_by" "_law_days_by" (defArgs s_law_days_by) (defBody s_law_days_by) (defScope s_law_days_by) .none kV_law_days_by dc_law_days_by pm_law_days_by an_law_days_by cd_law_days_by ct_law_days_by), sl_law_days_by⟩)
    (cd_law_days_by_in : PySem.W.codeIn K cd_law_days_by "_law_days_by" = true)
    (kp_law_days_by : PySem.W.keepIn K (.ref f_law_days_by) = true)
    (at_law_at_by : PySem.W.nsIn K mainGlobals "_law_at_by" = some (some (.ref f_law_at_by)))
    (lk_law_at_by : K.lookup f_law_at_by = some ⟨oc_law_at_by, od_law_at_by, .func (PySem.W.fnOf "_law_at_by" "_law_at_by" (defArgs s_law_at_by) (defBody s_law_at_by) (defScope s_law_at_by) .none kV_law_at_by dc_law_at_by pm_law_at_by an_law_at_by cd_law_at_by ct_law_at_by), sl_law_at_by⟩)
    (cd_law_at_by_in : PySem.W.codeIn K cd_law_at_by "_law_at_by" = true)
    (kp_law_at_by : PySem.W.keepIn K (.ref f_law_at_by) = true)
    (at_law_made : PySem.W.nsIn K mainGlobals "_law_made" = some (some (.ref f_law_made)))
    (lk_law_made : K.lookup f_law_made = some ⟨oc_law_made, od_law_made, .func (PySem.W.fnOf "_law_made" "_law_made" (defArgs s_law_made) (defBody s_law_made) (defScope s_law_made) .none kV_law_made dc_law_made pm_law_made an_law_made cd_law_made ct_law_made), sl_law_made⟩)
    (cd_law_made_in : PySem.W.codeIn K cd_law_made "_law_made" = true)
    (kp_law_made : PySem.W.keepIn K (.ref f_law_made) = true)
    (at_law_loan_by : PySem.W.nsIn K mainGlobals "_law_loan_by" = some (some (.ref f_law_loan_by)))
    (lk_law_loan_by : K.lookup f_law_loan_by = some ⟨oc_law_loan_by, od_law_loan_by, .func (PySem.W.fnOf "_law_loan_by" "_law_loan_by" (defArgs s_law_loan_by) (defBody s_law_loan_by) (defScope s_law_loan_by) .none kV_law_loan_by dc_law_loan_by pm_law_loan_by an_law_loan_by cd_law_loan_by ct_law_loan_by), sl_law_loan_by⟩)
    (cd_law_loan_by_in : PySem.W.codeIn K cd_law_loan_by "_law_loan_by" = true)
    (kp_law_loan_by : PySem.W.keepIn K (.ref f_law_loan_by) = true)
    (at_law_turned : PySem.W.nsIn K mainGlobals "_law_turned" = some (some (.ref f_law_turned)))
    (lk_law_turned : K.lookup f_law_turned = some ⟨oc_law_turned, od_law_turned, .func (PySem.W.fnOf "_law_turned" "_law_turned" (defArgs s_law_turned) (defBody s_law_turned) (defScope s_law_turned) .none kV_law_turned dc_law_turned pm_law_turned an_law_turned cd_law_turned ct_law_turned), sl_law_turned⟩)
    (cd_law_turned_in : PySem.W.codeIn K cd_law_turned "_law_turned" = true)
    (kp_law_turned : PySem.W.keepIn K (.ref f_law_turned) = true)
    (at_law_days_good : PySem.W.nsIn K mainGlobals "_law_days_good" = some (some (.ref f_law_days_good)))
    (lk_law_days_good : K.lookup f_law_days_good = some ⟨oc_law_days_good, od_law_days_good, .func (PySem.W.fnOf "_law_days_good" "_law_days_good" (defArgs s_law_days_good) (defBody s_law_days_good) (defScope s_law_days_good) .none kV_law_days_good dc_law_days_good pm_law_days_good an_law_days_good cd_law_days_good ct_law_days_good), sl_law_days_good⟩)
    (cd_law_days_good_in : PySem.W.codeIn K cd_law_days_good "_law_days_good" = true)
    (kp_law_days_good : PySem.W.keepIn K (.ref f_law_days_good) = true)
    (at_law_asked : PySem.W.nsIn K mainGlobals "_law_asked" = some (some (.ref f_law_asked)))
    (lk_law_asked : K.lookup f_law_asked = some ⟨oc_law_asked, od_law_asked, .func (PySem.W.fnOf "_law_asked" "_law_asked" (defArgs s_law_asked) (defBody s_law_asked) (defScope s_law_asked) .none kV_law_asked dc_law_asked pm_law_asked an_law_asked cd_law_asked ct_law_asked), sl_law_asked⟩)
    (cd_law_asked_in : PySem.W.codeIn K cd_law_asked "_law_asked" = true)
    (kp_law_asked : PySem.W.keepIn K (.ref f_law_asked) = true)
    (at_law_due : PySem.W.nsIn K mainGlobals "_law_due" = some (some (.ref f_law_due)))
    (lk_law_due : K.lookup f_law_due = some ⟨oc_law_due, od_law_due, .func (PySem.W.fnOf "_law_due" "_law_due" (defArgs s_law_due) (defBody s_law_due) (defScope s_law_due) .none kV_law_due dc_law_due pm_law_due an_law_due cd_law_due ct_law_due), sl_law_due⟩)
    (cd_law_due_in : PySem.W.codeIn K cd_law_due "_law_due" = true)
    (kp_law_due : PySem.W.keepIn K (.ref f_law_due) = true)
    (at_law_behind : PySem.W.nsIn K mainGlobals "_law_behind" = some (some (.ref f_law_behind)))
    (lk_law_behind : K.lookup f_law_behind = some ⟨oc_law_behind, od_law_behind, .func (PySem.W.fnOf "_law_behind" "_law_behind" (defArgs s_law_behind) (defBody s_law_behind) (defScope s_law_behind) .none kV_law_behind dc_law_behind pm_law_behind an_law_behind cd_law_behind ct_law_behind), sl_law_behind⟩)
    (cd_law_behind_in : PySem.W.codeIn K cd_law_behind "_law_behind" = true)
    (kp_law_behind : PySem.W.keepIn K (.ref f_law_behind) = true)
    (at_law_good_then : PySem.W.nsIn K mainGlobals "_law_good_then" = some (some (.ref f_law_good_then)))
    (lk_law_good_then : K.lookup f_law_good_then = some ⟨oc_law_good_then, od_law_good_then, .func (PySem.W.fnOf "_law_good_then" "_law_good_then" (defArgs s_law_good_then) (defBody s_law_good_then) (defScope s_law_good_then) .none kV_law_good_then dc_law_good_then pm_law_good_then an_law_good_then cd_law_good_then ct_law_good_then), sl_law_good_then⟩)
    (cd_law_good_then_in : PySem.W.codeIn K cd_law_good_then "_law_good_then" = true)
    (kp_law_good_then : PySem.W.keepIn K (.ref f_law_good_then) = true)
    (at_law : PySem.W.nsIn K mainGlobals "law" = some (some (.ref f_law)))
    (lk_law : K.lookup f_law = some ⟨oc_law, od_law, .func (PySem.W.fnOf "law" "law" (defArgs s_law) (defBody s_law) (defScope s_law) .none kV_law dc_law pm_law an_law cd_law ct_law), sl_law⟩)
    (cd_law_in : PySem.W.codeIn K cd_law "law" = true)
    (kp_law : PySem.W.keepIn K (.ref f_law) = true) :
    ∃ fd : FuncData, (∀ (s : Shared) (v : Value), BindsTo s fd ⟨[v], []⟩ [("_law_script", v)]) ∧ ∀ base : Heap, K.In base → base.Ns mainGlobals mg → FnOk l.prog w K mg base CX0 10 fa fd ["_law_script"] (sp_law K) := by
  have e := hfa.symm.trans (PySem.W.mg_of X G at_law)
  cases e
  let T : Txt K mg := ⟨PySem.W.mg_none_of X G z_len, PySem.W.mg_none_of X G z_max, PySem.W.mg_none_of X G z_min, PySem.W.mg_none_of X G z_int, PySem.W.mg_none_of X G z_list, PySem.W.mg_none_of X G z_range, PySem.W.mg_none_of X G z_isinstance, PySem.W.mg_none_of X G z_ValueError, ⟨_, PySem.W.mg_of X G q_MOST_DAY⟩, ⟨_, PySem.W.mg_of X G q_MOST_RATE⟩, ⟨_, PySem.W.mg_of X G q_MOST_AMOUNT⟩, ⟨_, PySem.W.mg_of X G q_MILLION⟩, a_LoanError, PySem.W.mg_of X G ac_LoanError, ⟨xc_LoanError, xk_LoanError, xs_LoanError, xt_LoanError⟩, a_BadAmount, PySem.W.mg_of X G ac_BadAmount, ⟨xc_BadAmount, xk_BadAmount, xs_BadAmount, xt_BadAmount⟩, a_BadRate, PySem.W.mg_of X G ac_BadRate, ⟨xc_BadRate, xk_BadRate, xs_BadRate, xt_BadRate⟩, a_BadDay, PySem.W.mg_of X G ac_BadDay, ⟨xc_BadDay, xk_BadDay, xs_BadDay, xt_BadDay⟩, a_BadPay, PySem.W.mg_of X G ac_BadPay, ⟨xc_BadPay, xk_BadPay, xs_BadPay, xt_BadPay⟩, a_Loan, PySem.W.mg_of X G ac_Loan, ⟨pg_Loan, hd_Loan, po_Loan, sa_Loan⟩, nf_Loan_left, nf_Loan_begun, nf_Loan_day, nf_Loan_rates, ⟨xg_BadAmount, xq_BadAmount, xb_BadAmount, xd_BadAmount, xa_BadAmount, xn_BadAmount, xp_BadAmount, xm_BadAmount⟩, kit_sub dd_BadPay xt_BadPay sb_BadPay_BadPay sb_BadAmount_BadPay, kit_ve sv_BadAmount, ⟨xg_BadDay, xq_BadDay, xb_BadDay, xd_BadDay, xa_BadDay, xn_BadDay, xp_BadDay, xm_BadDay⟩, kit_sub dd_BadPay xt_BadPay sb_BadPay_BadPay sb_BadDay_BadPay, kit_ve sv_BadDay, ⟨xg_BadPay, xq_BadPay, xb_BadPay, xd_BadPay, xa_BadPay, xn_BadPay, xp_BadPay, xm_BadPay⟩, kit_sub dd_BadPay xt_BadPay sb_BadPay_BadPay sb_BadPay_BadPay, kit_ve sv_BadPay, ⟨xg_BadRate, xq_BadRate, xb_BadRate, xd_BadRate, xa_BadRate, xn_BadRate, xp_BadRate, xm_BadRate⟩, kit_sub dd_BadPay xt_BadPay sb_BadPay_BadPay sb_BadRate_BadPay, kit_ve sv_BadRate, PySem.W.exm_ref xs_BadDay dd_BadDay xt_BadDay sb_BadAmount_BadDay, PySem.W.exm_ref xs_LoanError dd_LoanError xt_LoanError sb_BadAmount_LoanError, PySem.W.exm_ref xs_BadDay dd_BadDay xt_BadDay sb_BadDay_BadDay, PySem.W.exm_ref xs_LoanError dd_LoanError xt_LoanError sb_BadDay_LoanError, PySem.W.exm_ref xs_BadDay dd_BadDay xt_BadDay sb_BadPay_BadDay, PySem.W.exm_ref xs_LoanError dd_LoanError xt_LoanError sb_BadPay_LoanError, PySem.W.exm_ref xs_BadDay dd_BadDay xt_BadDay sb_BadRate_BadDay, PySem.W.exm_ref xs_LoanError dd_LoanError xt_LoanError sb_BadRate_LoanError⟩
  have F_need_rate := fun_mk (st := s_need_rate) lk_need_rate cd_need_rate_in kp_need_rate
  have B_need_rate := F_need_rate.binds (ps := ["rate"]) fun _ _ _ _ _ _ us hl => match us, hl with | [_], _ => rfl
  have F_checked := fun_mk (st := s_checked) lk_checked cd_checked_in kp_checked
  have B_checked := F_checked.binds (ps := ["rates"]) fun _ _ _ _ _ _ us hl => match us, hl with | [_], _ => rfl
  have F_grown := fun_mk (st := s_grown) lk_grown cd_grown_in kp_grown
  have B_grown := F_grown.binds (ps := ["rates", "start", "end"]) fun _ _ _ _ _ _ us hl => match us, hl with | [_, _, _], _ => rfl
  have F_need_days := fun_mk (st := s_need_days) lk_need_days cd_need_days_in kp_need_days
  have B_need_days := F_need_days.binds (ps := ["loan", "days"]) fun _ _ _ _ _ _ us hl => match us, hl with | [_, _], _ => rfl
  have F_need_some := fun_mk (st := s_need_some) lk_need_some cd_need_some_in kp_need_some
  have B_need_some := F_need_some.binds (ps := ["loan", "days"]) fun _ _ _ _ _ _ us hl => match us, hl with | [_, _], _ => rfl
  have F_need_part := fun_mk (st := s_need_part) lk_need_part cd_need_part_in kp_need_part
  have B_need_part := F_need_part.binds (ps := ["part"]) fun _ _ _ _ _ _ us hl => match us, hl with | [_], _ => rfl
  have F_rows_of := fun_mk (st := s_rows_of) lk_rows_of cd_rows_of_in kp_rows_of
  have B_rows_of := F_rows_of.binds (ps := ["loan", "days", "part"]) fun _ _ _ _ _ _ us hl => match us, hl with | [_, _, _], _ => rfl
  have F_plan := fun_mk (st := s_plan) lk_plan cd_plan_in kp_plan
  have B_plan := F_plan.binds (ps := ["loan", "days", "part"]) fun _ _ _ _ _ _ us hl => match us, hl with | [_, _, _], _ => rfl
  have F_settles := fun_mk (st := s_settles) lk_settles cd_settles_in kp_settles
  have B_settles := F_settles.binds (ps := ["loan", "days", "part"]) fun _ _ _ _ _ _ us hl => match us, hl with | [_, _, _], _ => rfl
  have F_least_part := fun_mk (st := s_least_part) lk_least_part cd_least_part_in kp_least_part
  have B_least_part := F_least_part.binds (ps := ["loan", "days"]) fun _ _ _ _ _ _ us hl => match us, hl with | [_, _], _ => rfl
  have F_whole_cost := fun_mk (st := s_whole_cost) lk_whole_cost cd_whole_cost_in kp_whole_cost
  have B_whole_cost := F_whole_cost.binds (ps := ["loan", "days", "part"]) fun _ _ _ _ _ _ us hl => match us, hl with | [_, _, _], _ => rfl
  have F_cost := fun_mk (st := s_cost) lk_cost cd_cost_in kp_cost
  have B_cost := F_cost.binds (ps := ["loan", "days", "part"]) fun _ _ _ _ _ _ us hl => match us, hl with | [_, _, _], _ => rfl
  have F_saved := fun_mk (st := s_saved) lk_saved cd_saved_in kp_saved
  have B_saved := F_saved.binds (ps := ["loan", "days", "part", "day", "cents"]) fun _ _ _ _ _ _ us hl => match us, hl with | [_, _, _, _, _], _ => rfl
  have F_need_amount := fun_mk (st := s_need_amount) lk_need_amount cd_need_amount_in kp_need_amount
  have B_need_amount := F_need_amount.binds (ps := ["amount"]) fun _ _ _ _ _ _ us hl => match us, hl with | [_], _ => rfl
  have F_Loan_init := fun_mk (st := s_Loan_init) lk_Loan_init cd_Loan_init_in kp_Loan_init
  have B_Loan_init := F_Loan_init.binds (ps := ["self", "amount", "rates"]) fun _ _ _ _ _ _ us hl => match us, hl with | [_, _, _], _ => rfl
  have F_Loan_stand := fun_mk (st := s_Loan_stand) lk_Loan_stand cd_Loan_stand_in kp_Loan_stand
  have B_Loan_stand := F_Loan_stand.binds (ps := ["self", "day"]) fun _ _ _ _ _ _ us hl => match us, hl with | [_, _], _ => rfl
  have F_Loan_owed := fun_mk (st := s_Loan_owed) lk_Loan_owed cd_Loan_owed_in kp_Loan_owed
  have B_Loan_owed := F_Loan_owed.binds (ps := ["self", "day"]) fun _ _ _ _ _ _ us hl => match us, hl with | [_, _], _ => rfl
  have F_Loan_pay := fun_mk (st := s_Loan_pay) lk_Loan_pay cd_Loan_pay_in kp_Loan_pay
  have B_Loan_pay := F_Loan_pay.binds (ps := ["self", "day", "cents"]) fun _ _ _ _ _ _ us hl => match us, hl with | [_, _, _], _ => rfl
  have F_Loan_change := fun_mk (st := s_Loan_change) lk_Loan_change cd_Loan_change_in kp_Loan_change
  have B_Loan_change := F_Loan_change.binds (ps := ["self", "day", "rate"]) fun _ _ _ _ _ _ us hl => match us, hl with | [_, _, _], _ => rfl
  have F_Loan_twin := fun_mk (st := s_Loan_twin) lk_Loan_twin cd_Loan_twin_in kp_Loan_twin
  have B_Loan_twin := F_Loan_twin.binds (ps := ["self"]) fun _ _ _ _ _ _ us hl => match us, hl with | [_], _ => rfl
  have F_law_cell_at := fun_mk (st := s_law_cell_at) lk_law_cell_at cd_law_cell_at_in kp_law_cell_at
  have B_law_cell_at := F_law_cell_at.binds (ps := ["_law_script", "_law_k"]) fun _ _ _ _ _ _ us hl => match us, hl with | [_, _], _ => rfl
  have F_law_mixed := fun_mk (st := s_law_mixed) lk_law_mixed cd_law_mixed_in kp_law_mixed
  have B_law_mixed := F_law_mixed.binds (ps := ["_law_cell", "_law_many"]) fun _ _ _ _ _ _ us hl => match us, hl with | [_, _], _ => rfl
  have F_law_rate_by := fun_mk (st := s_law_rate_by) lk_law_rate_by cd_law_rate_by_in kp_law_rate_by
  have B_law_rate_by := F_law_rate_by.binds (ps := ["_law_cell"]) fun _ _ _ _ _ _ us hl => match us, hl with | [_], _ => rfl
  have F_law_row_by := fun_mk (st := s_law_row_by) lk_law_row_by cd_law_row_by_in kp_law_row_by
  have B_law_row_by := F_law_row_by.binds (ps := ["_law_cell", "_law_many", "_law_wide"]) fun _ _ _ _ _ _ us hl => match us, hl with | [_, _, _], _ => rfl
  have F_law_sum_by := fun_mk (st := s_law_sum_by) lk_law_sum_by cd_law_sum_by_in kp_law_sum_by
  have B_law_sum_by := F_law_sum_by.binds (ps := ["_law_row", "_law_start", "_law_end"]) fun _ _ _ _ _ _ us hl => match us, hl with | [_, _, _], _ => rfl
  have F_law_amount_by := fun_mk (st := s_law_amount_by) lk_law_amount_by cd_law_amount_by_in kp_law_amount_by
  have B_law_amount_by := F_law_amount_by.binds (ps := ["_law_cell"]) fun _ _ _ _ _ _ us hl => match us, hl with | [_], _ => rfl
  have F_law_owed := fun_mk (st := s_law_owed) lk_law_owed cd_law_owed_in kp_law_owed
  have B_law_owed := F_law_owed.binds (ps := ["_law_left", "_law_begun"]) fun _ _ _ _ _ _ us hl => match us, hl with | [_, _], _ => rfl
  have F_law_parts := fun_mk (st := s_law_parts) lk_law_parts cd_law_parts_in kp_law_parts
  have B_law_parts := F_law_parts.binds (ps := ["_law_left", "_law_begun", "_law_cents"]) fun _ _ _ _ _ _ us hl => match us, hl with | [_, _, _], _ => rfl
  have F_law_days_by := fun_mk (st := s_law_days_by) lk_law_days_by cd_law_days_by_in kp_law_days_by
  have B_law_days_by := F_law_days_by.binds (ps := ["_law_cell", "_law_at", "_law_many", "_law_wide"]) fun _ _ _ _ _ _ us hl => match us, hl with | [_, _, _, _], _ => rfl
  have F_law_at_by := fun_mk (st := s_law_at_by) lk_law_at_by cd_law_at_by_in kp_law_at_by
  have B_law_at_by := F_law_at_by.binds (ps := ["_law_cell"]) fun _ _ _ _ _ _ us hl => match us, hl with | [_], _ => rfl
  have F_law_made := fun_mk (st := s_law_made) lk_law_made cd_law_made_in kp_law_made
  have B_law_made := F_law_made.binds (ps := ["_law_amount", "_law_row", "_law_cell"]) fun _ _ _ _ _ _ us hl => match us, hl with | [_, _, _], _ => rfl
  have F_law_loan_by := fun_mk (st := s_law_loan_by) lk_law_loan_by cd_law_loan_by_in kp_law_loan_by
  have B_law_loan_by := F_law_loan_by.binds (ps := ["_law_script", "_law_row"]) fun _ _ _ _ _ _ us hl => match us, hl with | [_, _], _ => rfl
  have F_law_turned := fun_mk (st := s_law_turned) lk_law_turned cd_law_turned_in kp_law_turned
  have B_law_turned := F_law_turned.binds (ps := ["_law_days", "_law_at", "_law_cell"]) fun _ _ _ _ _ _ us hl => match us, hl with | [_, _, _], _ => rfl
  have F_law_days_good := fun_mk (st := s_law_days_good) lk_law_days_good cd_law_days_good_in kp_law_days_good
  have B_law_days_good := F_law_days_good.binds (ps := ["_law_days", "_law_at"]) fun _ _ _ _ _ _ us hl => match us, hl with | [_, _], _ => rfl
  have F_law_asked := fun_mk (st := s_law_asked) lk_law_asked cd_law_asked_in kp_law_asked
  have B_law_asked := F_law_asked.binds (ps := ["_law_word", "_law_loan", "_law_days", "_law_part", "_law_early"]) fun _ _ _ _ _ _ us hl => match us, hl with | [_, _, _, _, _], _ => rfl
  have F_law_due := fun_mk (st := s_law_due) lk_law_due cd_law_due_in kp_law_due
  have B_law_due := F_law_due.binds (ps := ["_law_word", "_law_days", "_law_at", "_law_part", "_law_early", "_law_owed_here"]) fun _ _ _ _ _ _ us hl => match us, hl with | [_, _, _, _, _, _], _ => rfl
  have F_law_behind := fun_mk (st := s_law_behind) lk_law_behind cd_law_behind_in kp_law_behind
  have B_law_behind := F_law_behind.binds (ps := ["_law_stood", "_law_row", "_law_days", "_law_part"]) fun _ _ _ _ _ _ us hl => match us, hl with | [_, _, _, _], _ => rfl
  have F_law_good_then := fun_mk (st := s_law_good_then) lk_law_good_then cd_law_good_then_in kp_law_good_then
  have B_law_good_then := F_law_good_then.binds (ps := ["_law_loan", "_law_stood", "_law_row", "_law_first"]) fun _ _ _ _ _ _ us hl => match us, hl with | [_, _, _, _], _ => rfl
  have F_law := fun_mk (st := s_law) lk_law cd_law_in kp_law
  have B_law := F_law.binds (ps := ["_law_script"]) fun _ _ _ _ _ _ us hl => match us, hl with | [_], _ => rfl
  refine ⟨PySem.W.fnOf "law" "law" (defArgs s_law) (defBody s_law) (defScope s_law) .none kV_law dc_law pm_law an_law cd_law ct_law, fun s v => .of_eq rfl, fun base _ _ => ?_⟩
  let D_need_rate : Df l.prog w K mg base (L2.CX l.prog w) 1 "need_rate" ["rate"] (sp_need_rate T) := ⟨f_need_rate, _, ok_need_rate F_need_rate T , PySem.W.mg_of X G at_need_rate, kp_need_rate, B_need_rate⟩
  let D_checked : Df l.prog w K mg base (L2.CX l.prog w) 2 "checked" ["rates"] (sp_checked T) := ⟨f_checked, _, ok_checked F_checked T D_need_rate, PySem.W.mg_of X G at_checked, kp_checked, B_checked⟩
  let D_grown : Df l.prog w K mg base CX0 1 "grown" ["rates", "start", "end"] (sp_grown T) := ⟨f_grown, _, ok_grown F_grown T , PySem.W.mg_of X G at_grown, kp_grown, B_grown⟩
  let D_need_days : Df l.prog w K mg base (L2.CX l.prog w) 1 "need_days" ["loan", "days"] (sp_need_days T) := ⟨f_need_days, _, ok_need_days F_need_days T , PySem.W.mg_of X G at_need_days, kp_need_days, B_need_days⟩
  let D_need_some : Df l.prog w K mg base (L2.CX l.prog w) 2 "need_some" ["loan", "days"] (sp_need_some T) := ⟨f_need_some, _, ok_need_some F_need_some T D_need_days, PySem.W.mg_of X G at_need_some, kp_need_some, B_need_some⟩
  let D_need_part : Df l.prog w K mg base (L2.CX l.prog w) 1 "need_part" ["part"] (sp_need_part T) := ⟨f_need_part, _, ok_need_part F_need_part T , PySem.W.mg_of X G at_need_part, kp_need_part, B_need_part⟩
  let D_Loan_stand : Dm l.prog w K mg base (L2.CX l.prog w) 2 T.a_Loan "stand" ["self", "day"] (sp_Loan_stand T) := ⟨f_Loan_stand, _, ok_Loan_stand F_Loan_stand T D_grown, ⟨at_Loan_stand, is_Loan_stand, kp_Loan_stand⟩, B_Loan_stand⟩
  let D_Loan_owed : Dm l.prog w K mg base (L2.CX l.prog w) 3 T.a_Loan "owed" ["self", "day"] (sp_Loan_owed T) := ⟨f_Loan_owed, _, ok_Loan_owed F_Loan_owed T D_Loan_stand, ⟨at_Loan_owed, is_Loan_owed, kp_Loan_owed⟩, B_Loan_owed⟩
  let D_Loan_pay : Dm l.prog w K mg base (L2.CX l.prog w) 4 T.a_Loan "pay" ["self", "day", "cents"] (sp_Loan_pay T) := ⟨f_Loan_pay, _, ok_Loan_pay F_Loan_pay T D_Loan_stand D_Loan_owed, ⟨at_Loan_pay, is_Loan_pay, kp_Loan_pay⟩, B_Loan_pay⟩
  let D_rows_of : Df l.prog w K mg base CX0 5 "rows_of" ["loan", "days", "part"] (sp_rows_of T) := ⟨f_rows_of, _, ok_rows_of F_rows_of T D_Loan_owed D_Loan_pay, PySem.W.mg_of X G at_rows_of, kp_rows_of, B_rows_of⟩
  let D_need_amount : Df l.prog w K mg base (L2.CX l.prog w) 1 "need_amount" ["amount"] (sp_need_amount T) := ⟨f_need_amount, _, ok_need_amount F_need_amount T , PySem.W.mg_of X G at_need_amount, kp_need_amount, B_need_amount⟩
  let D_Loan_init : Di l.prog w K mg base (L2.CX l.prog w) 3 T.a_Loan "Loan" ["self", "amount", "rates"] (sp_Loan_init T) := ⟨f_Loan_init, _, ok_Loan_init F_Loan_init T D_need_amount D_checked, ⟨mk_Loan, at_Loan_init, is_Loan_init, kc_Loan⟩, PySem.W.mg_of X G ac_Loan, B_Loan_init⟩
  let D_Loan_twin : Dm l.prog w K mg base CX0 5 T.a_Loan "twin" ["self"] (sp_Loan_twin T) := ⟨f_Loan_twin, _, ok_Loan_twin F_Loan_twin T D_Loan_init, ⟨at_Loan_twin, is_Loan_twin, kp_Loan_twin⟩, B_Loan_twin⟩
  let D_plan : Df l.prog w K mg base (L2.CX l.prog w) 6 "plan" ["loan", "days", "part"] (sp_plan T) := ⟨f_plan, _, ok_plan F_plan T D_need_days D_need_part D_rows_of D_Loan_twin, PySem.W.mg_of X G at_plan, kp_plan, B_plan⟩
  let D_settles : Df l.prog w K mg base CX0 6 "settles" ["loan", "days", "part"] (sp_settles T) := ⟨f_settles, _, ok_settles F_settles T D_Loan_twin D_rows_of D_Loan_owed, PySem.W.mg_of X G at_settles, kp_settles, B_settles⟩
  let D_least_part : Df l.prog w K mg base (L2.CX l.prog w) 7 "least_part" ["loan", "days"] (sp_least_part T) := ⟨f_least_part, _, ok_least_part F_least_part T D_need_some D_Loan_owed D_settles, PySem.W.mg_of X G at_least_part, kp_least_part, B_least_part⟩
  let D_whole_cost : Df l.prog w K mg base CX0 6 "whole_cost" ["loan", "days", "part"] (sp_whole_cost T) := ⟨f_whole_cost, _, ok_whole_cost F_whole_cost T D_Loan_twin D_rows_of D_Loan_owed, PySem.W.mg_of X G at_whole_cost, kp_whole_cost, B_whole_cost⟩
  let D_cost : Df l.prog w K mg base (L2.CX l.prog w) 7 "cost" ["loan", "days", "part"] (sp_cost T) := ⟨f_cost, _, ok_cost F_cost T D_need_some D_need_part D_whole_cost, PySem.W.mg_of X G at_cost, kp_cost, B_cost⟩
  let D_saved : Df l.prog w K mg base (L2.CX l.prog w) 7 "saved" ["loan", "days", "part", "day", "cents"] (sp_saved T) := ⟨f_saved, _, ok_saved F_saved T D_need_some D_need_part D_Loan_twin D_Loan_pay D_whole_cost, PySem.W.mg_of X G at_saved, kp_saved, B_saved⟩
  let D_Loan_change : Dm l.prog w K mg base (L2.CX l.prog w) 2 T.a_Loan "change" ["self", "day", "rate"] (sp_Loan_change T) := ⟨f_Loan_change, _, ok_Loan_change F_Loan_change T D_need_rate, ⟨at_Loan_change, is_Loan_change, kp_Loan_change⟩, B_Loan_change⟩
  let D_law_cell_at : Df l.prog w K mg base CX0 1 "_law_cell_at" ["_law_script", "_law_k"] (sp_law_cell_at T) := ⟨f_law_cell_at, _, ok_law_cell_at F_law_cell_at T , PySem.W.mg_of X G at_law_cell_at, kp_law_cell_at, B_law_cell_at⟩
  let D_law_mixed : Df l.prog w K mg base CX0 1 "_law_mixed" ["_law_cell", "_law_many"] (sp_law_mixed T) := ⟨f_law_mixed, _, ok_law_mixed F_law_mixed T , PySem.W.mg_of X G at_law_mixed, kp_law_mixed, B_law_mixed⟩
  let D_law_rate_by : Df l.prog w K mg base CX0 2 "_law_rate_by" ["_law_cell"] (sp_law_rate_by T) := ⟨f_law_rate_by, _, ok_law_rate_by F_law_rate_by T D_law_mixed, PySem.W.mg_of X G at_law_rate_by, kp_law_rate_by, B_law_rate_by⟩
  let D_law_row_by : Df l.prog w K mg base CX0 3 "_law_row_by" ["_law_cell", "_law_many", "_law_wide"] (sp_law_row_by T) := ⟨f_law_row_by, _, ok_law_row_by F_law_row_by T D_law_rate_by D_law_mixed, PySem.W.mg_of X G at_law_row_by, kp_law_row_by, B_law_row_by⟩
  let D_law_sum_by : Df l.prog w K mg base CX0 1 "_law_sum_by" ["_law_row", "_law_start", "_law_end"] (sp_law_sum_by T) := ⟨f_law_sum_by, _, ok_law_sum_by F_law_sum_by T , PySem.W.mg_of X G at_law_sum_by, kp_law_sum_by, B_law_sum_by⟩
  let D_law_amount_by : Df l.prog w K mg base CX0 2 "_law_amount_by" ["_law_cell"] (sp_law_amount_by T) := ⟨f_law_amount_by, _, ok_law_amount_by F_law_amount_by T D_law_mixed, PySem.W.mg_of X G at_law_amount_by, kp_law_amount_by, B_law_amount_by⟩
  let D_law_owed : Df l.prog w K mg base CX0 1 "_law_owed" ["_law_left", "_law_begun"] (sp_law_owed T) := ⟨f_law_owed, _, ok_law_owed F_law_owed T , PySem.W.mg_of X G at_law_owed, kp_law_owed, B_law_owed⟩
  let D_law_parts : Df l.prog w K mg base CX0 1 "_law_parts" ["_law_left", "_law_begun", "_law_cents"] (sp_law_parts T) := ⟨f_law_parts, _, ok_law_parts F_law_parts T , PySem.W.mg_of X G at_law_parts, kp_law_parts, B_law_parts⟩
  let D_law_days_by : Df l.prog w K mg base CX0 2 "_law_days_by" ["_law_cell", "_law_at", "_law_many", "_law_wide"] (sp_law_days_by T) := ⟨f_law_days_by, _, ok_law_days_by F_law_days_by T D_law_mixed, PySem.W.mg_of X G at_law_days_by, kp_law_days_by, B_law_days_by⟩
  let D_law_at_by : Df l.prog w K mg base CX0 2 "_law_at_by" ["_law_cell"] (sp_law_at_by T) := ⟨f_law_at_by, _, ok_law_at_by F_law_at_by T D_law_mixed, PySem.W.mg_of X G at_law_at_by, kp_law_at_by, B_law_at_by⟩
  let D_law_made : Df l.prog w K mg base CX0 5 "_law_made" ["_law_amount", "_law_row", "_law_cell"] (sp_law_made T) := ⟨f_law_made, _, ok_law_made F_law_made T D_Loan_init D_Loan_change, PySem.W.mg_of X G at_law_made, kp_law_made, B_law_made⟩
  let D_law_loan_by : Df l.prog w K mg base CX0 6 "_law_loan_by" ["_law_script", "_law_row"] (sp_law_loan_by T) := ⟨f_law_loan_by, _, ok_law_loan_by F_law_loan_by T D_law_amount_by D_law_cell_at D_law_made D_law_at_by D_law_sum_by D_law_mixed D_law_owed D_Loan_pay D_law_parts D_law_rate_by D_Loan_change, PySem.W.mg_of X G at_law_loan_by, kp_law_loan_by, B_law_loan_by⟩
  let D_law_turned : Df l.prog w K mg base CX0 1 "_law_turned" ["_law_days", "_law_at", "_law_cell"] (sp_law_turned T) := ⟨f_law_turned, _, ok_law_turned F_law_turned T , PySem.W.mg_of X G at_law_turned, kp_law_turned, B_law_turned⟩
  let D_law_days_good : Df l.prog w K mg base CX0 1 "_law_days_good" ["_law_days", "_law_at"] (sp_law_days_good T) := ⟨f_law_days_good, _, ok_law_days_good F_law_days_good T , PySem.W.mg_of X G at_law_days_good, kp_law_days_good, B_law_days_good⟩
  let D_law_asked : Df l.prog w K mg base CX0 8 "_law_asked" ["_law_word", "_law_loan", "_law_days", "_law_part", "_law_early"] (sp_law_asked T) := ⟨f_law_asked, _, ok_law_asked F_law_asked T D_plan D_least_part D_cost D_saved, PySem.W.mg_of X G at_law_asked, kp_law_asked, B_law_asked⟩
  let D_law_due : Df l.prog w K mg base CX0 2 "_law_due" ["_law_word", "_law_days", "_law_at", "_law_part", "_law_early", "_law_owed_here"] (sp_law_due T) := ⟨f_law_due, _, ok_law_due F_law_due T D_law_days_good, PySem.W.mg_of X G at_law_due, kp_law_due, B_law_due⟩
  let D_law_behind : Df l.prog w K mg base CX0 2 "_law_behind" ["_law_stood", "_law_row", "_law_days", "_law_part"] (sp_law_behind T) := ⟨f_law_behind, _, ok_law_behind F_law_behind T D_law_sum_by D_law_owed D_law_parts, PySem.W.mg_of X G at_law_behind, kp_law_behind, B_law_behind⟩
  let D_law_good_then : Df l.prog w K mg base CX0 9 "_law_good_then" ["_law_loan", "_law_stood", "_law_row", "_law_first"] (sp_law_good_then T) := ⟨f_law_good_then, _, ok_law_good_then F_law_good_then T D_law_owed D_law_asked D_law_behind D_cost D_plan D_least_part, PySem.W.mg_of X G at_law_good_then, kp_law_good_then, B_law_good_then⟩
  exact ok_law F_law T D_law_row_by D_law_cell_at D_law_loan_by D_law_days_by D_law_turned D_law_owed D_law_sum_by D_law_asked D_law_due D_law_good_then
theorem walk {l : PySem.W.OpenLaw} {q : Program} {loose : List Str} {XP : (Str → Option Value) → Heap → Prop} {YP : World → Heap → Prop} {d : DefRec} {K : Params → PySem.W.Frag} (hn : l.most = some 63) (hdf : d.params.defaults = [])
    (hY : ∀ (w : World) (h : Heap), YP w h → (K w.params).In h)
    (F : ∀ (w : World) (mg : Str → Option Value) (fa : Addr) (h : Heap), (K w.params).In h → h.Ns mainGlobals mg → mg d.name = some (.ref fa) →
      ∃ fd : FuncData, (∀ (s : Shared) (u : Value), BindsTo s fd ⟨[u], []⟩ [("_law_script", u)]) ∧ ∀ base : Heap, (K w.params).In base → base.Ns mainGlobals mg → FnOk l.prog w (K w.params) mg base CX0 10 fa fd ["_law_script"] (sp_law (K w.params))) :
    PySem.W.WalkO q loose XP YP l.row.toRowW d [] (fun f vs => PySem.call f vs) :=
  L2.walk_of (n := 63) (k := 10) (x := "_law_script") (CX := fun _ => CX0) (sp := fun w => sp_law (K w.params)) hn (by decide) hdf ⟨rfl, by decide, by decide⟩ hY F (fun _ _ a ns hl _ hS => ⟨a, ns, rfl, hS, hl, fun _ => rfl⟩) fun _ _ _ _ _ z => z
end Toy
open PySem PySem.W PyProof.Rows
set_option maxRecDepth 100000 in
set_option maxHeartbeats 0 in
theorem PySem.Challenge.cw_loanplan_k12_plans_refused_holds : PySem.Challenge.rw_loanplan_k12_plans_refused.Holds := by
  w_on; o_law; k_head; (case hw => w_witness2)
  k_fill
  refine Toy.walk (l := PySem.Challenge.rw_loanplan_k12_plans_refused) rfl rfl (fun w h Y => PySem.W.kIn_of Y) ?F
  case F =>
    intro w mg fa h KX G hmg
    refine' Toy.all_mk KX G hmg ?z_len ?z_max ?z_min ?z_int ?z_list ?z_range ?z_isinstance ?z_ValueError ?q_MOST_DAY ?q_MOST_RATE ?q_MOST_AMOUNT ?q_MILLION ?ac_LoanError ?xc_LoanError ?xk_LoanError ?xs_LoanError ?xt_LoanError ?ac_BadAmount ?xc_BadAmount ?xk_BadAmount ?xs_BadAmount ?xt_BadAmount ?ac_BadRate ?xc_BadRate ?xk_BadRate ?xs_BadRate ?xt_BadRate ?ac_BadDay ?xc_BadDay ?xk_BadDay ?xs_BadDay ?xt_BadDay ?ac_BadPay ?xc_BadPay ?xk_BadPay ?xs_BadPay ?xt_BadPay ?ac_Loan ?pg_Loan ?hd_Loan ?po_Loan ?sa_Loan ?mk_Loan ?kc_Loan ?nf_Loan_left ?nf_Loan_begun ?nf_Loan_day ?nf_Loan_rates ?xg_BadAmount ?xq_BadAmount ?xb_BadAmount ?xd_BadAmount ?xa_BadAmount ?xn_BadAmount ?xp_BadAmount ?xm_BadAmount ?sv_BadAmount ?xg_BadDay ?xq_BadDay ?xb_BadDay ?xd_BadDay ?xa_BadDay ?xn_BadDay ?xp_BadDay ?xm_BadDay ?sv_BadDay ?xg_BadPay ?xq_BadPay ?xb_BadPay ?xd_BadPay ?xa_BadPay ?xn_BadPay ?xp_BadPay ?xm_BadPay ?sv_BadPay ?xg_BadRate ?xq_BadRate ?xb_BadRate ?xd_BadRate ?xa_BadRate ?xn_BadRate ?xp_BadRate ?xm_BadRate ?sv_BadRate ?sb_BadAmount_BadPay ?sb_BadPay_BadPay ?sb_BadDay_BadPay ?sb_BadRate_BadPay ?sb_BadAmount_BadDay ?sb_BadAmount_LoanError ?sb_BadDay_BadDay ?sb_BadDay_LoanError ?sb_BadPay_BadDay ?sb_BadPay_LoanError ?sb_BadRate_BadDay ?sb_BadRate_LoanError ?dd_BadDay ?dd_BadPay ?dd_LoanError ?at_need_rate ?lk_need_rate ?cd_need_rate_in ?kp_need_rate ?at_checked ?lk_checked ?cd_checked_in ?kp_checked ?at_grown ?lk_grown ?cd_grown_in ?kp_grown ?at_need_days ?lk_need_days ?cd_need_days_in ?kp_need_days ?at_need_some ?lk_need_some ?cd_need_some_in ?kp_need_some ?at_need_part ?lk_need_part ?cd_need_part_in ?kp_need_part ?at_rows_of ?lk_rows_of ?cd_rows_of_in ?kp_rows_of ?at_plan ?lk_plan ?cd_plan_in ?kp_plan ?at_settles ?lk_settles ?cd_settles_in ?kp_settles ?at_least_part ?lk_least_part ?cd_least_part_in ?kp_least_part ?at_whole_cost ?lk_whole_cost ?cd_whole_cost_in ?kp_whole_cost ?at_cost ?lk_cost ?cd_cost_in ?kp_cost ?at_saved ?lk_saved ?cd_saved_in ?kp_saved ?at_need_amount ?lk_need_amount ?cd_need_amount_in ?kp_need_amount ?at_Loan_init ?is_Loan_init ?lk_Loan_init ?cd_Loan_init_in ?kp_Loan_init ?at_Loan_stand ?is_Loan_stand ?lk_Loan_stand ?cd_Loan_stand_in ?kp_Loan_stand ?at_Loan_owed ?is_Loan_owed ?lk_Loan_owed ?cd_Loan_owed_in ?kp_Loan_owed ?at_Loan_pay ?is_Loan_pay ?lk_Loan_pay ?cd_Loan_pay_in ?kp_Loan_pay ?at_Loan_change ?is_Loan_change ?lk_Loan_change ?cd_Loan_change_in ?kp_Loan_change ?at_Loan_twin ?is_Loan_twin ?lk_Loan_twin ?cd_Loan_twin_in ?kp_Loan_twin ?at_law_cell_at ?lk_law_cell_at ?cd_law_cell_at_in ?kp_law_cell_at ?at_law_mixed ?lk_law_mixed ?cd_law_mixed_in ?kp_law_mixed ?at_law_rate_by ?lk_law_rate_by ?cd_law_rate_by_in ?kp_law_rate_by ?at_law_row_by ?lk_law_row_by ?cd_law_row_by_in ?kp_law_row_by ?at_law_sum_by ?lk_law_sum_by ?cd_law_sum_by_in ?kp_law_sum_by ?at_law_amount_by ?lk_law_amount_by ?cd_law_amount_by_in ?kp_law_amount_by ?at_law_owed ?lk_law_owed ?cd_law_owed_in ?kp_law_owed ?at_law_parts ?lk_law_parts ?cd_law_parts_in ?kp_law_parts ?at_law_days_by ?lk_law_days_by ?cd_law_days_by_in ?kp_law_days_by ?at_law_at_by ?lk_law_at_by ?cd_law_at_by_in ?kp_law_at_by ?at_law_made ?lk_law_made ?cd_law_made_in ?kp_law_made ?at_law_loan_by ?lk_law_loan_by ?cd_law_loan_by_in ?kp_law_loan_by ?at_law_turned ?lk_law_turned ?cd_law_turned_in ?kp_law_turned ?at_law_days_good ?lk_law_days_good ?cd_law_days_good_in ?kp_law_days_good ?at_law_asked ?lk_law_asked ?cd_law_asked_in ?kp_law_asked ?at_law_due ?lk_law_due ?cd_law_due_in ?kp_law_due ?at_law_behind ?lk_law_behind ?cd_law_behind_in ?kp_law_behind ?at_law_good_then ?lk_law_good_then ?cd_law_good_then_in ?kp_law_good_then ?at_law ?lk_law ?cd_law_in ?kp_law
    (case z_len => k_is)
    (case z_max => k_is)
    (case z_min => k_is)
    (case z_int => k_is)
    (case z_list => k_is)
    (case z_range => k_is)
    (case z_isinstance => k_is)
    (case z_ValueError => k_is)
    (case q_MOST_DAY => k_is)
    (case q_MOST_RATE => k_is)
    (case q_MOST_AMOUNT => k_is)
    (case q_MILLION => k_is)
    (case ac_LoanError => k_is)
    (case xc_LoanError => k_exc)
    (case xk_LoanError => k_is)
    (case xs_LoanError => k_is)
    (case xt_LoanError => k_is)
    (case ac_BadAmount => k_is)
    (case xc_BadAmount => k_exc)
    (case xk_BadAmount => k_is)
    (case xs_BadAmount => k_is)
    (case xt_BadAmount => k_is)
    (case ac_BadRate => k_is)
    (case xc_BadRate => k_exc)
    (case xk_BadRate => k_is)
    (case xs_BadRate => k_is)
    (case xt_BadRate => k_is)
    (case ac_BadDay => k_is)
    (case xc_BadDay => k_exc)
    (case xk_BadDay => k_is)
    (case xs_BadDay => k_is)
    (case xt_BadDay => k_is)
    (case ac_BadPay => k_is)
    (case xc_BadPay => k_exc)
    (case xk_BadPay => k_is)
    (case xs_BadPay => k_is)
    (case xt_BadPay => k_is)
    (case ac_Loan => k_is)
    (case pg_Loan => k_is)
    (case hd_Loan => k_is)
    (case po_Loan => k_is)
    (case sa_Loan => k_is)
    (case mk_Loan => k_is)
    (case kc_Loan => k_is)
    (case nf_Loan_left => k_is)
    (case nf_Loan_begun => k_is)
    (case nf_Loan_day => k_is)
    (case nf_Loan_rates => k_is)
    (case xg_BadAmount => k_is)
    (case xq_BadAmount => k_is)
    (case xb_BadAmount => k_is)
    (case xd_BadAmount => k_is)
    (case xa_BadAmount => k_is)
    (case xn_BadAmount => k_is)
    (case xp_BadAmount => k_is)
    (case xm_BadAmount => k_is)
    (case sv_BadAmount => k_is)
    (case xg_BadDay => k_is)
    (case xq_BadDay => k_is)
    (case xb_BadDay => k_is)
    (case xd_BadDay => k_is)
    (case xa_BadDay => k_is)
    (case xn_BadDay => k_is)
    (case xp_BadDay => k_is)
    (case xm_BadDay => k_is)
    (case sv_BadDay => k_is)
    (case xg_BadPay => k_is)
    (case xq_BadPay => k_is)
    (case xb_BadPay => k_is)
    (case xd_BadPay => k_is)
    (case xa_BadPay => k_is)
    (case xn_BadPay => k_is)
    (case xp_BadPay => k_is)
    (case xm_BadPay => k_is)
    (case sv_BadPay => k_is)
    (case xg_BadRate => k_is)
    (case xq_BadRate => k_is)
    (case xb_BadRate => k_is)
    (case xd_BadRate => k_is)
    (case xa_BadRate => k_is)
    (case xn_BadRate => k_is)
    (case xp_BadRate => k_is)
    (case xm_BadRate => k_is)
    (case sv_BadRate => k_is)
    (case sb_BadAmount_BadPay => first | k_is | rfl)
    (case sb_BadPay_BadPay => first | k_is | rfl)
    (case sb_BadDay_BadPay => first | k_is | rfl)
    (case sb_BadRate_BadPay => first | k_is | rfl)
    (case sb_BadAmount_BadDay => first | k_is | rfl)
    (case sb_BadAmount_LoanError => first | k_is | rfl)
    (case sb_BadDay_BadDay => first | k_is | rfl)
    (case sb_BadDay_LoanError => first | k_is | rfl)
    (case sb_BadPay_BadDay => first | k_is | rfl)
    (case sb_BadPay_LoanError => first | k_is | rfl)
    (case sb_BadRate_BadDay => first | k_is | rfl)
    (case sb_BadRate_LoanError => first | k_is | rfl)
    (case dd_BadDay => k_is)
    (case dd_BadPay => k_is)
    (case dd_LoanError => k_is)
    (case at_need_rate => k_is)
    (case lk_need_rate => k_is)
    (case cd_need_rate_in => k_is)
    (case kp_need_rate => k_is)
    (case at_checked => k_is)
    (case lk_checked => k_is)
    (case cd_checked_in => k_is)
    (case kp_checked => k_is)
    (case at_grown => k_is)
    (case lk_grown => k_is)
    (case cd_grown_in => k_is)
    (case kp_grown => k_is)
    (case at_need_days => k_is)
    (case lk_need_days => k_is)
    (case cd_need_days_in => k_is)
    (case kp_need_days => k_is)
    (case at_need_some => k_is)
    (case lk_need_some => k_is)
    (case cd_need_some_in => k_is)
    (case kp_need_some => k_is)
    (case at_need_part => k_is)
    (case lk_need_part => k_is)
    (case cd_need_part_in => k_is)
    (case kp_need_part => k_is)
    (case at_rows_of => k_is)
    (case lk_rows_of => k_is)
    (case cd_rows_of_in => k_is)
    (case kp_rows_of => k_is)
    (case at_plan => k_is)
    (case lk_plan => k_is)
    (case cd_plan_in => k_is)
    (case kp_plan => k_is)
    (case at_settles => k_is)
    (case lk_settles => k_is)
    (case cd_settles_in => k_is)
    (case kp_settles => k_is)
    (case at_least_part => k_is)
    (case lk_least_part => k_is)
    (case cd_least_part_in => k_is)
    (case kp_least_part => k_is)
    (case at_whole_cost => k_is)
    (case lk_whole_cost => k_is)
    (case cd_whole_cost_in => k_is)
    (case kp_whole_cost => k_is)
    (case at_cost => k_is)
    (case lk_cost => k_is)
    (case cd_cost_in => k_is)
    (case kp_cost => k_is)
    (case at_saved => k_is)
    (case lk_saved => k_is)
    (case cd_saved_in => k_is)
    (case kp_saved => k_is)
    (case at_need_amount => k_is)
    (case lk_need_amount => k_is)
    (case cd_need_amount_in => k_is)
    (case kp_need_amount => k_is)
    (case at_Loan_init => k_is)
    (case is_Loan_init => k_is)
    (case lk_Loan_init => k_is)
    (case cd_Loan_init_in => k_is)
    (case kp_Loan_init => k_is)
    (case at_Loan_stand => k_is)
    (case is_Loan_stand => k_is)
    (case lk_Loan_stand => k_is)
    (case cd_Loan_stand_in => k_is)
    (case kp_Loan_stand => k_is)
    (case at_Loan_owed => k_is)
    (case is_Loan_owed => k_is)
    (case lk_Loan_owed => k_is)
    (case cd_Loan_owed_in => k_is)
    (case kp_Loan_owed => k_is)
    (case at_Loan_pay => k_is)
    (case is_Loan_pay => k_is)
    (case lk_Loan_pay => k_is)
    (case cd_Loan_pay_in => k_is)
    (case kp_Loan_pay => k_is)
    (case at_Loan_change => k_is)
    (case is_Loan_change => k_is)
    (case lk_Loan_change => k_is)
    (case cd_Loan_change_in => k_is)
    (case kp_Loan_change => k_is)
    (case at_Loan_twin => k_is)
    (case is_Loan_twin => k_is)
    (case lk_Loan_twin => k_is)
    (case cd_Loan_twin_in => k_is)
    (case kp_Loan_twin => k_is)
    (case at_law_cell_at => k_is)
    (case lk_law_cell_at => k_is)
    (case cd_law_cell_at_in => k_is)
    (case kp_law_cell_at => k_is)
    (case at_law_mixed => k_is)
    (case lk_law_mixed => k_is)
    (case cd_law_mixed_in => k_is)
    (case kp_law_mixed => k_is)
    (case at_law_rate_by => k_is)
    (case lk_law_rate_by => k_is)
    (case cd_law_rate_by_in => k_is)
    (case kp_law_rate_by => k_is)
    (case at_law_row_by => k_is)
    (case lk_law_row_by => k_is)
    (case cd_law_row_by_in => k_is)
    (case kp_law_row_by => k_is)
    (case at_law_sum_by => k_is)
    (case lk_law_sum_by => k_is)
    (case cd_law_sum_by_in => k_is)
    (case kp_law_sum_by => k_is)
    (case at_law_amount_by => k_is)
    (case lk_law_amount_by => k_is)
    (case cd_law_amount_by_in => k_is)
    (case kp_law_amount_by => k_is)
    (case at_law_owed => k_is)
    (case lk_law_owed => k_is)
    (case cd_law_owed_in => k_is)
    (case kp_law_owed => k_is)
    (case at_law_parts => k_is)
    (case lk_law_parts => k_is)
    (case cd_law_parts_in => k_is)
    (case kp_law_parts => k_is)
    (case at_law_days_by => k_is)
    (case lk_law_days_by => k_is)
    (case cd_law_days_by_in => k_is)
    (case kp_law_days_by => k_is)
    (case at_law_at_by => k_is)
    (case lk_law_at_by => k_is)
    (case cd_law_at_by_in => k_is)
    (case kp_law_at_by => k_is)
    (case at_law_made => k_is)
    (case lk_law_made => k_is)
    (case cd_law_made_in => k_is)
    (case kp_law_made => k_is)
    (case at_law_loan_by => k_is)
    (case lk_law_loan_by => k_is)
    (case cd_law_loan_by_in => k_is)
    (case kp_law_loan_by => k_is)
    (case at_law_turned => k_is)
    (case lk_law_turned => k_is)
    (case cd_law_turned_in => k_is)
    (case kp_law_turned => k_is)
    (case at_law_days_good => k_is)
    (case lk_law_days_good => k_is)
    (case cd_law_days_good_in => k_is)
    (case kp_law_days_good => k_is)
    (case at_law_asked => k_is)
    (case lk_law_asked => k_is)
    (case cd_law_asked_in => k_is)
    (case kp_law_asked => k_is)
    (case at_law_due => k_is)
    (case lk_law_due => k_is)
    (case cd_law_due_in => k_is)
    (case kp_law_due => k_is)
    (case at_law_behind => k_is)
    (case lk_law_behind => k_is)
    (case cd_law_behind_in => k_is)
    (case kp_law_behind => k_is)
    (case at_law_good_then => k_is)
    (case lk_law_good_then => k_is)
    (case cd_law_good_then_in => k_is)
    (case kp_law_good_then => k_is)
    (case at_law => k_is)
    (case lk_law => k_is)
    (case cd_law_in => k_is)
    (case kp_law => k_is)
