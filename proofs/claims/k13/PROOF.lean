import PyProof.Rows.All
import Wide.All
import OpenK.AllK
import Wide.FinOn
import HandS.ForMost
import HandS.ForExc
import HandS.Evl
import HandS.IsInst
import HandS.TryMany
import HandS.TryOnly
import HandS.Walk
import HandS.ReplaceLit
import HandS.Codes
import HandS.Style
import HandS.Conv
import HandS.FStr
import HandS.EndBits
import HandS.HotCalls
import HandS.ExcIs
import PySem.Challenge.RW_loanplan_k13_notes
set_option Elab.async false
set_option linter.all false
set_option maxRecDepth 100000
set_option maxHeartbeats 4000000
/-! ### short words -/
namespace L2
open PySem PySem.Spec PyProof.Rows
section
variable {X : Cx}
/-- * of ints of any size that the machine takes -/
theorem op_mulX : OpR X (binaryOp .Mult) (rI IntMulOk fun i j => .int (i * j)) := opI fun _ _ _ _ _ _ _ hc q => mul_int q hc
end
/-- a def of the text with its promise, as its callers see it -/
structure Df (P : Program) (w : World) (K : PySem.W.Frag) (mg : Str → Option Value) (base : Heap) (CX : CXT) (k : Nat) (x : Str) (ps : List Str) (sp : Sp) where
  f : Addr
  fd : FuncData
  G : FnOk P w K mg base CX k f fd ps sp
  m : mg x = some (.ref f)
  kp : PySem.W.keepIn K (.ref f) = true
  b : Binds K fd ps []
/-- a method of the class at C -/
structure Dm (P : Program) (w : World) (K : PySem.W.Frag) (mg : Str → Option Value) (base : Heap) (CX : CXT) (k : Nat) (C : Addr) (x : Str) (ps : List Str) (sp : Sp) where
  f : Addr
  fd : FuncData
  G : FnOk P w K mg base CX k f fd ps sp
  me : Meth K C x f
  b : Binds K fd ps []
/-- the class's __init__ -/
structure Di (P : Program) (w : World) (K : PySem.W.Frag) (mg : Str → Option Value) (base : Heap) (CX : CXT) (k : Nat) (C : Addr) (x : Str) (ps : List Str) (sp : Sp) where
  f : Addr
  fd : FuncData
  G : FnOk P w K mg base CX k f fd ps sp
  mC : Mk K C f
  g : mg x = some (.ref C)
  b : Binds K fd ps []
section
variable {X : Cx} {k j : Nat} {x m : Str} {ps : List Str} {sp : Sp} {e o : Expr} {es : List Expr} {t : TA} {ta : TE} {p pos apos : Pos} {C : Addr}
/-- a call of a def that lets nothing out -/
theorem pc0 (D : Df X.prog X.w X.K X.mg X.base CX0 k x ps sp) (hr : Room j X.A) (ha : PA X (e :: es) t) (hle : k ≤ j := by decide) (hg : Gl X x := by rfl) (hdb : (x == ("__debug__" : Str)) = false := by decide) (he : starEach (e :: es) X.env = (false, eval e X.env) :: starEach es X.env := by rfl) (hpl : (backTo pos (starEach es X.env)).any (·.1) = false := by rfl) :
    PE X (.Call (.Name x p) (e :: es) [] pos) (tCall sp [] E0 t) := pe_call D.G (hr.mono hle) hg D.m D.kp D.b .nil pass0 ha hdb he hpl
/-- a call of a def that may raise, where nothing may be let out -/
theorem pcL (D : Df X.prog X.w X.K X.mg X.base (L2.CX X.prog X.w) k x ps sp) (hr : Room j X.A) (ha : PA X (e :: es) t) (hle : k ≤ j := by decide) (hg : Gl X x := by rfl) (hdb : (x == ("__debug__" : Str)) = false := by decide) (he : starEach (e :: es) X.env = (false, eval e X.env) :: starEach es X.env := by rfl) (hpl : (backTo pos (starEach es X.env)).any (·.1) = false := by rfl) :
    PE X (.Call (.Name x p) (e :: es) [] pos) (tCall sp [] E0 t) := pe_call D.G (hr.mono hle) hg D.m D.kp D.b .nil passL ha hdb he hpl
end
section
variable {X : Cx} {x : Str} {pos : Pos}
theorem pe_gint {i : Int} (hm : ∃ t, X.mg x = some (.int i t)) (hg : Gl X x := by rfl) (hd : (x == ("__debug__" : Str)) = false := by decide) : PE X (.Name x pos) (tC (.int i)) := by
  obtain ⟨t, hm⟩ := hm
  exact pe_glob hg hm ⟨t, rfl⟩ hd
theorem pe_gstr {z : Str} (hm : ∃ t, X.mg x = some (.str z t)) (hg : Gl X x := by rfl) (hd : (x == ("__debug__" : Str)) = false := by decide) : PE X (.Name x pos) (tC (.str z)) := by
  obtain ⟨t, hm⟩ := hm
  exact pe_glob hg hm ⟨t, rfl⟩ hd
end
theorem pe_gref {X : Cx} {x : Str} {pos : Pos} {a : Addr} (hm : X.mg x = some (.ref a)) (hg : Gl X x := by rfl) (hd : (x == ("__debug__" : Str)) = false := by decide) : PE X (.Name x pos) (tC (.ref a)) := pe_glob hg hm rfl hd
/-- what the top says of an own exception class -/
structure ExC (K : PySem.W.Frag) (C : Addr) : Prop where
  x : PySem.W.excIn K C [.type "ValueError", .type "Exception", .type "BaseException", .type "object"] "ValueError.__new__" = true
  k : PySem.W.keepIn K (.ref C) = true
  s : PySem.W.subIn K (.ref C) (.type "BaseException") = some true
  t : PySem.W.typeIn K (.ref C) = some (.type "type")
theorem md {j : Int} (h : 0 < j := by decide) : 0 < j := h
theorem dv {i j : Int} (h : 0 < j := by decide) (h2 : j < 1073741824 := by decide) : CDiv i j := ⟨h, h2⟩
theorem mulR {i j : Int} (h : Builtin.Int.intBits j ≤ 64 := by decide) : IntMulOk i j := IntMulOk.of_right h
theorem mulL {i j : Int} (h : Builtin.Int.intBits i ≤ 64 := by decide) : IntMulOk i j := IntMulOk.of_left h
/-! ### ifs -/
theorem ifd {c A B : Prop} [Decidable c] (h1 : c → A) (h2 : ¬ c → B) : if decide c = true then A else B := by
  by_cases h : c
  · rw [if_pos (decide_eq_true h)]
    exact h1 h
  · rw [if_neg (by rw [decide_eq_false h]; exact Bool.false_ne_true)]
    exact h2 h
theorem ifdn {c A B : Prop} [Decidable c] (h1 : ¬ c → A) (h2 : c → B) : if (!decide c) = true then A else B := by
  by_cases h : c
  · rw [if_neg (by rw [decide_eq_true h]; decide)]
    exact h2 h
  · rw [if_pos (by rw [decide_eq_false h]; rfl)]
    exact h1 h
theorem if_eq {i j : Int} {A B : Prop} (h1 : i = j → A) (h2 : i ≠ j → B) : if decide (V.int i = V.int j) = true then A else B := ifd (fun h => h1 (V.int.inj h)) (fun h => h2 fun e => h (by rw [e]))
theorem if_ne {i j : Int} {A B : Prop} (h1 : i ≠ j → A) (h2 : i = j → B) : if (!decide (V.int i = V.int j)) = true then A else B := ifdn (fun h => h1 fun e => h (by rw [e])) (fun h => h2 (V.int.inj h))
theorem ifb {b : Bool} {A B : Prop} (h1 : b = true → A) (h2 : b = false → B) : if b = true then A else B := by
  cases b with
  | true => rw [if_pos rfl]; exact h1 rfl
  | false => rw [if_neg Bool.false_ne_true]; exact h2 rfl
theorem ifnT {A B : Prop} (h : B) : if (!true) = true then A else B := h
theorem ifnF {A B : Prop} (h : A) : if (!false) = true then A else B := h
theorem decT {c : Prop} [Decidable c] (h : c) : decide c = true := decide_eq_true h
/-- what follows, of an equal value -/
theorem vq {Q : V → Hp → Prop} {v u : V} {H : Hp} (e : v = u) (q : Q u H) : Q v H := by
  rw [e]
  exact q
theorem eqInt {i j : Int} (h : i = j) : decide (V.int i = V.int j) = true := decide_eq_true (by rw [h])
/-! ### heaps -/
theorem Same.upd {H H' : Hp} (e : Same H H') {p : Addr} {o : HO} (h : H' p = none) : Same H (L2.upd H' p o) := fun b u q => by
  rw [upd_ne (ne_of_none (e b u q) h)]
  exact e b u q
theorem Same.new {H : Hp} {p : Addr} {o : HO} (h : H p = none) : Same H (L2.upd H p o) := Same.upd (Same.refl H) h
/-- an object that H does not know may change -/
theorem Same.mut {H H' : Hp} (e : Same H H') {p : Addr} {o : HO} (h : H p = none) : Same H (L2.upd H' p o) := fun b u q => by
  rw [upd_ne (ne_of_none q h)]
  exact e b u q
theorem Same.seqT {K : PySem.W.Frag} {H H' : Hp} {a : Addr} {xs : List V} (e : Same H H') (h : SqT K H a xs) : SqT K H' a xs := by
  rcases h with (h | ⟨o, h⟩) | h
  · exact .inl (.inl (e _ _ h))
  · exact .inl (.inr ⟨o, e _ _ h⟩)
  · exact .inr h
theorem pow62 {i : Int} (h0 : 0 ≤ i) (h1 : i ≤ 1000000) : -(2 ^ 62) ≤ i ∧ i < 2 ^ 62 := ⟨by omega, by omega⟩
theorem sz_small {n : Nat} (h : n ≤ 100000) : n ≤ sizeLine := Nat.le_trans h (by decide)
theorem szl {xs : List V} (n : Nat) (h : xs.length = n := by rfl) (h2 : n ≤ 100000 := by decide) : xs.length ≤ sizeLine := by rw [h]; exact sz_small h2
theorem sz_lt {n : Nat} (h : n < 100000) : n < sizeLine := Nat.lt_of_lt_of_le h (by decide)
theorem at0 {xs : List V} {v : V} (h : xs[0]? = some v) : atI xs 0 = some v := atI_nat (j := 0) h
theorem at_m {α : Type} {f : α → V} {l : List α} {z : Int} {j : Nat} {a : α} (e : z = (j : Int)) (h : l[j]? = some a) : atI (l.map f) z = some (f a) := at_of e (by rw [List.getElem?_map, h]; rfl)
theorem map_get {α : Type} {f : α → V} {l : List α} {j : Nat} {v : V} (h : (l.map f)[j]? = some v) : ∃ a, l[j]? = some a ∧ v = f a := by
  rw [List.getElem?_map] at h
  cases e : l[j]? with
  | none => rw [e] at h; cases h
  | some a => rw [e] at h; exact ⟨a, rfl, (Option.some.inj h).symm⟩
end L2

local macro_rules | `(tactic| walk_at "rd1") => `(tactic| first
  | refine ⟨_, rfl, ?_⟩
  | refine ⟨_, _, rfl, rfl, ?_⟩
  | refine ⟨L2.dv, ?_⟩
  | refine ⟨L2.md, ?_⟩
  | refine ⟨L2.mulL, ?_⟩
  | refine ⟨L2.mulR, ?_⟩
  | refine ⟨rfl, ?_⟩
  | refine ⟨_, _, _, rfl, by assumption, by decide, ?_⟩
  | refine ⟨_, _, rfl, ?_⟩)
local macro_rules | `(tactic| walk_at "rd") => `(tactic| repeat (walk_at "rd1"))
/-! ### the mathematics: what the program and the laws reckon, as plain functions -/
namespace Toy
/-- a cell of the script -/
def cellAt (ns : List Int) (k : Int) : Int := ns.getD k.toNat 0
def mixed (c m : Int) : Int := (c * 48271 + 12345) % 2147483647 % m
theorem mixed_ge {c m : Int} (h : 0 < m) : 0 ≤ mixed c m := Int.emod_nonneg _ (by omega)
theorem mixed_lt {c m : Int} (h : 0 < m) : mixed c m < m := Int.emod_lt_of_pos _ h
def rateBy (c : Int) : Int := if c % 5 = 0 then ([0, 1, 99999, 100000] : List Int).getD (c / 5 % 4).toNat 0 else if c % 5 = 1 then c / 5 % 400 else mixed c 100001
theorem rateBy_ok (c : Int) : 0 ≤ rateBy c ∧ rateBy c ≤ 100000 := by
  unfold rateBy
  split
  · have h0 : 0 ≤ c / 5 % 4 := by omega
    have h1 : c / 5 % 4 < 4 := by omega
    obtain ⟨j, ej⟩ : ∃ j : Nat, c / 5 % 4 = (j : Int) := ⟨(c / 5 % 4).toNat, by omega⟩
    rw [ej]
    have hj : j < 4 := by omega
    match j, hj with
    | 0, _ => decide
    | 1, _ => decide
    | 2, _ => decide
    | 3, _ => decide
  · split
    · omega
    · have h1 := mixed_ge (c := c) (m := 100001) (by decide)
      have h2 := mixed_lt (c := c) (m := 100001) (by decide)
      omega
abbrev Pr := Int × Int
/-- the last pair's day -/
def lastDay (ps : List Pr) : Int := (ps.getLastD (0, 0)).1
def rowUp (c wide : Int) : Nat → List Pr
  | 0 => [(0, rateBy c)]
  | n + 1 => rowUp c wide n ++ [(lastDay (rowUp c wide n) + 1 + mixed (c + 13 * ((n : Int) + 1)) wide, rateBy (c / 7 + 31 * ((n : Int) + 1)))]
def rowBy (c many wide : Int) : List Pr := rowUp c wide (many - 1).toNat
theorem rowUp_len (c wide : Int) : ∀ n, (rowUp c wide n).length = n + 1
  | 0 => rfl
  | n + 1 => by
    show (rowUp c wide n ++ [_]).length = _
    rw [List.length_append, rowUp_len c wide n]
    rfl
/-- the days go up, behind d -/
def Up : Int → List Pr → Prop
  | _, [] => True
  | d, p :: r => d < p.1 ∧ Up p.1 r
theorem Up.snoc : ∀ {d : Int} {ps : List Pr} {p : Pr}, Up d ps → (ps.getLastD (d, 0)).1 < p.1 → Up d (ps ++ [p])
  | d, [], p, _, h => ⟨h, trivial⟩
  | d, q :: r, p, h, h2 => by
    refine ⟨h.1, Up.snoc (d := q.1) (ps := r) h.2 ?_⟩
    cases r with
    | nil => exact h2
    | cons a b => exact h2
/-- a good row of rates -/
structure Good (ps : List Pr) : Prop where
  ne : ∃ r rest, ps = (0, r) :: rest
  up : Up (-1) ps
  rate : ∀ p ∈ ps, 0 ≤ p.2 ∧ p.2 ≤ 100000
theorem getLastD_append {α : Type} (l : List α) (a d : α) : (l ++ [a]).getLastD d = a := by
  rw [List.getLastD_eq_getLast?, List.getLast?_append]
  rfl
theorem lastDay_ge {ps : List Pr} (g : Good ps) : 0 ≤ lastDay ps := by
  obtain ⟨r, rest, rfl⟩ := g.ne
  have h2 : Up 0 rest := g.up.2
  clear g
  have go : ∀ (l : List Pr) (q : Pr), 0 ≤ q.1 → Up q.1 l → 0 ≤ ((q :: l).getLastD (0, 0)).1 := by
    intro l
    induction l with
    | nil => intro q h _; exact h
    | cons a b ih => intro q h u; exact ih a (by have := u.1; omega) u.2
  exact go rest (0, r) (by show (0 : Int) ≤ 0; decide) h2
theorem getLastD_ne {α : Type} : ∀ {l : List α} (_ : l ≠ []) (a b : α), l.getLastD a = l.getLastD b
  | [], h, _, _ => absurd rfl h
  | _ :: _, _, _, _ => rfl
theorem Good.snoc {ps : List Pr} {p : Pr} (g : Good ps) (h : lastDay ps < p.1) (h0 : 0 ≤ p.2) (h1 : p.2 ≤ 100000) : Good (ps ++ [p]) := by
  refine ⟨?_, g.up.snoc ?_, ?_⟩
  · obtain ⟨r, rest, rfl⟩ := g.ne
    exact ⟨r, rest ++ [p], rfl⟩
  · obtain ⟨r, rest, e⟩ := g.ne
    rw [getLastD_ne (by rw [e]; simp) _ (0, 0)]
    exact h
  · intro q hq
    rcases List.mem_append.mp hq with e | e
    · exact g.rate q e
    · have e2 : q = p := by simpa using e
      rw [e2]
      exact ⟨h0, h1⟩
theorem rowUp_good {c wide : Int} (hw : 0 < wide) : ∀ n, Good (rowUp c wide n) ∧ lastDay (rowUp c wide n) ≤ n * wide
  | 0 => ⟨⟨⟨_, _, rfl⟩, ⟨by show (-1 : Int) < 0; decide, trivial⟩, fun p hp => by
      have e : p = (0, rateBy c) := by simpa [rowUp] using hp
      rw [e]
      exact rateBy_ok c⟩, by show (0 : Int) ≤ _; simp⟩
  | n + 1 => by
    obtain ⟨g, l⟩ := rowUp_good (c := c) hw n
    have h1 := mixed_ge (c := c + 13 * ((n : Int) + 1)) hw
    have h2 := mixed_lt (c := c + 13 * ((n : Int) + 1)) hw
    have h3 := rateBy_ok (c / 7 + 31 * ((n : Int) + 1))
    refine ⟨g.snoc (by show lastDay _ < lastDay _ + 1 + _; omega) h3.1 h3.2, ?_⟩
    unfold lastDay at l ⊢
    show ((rowUp c wide n ++ [_]).getLastD (0, 0)).1 ≤ _
    rw [getLastD_append]
    show lastDay _ + 1 + _ ≤ _
    have e : ((n + 1 : Nat) : Int) * wide = n * wide + wide := by
      rw [Int.natCast_add, Int.add_mul]
      simp
    rw [e]
    unfold lastDay
    omega
/-- the rate of a day -/
def rateOn (ps : List Pr) (d : Int) : Int := ps.foldl (fun f p => if p.1 ≤ d then p.2 else f) 0
end Toy
namespace Toy
theorem rateOn_at {A B : List Pr} {p : Pr} {d : Int} (h : p.1 ≤ d) (hB : ∀ q ∈ B, d < q.1) : rateOn (A ++ p :: B) d = p.2 := by
  unfold rateOn
  rw [List.foldl_append, List.foldl_cons, if_pos h]
  generalize p.2 = x
  clear h
  induction B with
  | nil => rfl
  | cons q B ih =>
    rw [List.foldl_cons, if_neg (by have := hB q (by simp); omega)]
    exact ih fun u hu => hB u (by simp [hu])
/-- by the place in the row -/
theorem rateOn_place {ps : List Pr} {j : Nat} {p : Pr} {d : Int} (hj : ps[j]? = some p) (h : p.1 ≤ d) (hB : ∀ (i : Nat) q, j < i → ps[i]? = some q → d < q.1) : rateOn ps d = p.2 := by
  have hl := (List.getElem?_eq_some_iff.mp hj).1
  have e : ps = ps.take j ++ p :: ps.drop (j + 1) := by
    have h2 : ps[j] = p := (List.getElem?_eq_some_iff.mp hj).2
    rw [← h2, List.getElem_cons_drop, List.take_append_drop]
  rw [e]
  refine rateOn_at h fun q hq => ?_
  obtain ⟨i, hi⟩ := List.mem_iff_getElem?.mp hq
  rw [List.getElem?_drop] at hi
  exact hB (j + 1 + i) q (by omega) hi
theorem rowBy_len {c many wide : Int} (h : 1 ≤ many) : (rowBy c many wide).length = many.toNat := by
  unfold rowBy
  rw [rowUp_len]
  omega
theorem rowBy_good {c many wide : Int} (hw : 0 < wide) : Good (rowBy c many wide) := (rowUp_good hw _).1
theorem rowBy_last {c many wide : Int} (hw : 0 < wide) (h : 1 ≤ many) : lastDay (rowBy c many wide) ≤ (many - 1) * wide := by
  have := (rowUp_good (c := c) hw (many - 1).toNat).2
  have e : (((many - 1).toNat : Nat) : Int) = many - 1 := by omega
  rw [e] at this
  exact this
theorem Good.first {ps : List Pr} (g : Good ps) : ∃ r, ps[0]? = some (0, r) := by
  obtain ⟨r, rest, e⟩ := g.ne
  exact ⟨r, by rw [e]; rfl⟩
theorem get_of {α : Type} {l : List α} {j : Nat} (h : j < l.length) : ∃ a, l[j]? = some a := ⟨l[j], List.getElem?_eq_getElem h⟩
end Toy
namespace Toy
theorem cellAt_bits {ns : List Int} (hb : ∀ z ∈ ns, PySem.Builtin.Int.intBits z ≤ 1048576) (k : Int) : PySem.Builtin.Int.intBits (cellAt ns k) ≤ 1048576 := by
  unfold cellAt
  rw [List.getD_eq_getElem?_getD]
  cases e : ns[k.toNat]? with
  | none => decide
  | some z => exact hb z (List.mem_of_getElem? e)
end Toy
/-! ### rows of rates in the heap -/
namespace Toy
open PySem L2
/-- a pair's address, its day, its rate -/
abbrev Trp := Addr × Int × Int
def rowV (ts : List Trp) : List V := ts.map fun t => V.ref t.1
def vals (ts : List Trp) : List Pr := ts.map fun t => t.2
def tupV (p : Pr) : HO := .tup [.int p.1, .int p.2]
def Prs (H : Hp) (ts : List Trp) : Prop := ∀ t ∈ ts, H t.1 = some (tupV t.2)
structure Row (H : Hp) (l : Addr) (ts : List Trp) : Prop where
  lst : H l = some (.lst (rowV ts))
  prs : Prs H ts
theorem rowV_len (ts : List Trp) : (rowV ts).length = ts.length := by unfold rowV; rw [List.length_map]
theorem vals_len (ts : List Trp) : (vals ts).length = ts.length := by unfold vals; rw [List.length_map]
theorem rowV_append (a b : List Trp) : rowV (a ++ b) = rowV a ++ rowV b := by unfold rowV; rw [List.map_append]
theorem vals_append (a b : List Trp) : vals (a ++ b) = vals a ++ vals b := by unfold vals; rw [List.map_append]
theorem Prs.same {H H' : Hp} {ts : List Trp} (h : Prs H ts) (e : Same H H') : Prs H' ts := fun t ht => e _ _ (h t ht)
/-- a list may change, the pairs stay -/
theorem Prs.lst {H : Hp} {ts : List Trp} {l : Addr} {xs ys : List V} (h : Prs H ts) (hl : H l = some (.lst xs)) : Prs (L2.upd H l (.lst ys)) ts := fun t ht => by
  have q := h t ht
  rw [L2.upd_ne (ne_of q hl (by intro z; cases z))]
  exact q
theorem Row.same {H H' : Hp} {l : Addr} {ts : List Trp} (R : Row H l ts) (e : Same H H') : Row H' l ts := ⟨e _ _ R.lst, R.prs.same e⟩
theorem Row.seq {K : PySem.W.Frag} {H : Hp} {l : Addr} {ts : List Trp} (R : Row H l ts) : SqL K H l (rowV ts) := SqL.of R.lst
theorem Row.get {H : Hp} {l : Addr} {ts : List Trp} (R : Row H l ts) {j : Nat} {p : Pr} (h : (vals ts)[j]? = some p) : ∃ a, (rowV ts)[j]? = some (.ref a) ∧ H a = some (tupV p) ∧ (a, p) ∈ ts := by
  unfold vals at h
  rw [List.getElem?_map] at h
  cases e : ts[j]? with
  | none => rw [e] at h; cases h
  | some t =>
    rw [e] at h
    obtain rfl : t.2 = p := Option.some.inj h
    have m := List.mem_of_getElem? e
    exact ⟨t.1, by unfold rowV; rw [List.getElem?_map, e]; rfl, R.prs t m, m⟩
theorem Row.getV {H : Hp} {l : Addr} {ts : List Trp} (R : Row H l ts) {j : Nat} {v : V} (h : (rowV ts)[j]? = some v) : ∃ a p, v = .ref a ∧ (vals ts)[j]? = some p ∧ H a = some (tupV p) := by
  obtain ⟨t, e, rfl⟩ := map_get h
  exact ⟨t.1, t.2, rfl, by unfold vals; rw [List.getElem?_map, e]; rfl, R.prs t (List.mem_of_getElem? e)⟩
theorem Row.at {H : Hp} {l : Addr} {ts : List Trp} (R : Row H l ts) {z : Int} {j : Nat} {p : Pr} (e : z = (j : Int)) (h : (vals ts)[j]? = some p) : ∃ a, atI (rowV ts) z = some (.ref a) ∧ H a = some (tupV p) := by
  obtain ⟨a, h1, h2, _⟩ := R.get h
  exact ⟨a, at_of e h1, h2⟩
theorem snoc_of {α : Type} : ∀ {l : List α}, l ≠ [] → ∃ r a, l = r ++ [a]
  | [], h => absurd rfl h
  | [a], _ => ⟨[], a, rfl⟩
  | a :: b :: l, _ => by
    obtain ⟨r, c, e⟩ := snoc_of (l := b :: l) (by simp)
    exact ⟨a :: r, c, by rw [e]; rfl⟩
theorem Row.last {H : Hp} {l : Addr} {ts : List Trp} (R : Row H l ts) (h : ts ≠ []) : ∃ a r, atI (rowV ts) (-1) = some (.ref a) ∧ H a = some (tupV (lastDay (vals ts), r)) ∧ (vals ts).getLast? = some (lastDay (vals ts), r) := by
  obtain ⟨q, t, rfl⟩ := snoc_of h
  have e : lastDay (vals (q ++ [t])) = t.2.1 := by
    unfold lastDay
    rw [vals_append]
    exact congrArg Prod.fst (getLastD_append _ _ _)
  refine ⟨t.1, t.2.2, ?_, ?_, ?_⟩
  · rw [rowV_append]
    exact atI_last _ _
  · rw [e]
    exact R.prs t (by simp)
  · rw [e, vals_append, List.getLast?_append]
    rfl
theorem Row.snoc {H : Hp} {l p : Addr} {ts : List Trp} (R : Row H l ts) (d r : Int) (hp : H p = some (tupV (d, r))) : Row (L2.upd H l (.lst (rowV ts ++ [.ref p]))) l (ts ++ [(p, d, r)]) := by
  refine ⟨by rw [rowV_append]; exact upd_same, ?_⟩
  have q : Prs H (ts ++ [(p, d, r)]) := fun t ht => by
    rcases List.mem_append.mp ht with e | e
    · exact R.prs t e
    · obtain rfl : t = (p, d, r) := by simpa using e
      exact hp
  exact q.lst R.lst
theorem vals_ne {ts : List Trp} (h : vals ts ≠ []) : ts ≠ [] := fun e => h (by rw [e]; rfl)
theorem good_ne {ts : List Trp} (g : Good (vals ts)) : ts ≠ [] := by
  obtain ⟨r, rest, e⟩ := g.ne
  exact vals_ne (by rw [e]; simp)
/-- the data of a row -/
def prD (p : Pr) : PyData := .tuple [.int p.1, .int p.2]
def rowD (ps : List Pr) : PyData := .list (ps.map prD)
theorem prs_dp {K : PySem.W.Frag} {H : Hp} : ∀ {ts : List Trp}, Prs H ts → DpAll K H (rowV ts) ((vals ts).map prD)
  | [], _ => .nil
  | t :: r, h => .cons (.tup (SqT.of (h t (by simp))) (.cons (.int _) (.cons (.int _) .nil))) (prs_dp fun u hu => h u (by simp [hu]))
theorem Row.dp {K : PySem.W.Frag} {H : Hp} {l : Addr} {ts : List Trp} (R : Row H l ts) : Dp K H (.ref l) (rowD (vals ts)) := .lst R.seq (prs_dp R.prs)
theorem can_all {α : Type} {f : α → PyData} (h : ∀ a, (f a).canLay0 = true) : ∀ l : List α, PyData.canLayAll0 (l.map f) = true
  | [] => by simp only [List.map_nil, PyData.canLayAll0]
  | a :: l => by simp only [List.map_cons, PyData.canLayAll0, h a, can_all h l, Bool.and_self]
theorem dep_all {α : Type} {f : α → PyData} {n : Nat} (h : ∀ a, (f a).depth ≤ n) : ∀ l : List α, PyData.depthAll (l.map f) ≤ n
  | [] => by simp only [List.map_nil, PyData.depthAll, Nat.zero_le]
  | a :: l => by
    have h1 := h a
    have h2 := dep_all h l
    simp only [List.map_cons, PyData.depthAll]
    omega
theorem shaped_of {d : PyData} (h1 : d.canLay0 = true) (h2 : d.depth ≤ 64) : SeqAt.shaped d = true := by
  unfold SeqAt.shaped
  rw [h1, decide_eq_true h2]
  rfl
/-- a tuple of ints, a list of ints -/
def tupD (l : List Int) : PyData := .tuple (l.map .int)
def intsD (l : List Int) : PyData := .list (l.map .int)
theorem int_can (i : Int) : (PyData.int i).canLay0 = true := by simp only [PyData.canLay0]
theorem int_dep (i : Int) : (PyData.int i).depth ≤ 0 := by simp only [PyData.depth, Nat.le_refl]
theorem tupD_can (l : List Int) : (tupD l).canLay0 = true := by
  unfold tupD
  simp only [PyData.canLay0]
  exact can_all int_can l
theorem tupD_dep (l : List Int) : (tupD l).depth ≤ 1 := by
  unfold tupD
  simp only [PyData.depth]
  have := dep_all int_dep l
  omega
theorem intsD_can (l : List Int) : (intsD l).canLay0 = true := by
  unfold intsD
  simp only [PyData.canLay0]
  exact can_all int_can l
theorem intsD_dep (l : List Int) : (intsD l).depth ≤ 1 := by
  unfold intsD
  simp only [PyData.depth]
  have := dep_all int_dep l
  omega
theorem tupD_shaped (l : List Int) : SeqAt.shaped (tupD l) = true := shaped_of (tupD_can l) (Nat.le_trans (tupD_dep l) (by decide))
theorem intsD_shaped (l : List Int) : SeqAt.shaped (intsD l) = true := shaped_of (intsD_can l) (Nat.le_trans (intsD_dep l) (by decide))
theorem prD_eq (p : Pr) : prD p = tupD [p.1, p.2] := rfl
theorem rowD_can (ps : List Pr) : (rowD ps).canLay0 = true := by
  unfold rowD
  simp only [PyData.canLay0]
  exact can_all (fun p => tupD_can [p.1, p.2]) ps
theorem rowD_dep (ps : List Pr) : (rowD ps).depth ≤ 2 := by
  unfold rowD
  simp only [PyData.depth]
  have := dep_all (f := prD) (n := 1) (fun p => tupD_dep [p.1, p.2]) ps
  omega
theorem rowD_shaped (ps : List Pr) : SeqAt.shaped (rowD ps) = true := shaped_of (rowD_can ps) (Nat.le_trans (rowD_dep ps) (by decide))
theorem rowD_eqv (ps : List Pr) : PyData.eqv (rowD ps) (rowD ps) = true := SeqAt.eqv_refl _ (rowD_can ps)
theorem tupD_eqv (l : List Int) : PyData.eqv (tupD l) (tupD l) = true := SeqAt.eqv_refl _ (tupD_can l)
theorem intsD_eqv (l : List Int) : PyData.eqv (intsD l) (intsD l) = true := SeqAt.eqv_refl _ (intsD_can l)
theorem ints_dpAll {K : PySem.W.Frag} {H : Hp} : ∀ l : List Int, DpAll K H (l.map V.int) (l.map PyData.int)
  | [] => .nil
  | i :: l => .cons (.int i) (ints_dpAll l)
theorem tup_dp {K : PySem.W.Frag} {H : Hp} {a : Addr} {l : List Int} (h : SqT K H a (l.map V.int)) : Dp K H (.ref a) (tupD l) := .tup h (ints_dpAll l)
theorem ints_dp {K : PySem.W.Frag} {H : Hp} {a : Addr} {l : List Int} (h : SqL K H a (l.map V.int)) : Dp K H (.ref a) (intsD l) := .lst h (ints_dpAll l)
/-- two rows that say the same -/
theorem row_eq {K : PySem.W.Frag} {H : Hp} {a b : Addr} {ts us : List Trp} {Q : V → Hp → Prop} (R : Row H a ts) (S : Row H b us) (e : vals ts = vals us) (q : Q (.bl true) H) : rEqD K (.ref a) (.ref b) H Q :=
  ⟨_, _, R.dp, S.dp, rowD_shaped _, rowD_shaped _, by rw [e, rowD_eqv]; exact q⟩
theorem row_ne {K : PySem.W.Frag} {H : Hp} {a b : Addr} {ts us : List Trp} {Q : V → Hp → Prop} (R : Row H a ts) (S : Row H b us) (e : vals ts = vals us) (q : Q (.bl false) H) : rNeD K (.ref a) (.ref b) H Q :=
  ⟨_, _, R.dp, S.dp, rowD_shaped _, rowD_shaped _, by rw [e, rowD_eqv]; exact q⟩
theorem tups_eq {K : PySem.W.Frag} {H : Hp} {a b : Addr} {l : List Int} {Q : V → Hp → Prop} (h1 : SqT K H a (l.map V.int)) (h2 : SqT K H b (l.map V.int)) (q : Q (.bl true) H) : rEqD K (.ref a) (.ref b) H Q :=
  ⟨_, _, tup_dp h1, tup_dp h2, tupD_shaped _, tupD_shaped _, by rw [tupD_eqv]; exact q⟩
theorem tups_ne {K : PySem.W.Frag} {H : Hp} {a b : Addr} {l : List Int} {Q : V → Hp → Prop} (h1 : SqT K H a (l.map V.int)) (h2 : SqT K H b (l.map V.int)) (q : Q (.bl false) H) : rNeD K (.ref a) (.ref b) H Q :=
  ⟨_, _, tup_dp h1, tup_dp h2, tupD_shaped _, tupD_shaped _, by rw [tupD_eqv]; exact q⟩
theorem ints_eq {K : PySem.W.Frag} {H : Hp} {a b : Addr} {l : List Int} {Q : V → Hp → Prop} (h1 : SqL K H a (l.map V.int)) (h2 : SqL K H b (l.map V.int)) (q : Q (.bl true) H) : rEqD K (.ref a) (.ref b) H Q :=
  ⟨_, _, ints_dp h1, ints_dp h2, intsD_shaped _, intsD_shaped _, by rw [intsD_eqv]; exact q⟩
theorem ints_ne {K : PySem.W.Frag} {H : Hp} {a b : Addr} {l : List Int} {Q : V → Hp → Prop} (h1 : SqL K H a (l.map V.int)) (h2 : SqL K H b (l.map V.int)) (q : Q (.bl false) H) : rNeD K (.ref a) (.ref b) H Q :=
  ⟨_, _, ints_dp h1, ints_dp h2, intsD_shaped _, intsD_shaped _, by rw [intsD_eqv]; exact q⟩
end Toy
/-! ### sums over days -/
namespace Toy
def daySum (f : Int → Int) (s : Int) : Nat → Int
  | 0 => 0
  | n + 1 => daySum f s n + f (s + n + 1)
theorem daySum_congr {f g : Int → Int} {s : Int} : ∀ {n : Nat}, (∀ d, s < d → d ≤ s + n → f d = g d) → daySum f s n = daySum g s n
  | 0, _ => rfl
  | n + 1, h => by
    show daySum f s n + f (s + n + 1) = daySum g s n + g (s + n + 1)
    rw [daySum_congr (n := n) fun d h1 h2 => h d h1 (by omega), h (s + n + 1) (by omega) (by omega)]
theorem daySum_const {f : Int → Int} {s c : Int} : ∀ {n : Nat}, (∀ d, s < d → d ≤ s + n → f d = c) → daySum f s n = n * c
  | 0, _ => by simp [daySum]
  | n + 1, h => by
    show daySum f s n + f (s + n + 1) = _
    rw [daySum_const (n := n) fun d h1 h2 => h d h1 (by omega), h (s + n + 1) (by omega) (by omega), Int.natCast_add, Int.add_mul]
    simp
theorem daySum_add {f : Int → Int} {s : Int} (m : Nat) : ∀ n : Nat, daySum f s (m + n) = daySum f s m + daySum f (s + m) n
  | 0 => by simp [daySum]
  | n + 1 => by
    show daySum f s (m + n) + f (s + (m + n : Nat) + 1) = daySum f s m + (daySum f (s + m) n + f (s + m + n + 1))
    rw [daySum_add m n, Int.natCast_add, ← Int.add_assoc s m n]
    omega
/-- what a stretch of days brings -/
def gsum (ps : List Pr) (s e : Int) : Int := daySum (rateOn ps) s (e - s).toNat
theorem gsum_self (ps : List Pr) (s : Int) : gsum ps s s = 0 := by
  unfold gsum
  rw [Int.sub_self]
  rfl
theorem gsum_split {ps : List Pr} {s m e : Int} (h1 : s ≤ m) (h2 : m ≤ e) : gsum ps s e = gsum ps s m + gsum ps m e := by
  unfold gsum
  have e1 : (e - s).toNat = (m - s).toNat + (e - m).toNat := by omega
  have e2 : s + ((m - s).toNat : Int) = m := by omega
  rw [e1, daySum_add, e2]
theorem gsum_const {ps : List Pr} {s e c : Int} (h : s ≤ e) (hc : ∀ d, s < d → d ≤ e → rateOn ps d = c) : gsum ps s e = (e - s) * c := by
  unfold gsum
  have e1 : ((e - s).toNat : Int) = e - s := by omega
  rw [daySum_const (c := c) fun d h1 h2 => hc d h1 (by omega), e1]
theorem gsum_one {ps : List Pr} {s : Int} : gsum ps s (s + 1) = rateOn ps (s + 1) := by
  rw [gsum_const (c := rateOn ps (s + 1)) (by omega) fun d h1 h2 => by rw [show d = s + 1 by omega]]
  rw [show s + 1 - s = 1 by omega, Int.one_mul]
theorem Up.mem : ∀ {d : Int} {ps : List Pr}, Up d ps → ∀ q ∈ ps, d < q.1
  | _, [], _, q, hq => by cases hq
  | d, p :: r, h, q, hq => by
    rcases List.mem_cons.mp hq with e | e
    · rw [e]; exact h.1
    · have := Up.mem h.2 q e
      have := h.1
      omega
theorem Up.drop : ∀ {d : Int} {A B : List Pr} {p : Pr}, Up d (A ++ p :: B) → Up p.1 B
  | _, [], _, _, h => h.2
  | _, a :: A, _, _, h => Up.drop (A := A) h.2
/-- one turn of grown: behind the start s; what is summed, where it stops -/
def gStep (s : Int) (acc : Int × Int) (p : Pr) : Int × Int :=
  if (if p.1 - 1 > s then p.1 - 1 else s) < acc.2 then (acc.1 + (acc.2 - (if p.1 - 1 > s then p.1 - 1 else s)) * p.2, if p.1 - 1 > s then p.1 - 1 else s) else acc
def grown (ps : List Pr) (s e : Int) : Int := (ps.reverse.foldl (gStep s) (0, e)).1
theorem grown_go {ps : List Pr} {s e : Int} (hse : s ≤ e) (u : Up (-1) ps) : ∀ (B A : List Pr), ps = A ++ B →
    s ≤ (B.foldr (fun p acc => gStep s acc p) (0, e)).2 ∧ (B.foldr (fun p acc => gStep s acc p) (0, e)).2 ≤ e ∧
    (B.foldr (fun p acc => gStep s acc p) (0, e)).1 = gsum ps (B.foldr (fun p acc => gStep s acc p) (0, e)).2 e ∧
    ((B.foldr (fun p acc => gStep s acc p) (0, e)).2 = s ∨ ∀ q ∈ B, (B.foldr (fun p acc => gStep s acc p) (0, e)).2 < q.1)
  | [], A, h => ⟨hse, Int.le_refl _, (gsum_self _ _).symm, .inr fun q hq => by cases hq⟩
  | p :: B, A, h => by
    obtain ⟨h1, h2, h3, h4⟩ := grown_go hse u B (A ++ [p]) (by rw [h, List.append_assoc]; rfl)
    rw [List.foldr_cons]
    generalize B.foldr (fun p acc => gStep s acc p) (0, e) = r at h1 h2 h3 h4 ⊢
    obtain ⟨t, st⟩ := r
    simp only at h1 h2 h3 h4
    have hb : ∃ b, (if p.1 - 1 > s then p.1 - 1 else s) = b ∧ s ≤ b ∧ p.1 - 1 ≤ b ∧ (b = s ∨ b = p.1 - 1) := by
      refine ⟨_, rfl, ?_⟩
      split <;> omega
    obtain ⟨b, eb, b1, b2, b3⟩ := hb
    unfold gStep
    rw [eb]
    have hB : ∀ q ∈ B, p.1 < q.1 := by
      have u2 : Up (-1) (A ++ p :: B) := by rw [← h]; exact u
      exact u2.drop.mem
    by_cases c : b < st
    · rw [if_pos c]
      refine ⟨b1, by show b ≤ e; omega, ?_, ?_⟩
      · show t + (st - b) * p.2 = gsum ps b e
        rw [gsum_split (m := st) (by omega) h2, ← h3, gsum_const (c := p.2) (by omega) fun d d1 d2 => ?_]
        · omega
        · rw [h]
          refine rateOn_at (by omega) fun q hq => ?_
          rcases h4 with h4 | h4
          · omega
          · have := h4 q hq
            omega
      · show b = s ∨ ∀ q ∈ p :: B, b < q.1
        rcases b3 with b3 | b3
        · exact .inl b3
        · refine .inr fun q hq => ?_
          rcases List.mem_cons.mp hq with e1 | e1
          · rw [e1]; omega
          · have := hB q e1
            omega
    · rw [if_neg c]
      refine ⟨h1, h2, h3, ?_⟩
      show st = s ∨ ∀ q ∈ p :: B, st < q.1
      rcases h4 with h4 | h4
      · exact .inl h4
      · rcases b3 with b3 | b3
        · exact .inl (by omega)
        · refine .inr fun q hq => ?_
          rcases List.mem_cons.mp hq with e1 | e1
          · rw [e1]; omega
          · exact h4 q e1
theorem grown_eq {ps : List Pr} {s e : Int} (g : Good ps) (h0 : 0 ≤ s) (hse : s ≤ e) : grown ps s e = gsum ps s e := by
  unfold grown
  rw [List.foldl_reverse]
  obtain ⟨h1, h2, h3, h4⟩ := grown_go hse g.up ps [] rfl
  obtain ⟨r, rest, er⟩ := g.ne
  have hs : (ps.foldr (fun p acc => gStep s acc p) (0, e)).2 = s := by
    rcases h4 with h4 | h4
    · exact h4
    · have := h4 (0, r) (by rw [er]; simp)
      have : (ps.foldr (fun p acc => gStep s acc p) (0, e)).2 < 0 := this
      omega
  rw [h3, hs]
theorem rateOn_snoc {ps : List Pr} {p : Pr} {d : Int} : rateOn (ps ++ [p]) d = if p.1 ≤ d then p.2 else rateOn ps d := by
  unfold rateOn
  rw [List.foldl_append]
  rfl
theorem rateOn_ok {ps : List Pr} (hr : ∀ p ∈ ps, 0 ≤ p.2 ∧ p.2 ≤ 100000) (d : Int) : 0 ≤ rateOn ps d ∧ rateOn ps d ≤ 100000 := by
  have go : ∀ (l : List Pr) (x : Int), (∀ p ∈ l, 0 ≤ p.2 ∧ p.2 ≤ 100000) → 0 ≤ x ∧ x ≤ 100000 → 0 ≤ l.foldl (fun f p => if p.1 ≤ d then p.2 else f) x ∧ l.foldl (fun f p => if p.1 ≤ d then p.2 else f) x ≤ 100000 := by
    intro l
    induction l with
    | nil => intro x _ h; exact h
    | cons p l ih =>
      intro x hl h
      rw [List.foldl_cons]
      refine ih _ (fun q hq => hl q (by simp [hq])) ?_
      split
      · exact hl p (by simp)
      · exact h
  exact go ps 0 hr (by decide)
theorem daySum_ok {f : Int → Int} {s c : Int} (h : ∀ d, 0 ≤ f d ∧ f d ≤ c) : ∀ n : Nat, 0 ≤ daySum f s n ∧ daySum f s n ≤ n * c
  | 0 => by simp [daySum]
  | n + 1 => by
    have h1 := daySum_ok (s := s) h n
    have h2 := h (s + n + 1)
    show 0 ≤ daySum f s n + f (s + n + 1) ∧ daySum f s n + f (s + n + 1) ≤ _
    rw [Int.natCast_add, Int.add_mul]
    simp
    omega
theorem gsum_ok {ps : List Pr} (hr : ∀ p ∈ ps, 0 ≤ p.2 ∧ p.2 ≤ 100000) {s e : Int} (h : s ≤ e) : 0 ≤ gsum ps s e ∧ gsum ps s e ≤ (e - s) * 100000 := by
  have := daySum_ok (s := s) (rateOn_ok hr) (e - s).toNat
  have e1 : ((e - s).toNat : Int) = e - s := by omega
  rw [e1] at this
  exact this
end Toy
namespace Toy
theorem Good.le_last {ps : List Pr} (g : Good ps) {p : Pr} (h : p ∈ ps) : p.1 ≤ lastDay ps := by
  have go : ∀ (l : List Pr) (d : Int) (q : Pr), Up d l → q ∈ l → q.1 ≤ (l.getLastD (0, 0)).1 := by
    intro l
    induction l with
    | nil => intro d q _ h; cases h
    | cons a b ih =>
      intro d q u h
      cases b with
      | nil =>
        have e : q = a := by simpa using h
        rw [e]
        exact Int.le_refl _
      | cons c r =>
        have hl : ((a :: c :: r).getLastD (0, 0)).1 = ((c :: r).getLastD (0, 0)).1 := rfl
        rw [hl]
        rcases List.mem_cons.mp h with e | e
        · rw [e]
          have h1 := ih a.1 c u.2 (by simp)
          have := u.2.1
          omega
        · exact ih a.1 q u.2 e
  exact go ps (-1) p g.up h
theorem Up.to : ∀ {d : Int} {A : List Pr} {p : Pr} {B : List Pr}, Up d (A ++ p :: B) → ∀ q ∈ A, q.1 < p.1
  | _, [], _, _, _, _, hq => by cases hq
  | d, a :: A, p, B, u, q, hq => by
    rcases List.mem_cons.mp hq with e | e
    · rw [e]
      exact u.2.mem p (by simp)
    · exact Up.to (A := A) u.2 q e
end Toy
namespace Toy
theorem gsum_congr {ps qs : List Pr} {s e : Int} (h : ∀ d, s < d → d ≤ e → rateOn ps d = rateOn qs d) : gsum ps s e = gsum qs s e := by
  unfold gsum
  by_cases c : s ≤ e
  · exact daySum_congr fun d h1 h2 => h d h1 (by omega)
  · rw [show (e - s).toNat = 0 by omega]
    rfl
/-- the law's own way: how much each pair is more than the one ahead of it -/
def sumUp (ps : List Pr) (s e : Int) : Nat → Int
  | 0 => (ps.getD 0 (0, 0)).2 * (e - s)
  | k + 1 => if e - (if (ps.getD (k + 1) (0, 0)).1 - 1 > s then (ps.getD (k + 1) (0, 0)).1 - 1 else s) > 0 then sumUp ps s e k + ((ps.getD (k + 1) (0, 0)).2 - (ps.getD k (0, 0)).2) * (e - (if (ps.getD (k + 1) (0, 0)).1 - 1 > s then (ps.getD (k + 1) (0, 0)).1 - 1 else s)) else sumUp ps s e k
theorem getD_of {α : Type} {l : List α} {j : Nat} {a d : α} (h : l[j]? = some a) : l.getD j d = a := by
  rw [List.getD_eq_getElem?_getD, h]
  rfl
theorem sumUp_eq {ps : List Pr} {s e : Int} (g : Good ps) (h0 : 0 ≤ s) (hse : s ≤ e) : ∀ k, k < ps.length → sumUp ps s e k = gsum (ps.take (k + 1)) s e
  | 0, hk => by
    obtain ⟨r, rest, er⟩ := g.ne
    rw [er]
    show r * (e - s) = gsum [(0, r)] s e
    rw [gsum_const (c := r) hse fun d h1 h2 => ?_, Int.mul_comm]
    exact rateOn_at (A := []) (B := []) (p := (0, r)) (by show 0 ≤ d; omega) fun q hq => by cases hq
  | k + 1, hk => by
    have ih := sumUp_eq g h0 hse k (by omega)
    obtain ⟨p, hp⟩ := get_of (l := ps) (j := k + 1) hk
    obtain ⟨q, hq⟩ := get_of (l := ps) (j := k) (by omega)
    have et : ps.take (k + 1 + 1) = ps.take (k + 1) ++ [p] := by
      rw [List.take_add_one, hp]
      rfl
    have et2 : ps.take (k + 1) = ps.take k ++ [q] := by
      rw [List.take_add_one, hq]
      rfl
    have eall : ps = ps.take (k + 1) ++ p :: ps.drop (k + 2) := by
      have h2 : ps[k + 1] = p := (List.getElem?_eq_some_iff.mp hp).2
      rw [← h2, List.getElem_cons_drop, List.take_append_drop]
    have hA : ∀ u ∈ ps.take (k + 1), u.1 < p.1 := by
      have u2 : Up (-1) (ps.take (k + 1) ++ p :: ps.drop (k + 2)) := by rw [← eall]; exact g.up
      exact u2.to
    have hqp : q.1 < p.1 := hA q (by rw [et2]; simp)
    have hlo : ∀ d, d ≤ p.1 - 1 → rateOn (ps.take (k + 1) ++ [p]) d = rateOn (ps.take (k + 1)) d := fun d hd => by
      rw [rateOn_snoc, if_neg (by omega)]
    unfold sumUp
    rw [getD_of hp, getD_of hq, ih, et]
    have hb : ∃ b, (if p.1 - 1 > s then p.1 - 1 else s) = b ∧ s ≤ b ∧ p.1 - 1 ≤ b ∧ (b = s ∨ b = p.1 - 1) := by
      refine ⟨_, rfl, ?_⟩
      split <;> omega
    obtain ⟨b, eb, b1, b2, b3⟩ := hb
    rw [eb]
    by_cases c : e - b > 0
    · rw [if_pos c, gsum_split (ps := ps.take (k + 1) ++ [p]) (m := b) b1 (by omega), gsum_split (ps := ps.take (k + 1)) (m := b) b1 (by omega)]
      have e1 : gsum (ps.take (k + 1) ++ [p]) s b = gsum (ps.take (k + 1)) s b := gsum_congr fun d d1 d2 => by
        refine hlo d ?_
        omega
      have e2 : gsum (ps.take (k + 1) ++ [p]) b e = (e - b) * p.2 := gsum_const (by omega) fun d d1 d2 => by
        rw [rateOn_snoc, if_pos (by omega)]
      have e3 : gsum (ps.take (k + 1)) b e = (e - b) * q.2 := gsum_const (by omega) fun d d1 d2 => by
        rw [et2, rateOn_snoc, if_pos (by omega)]
      rw [e1, e2, e3, Int.sub_mul p.2 q.2, Int.mul_comm p.2, Int.mul_comm q.2]
      omega
    · rw [if_neg c]
      refine (gsum_congr fun d d1 d2 => hlo d ?_).symm
      omega
theorem sumUp_all {ps : List Pr} {s e : Int} (g : Good ps) (h0 : 0 ≤ s) (hse : s ≤ e) : sumUp ps s e (ps.length - 1) = gsum ps s e := by
  obtain ⟨r, rest, er⟩ := g.ne
  have hl : 0 < ps.length := by rw [er]; simp
  rw [sumUp_eq g h0 hse _ (by omega), List.take_of_length_le (by omega)]
theorem perm3 {ns : List Int} {a b c : Int} (p : ns.Perm [a, b, c]) (w : ns.Pairwise (· ≤ ·)) {lo hi : Int} (h1 : lo ≤ a ∧ a ≤ hi) (h2 : lo ≤ b ∧ b ≤ hi) (h3 : lo ≤ c ∧ c ≤ hi) :
    ∃ x y z, ns = [x, y, z] ∧ lo ≤ x ∧ x ≤ y ∧ y ≤ z ∧ z ≤ hi := by
  have hl := p.length_eq
  match ns, hl with
  | [x, y, z], _ =>
    have hb : ∀ u ∈ [x, y, z], lo ≤ u ∧ u ≤ hi := fun u hu => by
      have := p.mem_iff.mp hu
      simp only [List.mem_cons, List.not_mem_nil, or_false] at this
      rcases this with e | e | e <;> rw [e] <;> assumption
    have hx := hb x (by simp)
    have hz := hb z (by simp)
    simp only [List.pairwise_cons] at w
    exact ⟨x, y, z, rfl, hx.1, w.1 y (by simp), w.2.1 z (by simp), hz.2⟩
end Toy
/-! ### a loan: the mathematics, and how it stands in the heap -/
namespace Toy
open PySem L2
/-- what a row of rates is told -/
inductive Vd where | ok | day | rate
  deriving DecidableEq
def chk : Int → List Pr → Vd
  | a, [] => if a = -1 then .day else .ok
  | a, p :: r => if p.1 ≤ a ∨ p.1 > 100000 ∨ (a = -1 ∧ p.1 > 0) then .day else if 0 ≤ p.2 ∧ p.2 ≤ 100000 then chk p.1 r else .rate
theorem chk_nil (a : Int) : chk a [] = if a = -1 then .day else .ok := rfl
theorem chk_cons (a : Int) (p : Pr) (r : List Pr) : chk a (p :: r) = if p.1 ≤ a ∨ p.1 > 100000 ∨ (a = -1 ∧ p.1 > 0) then .day else if 0 ≤ p.2 ∧ p.2 ≤ 100000 then chk p.1 r else .rate := rfl
theorem chk_up : ∀ {ps : List Pr} {a : Int}, Up a ps → 0 ≤ a → (∀ p ∈ ps, 0 ≤ p.2 ∧ p.2 ≤ 100000) → (∀ p ∈ ps, p.1 ≤ 100000) → chk a ps = .ok
  | [], a, _, h, _, _ => by
    unfold chk
    rw [if_neg (by omega)]
  | p :: r, a, u, h, h1, h2 => by
    unfold chk
    have := u.1
    have := h2 p (by simp)
    rw [if_neg (by omega), if_pos (h1 p (by simp))]
    exact chk_up u.2 (by omega) (fun q hq => h1 q (by simp [hq])) fun q hq => h2 q (by simp [hq])
theorem chk_good {ps : List Pr} (g : Good ps) (h : lastDay ps ≤ 100000) : chk (-1) ps = .ok := by
  have h2 : ∀ p ∈ ps, p.1 ≤ 100000 := fun p hp => Int.le_trans (g.le_last hp) h
  obtain ⟨r, rest, e⟩ := g.ne
  have gu := g.up
  have gr := g.rate
  rw [e] at gu gr h2 ⊢
  unfold chk
  rw [if_neg (by simp), if_pos (gr (0, r) (by simp))]
  exact chk_up gu.2 (Int.le_refl 0) (fun q hq => gr q (by simp [hq])) fun q hq => h2 q (by simp [hq])
/-- the whole cents that settle it -/
def owedF (left begun : Int) : Int := left + (begun + 1000000 - 1) / 1000000
/-- a payment's interest, its part off the amount, what is left, what is begun -/
def payF (left begun cents : Int) : Int × Int × Int × Int :=
  if cents = owedF left begun then (owedF left begun - left, left, 0, 0)
  else ((if begun / 1000000 < cents then begun / 1000000 else cents), cents - (if begun / 1000000 < cents then begun / 1000000 else cents),
    left - (cents - (if begun / 1000000 < cents then begun / 1000000 else cents)), begun - (if begun / 1000000 < cents then begun / 1000000 else cents) * 1000000)
structure Ln where
  left : Int
  begun : Int
  day : Int
/-- a loan's numbers are in their bounds -/
structure LnOk (z : Ln) : Prop where
  l0 : 0 ≤ z.left
  l1 : z.left ≤ 1000000000000
  b0 : 0 ≤ z.begun
  d0 : 0 ≤ z.day
  d1 : z.day ≤ 100000
/-- a good row whose days are in bounds -/
structure Rok (ps : List Pr) : Prop where
  g : Good ps
  last : lastDay ps ≤ 100000
  len : ps.length ≤ 1000
/-- what is begun on a day -/
def begunAt (ps : List Pr) (z : Ln) (d : Int) : Int := z.begun + z.left * gsum ps z.day d
theorem begunAt_ge {ps : List Pr} {z : Ln} {d : Int} (h : LnOk z) (g : Good ps) (hd : z.day ≤ d) : 0 ≤ begunAt ps z d := by
  have h1 := (gsum_ok g.rate hd).1
  have h2 := Int.mul_nonneg h.l0 h1
  have := h.b0
  unfold begunAt
  omega
def payLn (ps : List Pr) (z : Ln) (d c : Int) : Ln := ⟨(payF z.left (begunAt ps z d) c).2.2.1, (payF z.left (begunAt ps z d) c).2.2.2, d⟩
theorem payF_ok {l b c : Int} (hl : 0 ≤ l) (hb : 0 ≤ b) (h1 : 1 ≤ c) (h2 : c ≤ owedF l b) : 0 ≤ (payF l b c).1 ∧ 0 ≤ (payF l b c).2.1 ∧ (payF l b c).1 + (payF l b c).2.1 = c ∧ 0 ≤ (payF l b c).2.2.1 ∧ (payF l b c).2.2.1 ≤ l ∧ 0 ≤ (payF l b c).2.2.2 ∧ (payF l b c).2.2.2 ≤ b := by
  unfold payF
  by_cases c1 : c = owedF l b
  · rw [if_pos c1]
    unfold owedF at *
    simp only
    omega
  · rw [if_neg c1]
    unfold owedF at *
    simp only
    have := Int.mul_comm (b / 1000000) 1000000
    split <;> omega
theorem payLn_ok {ps : List Pr} {z : Ln} {d c : Int} (h : LnOk z) (g : Good ps) (hd : z.day ≤ d) (hd2 : d ≤ 100000) (h1 : 1 ≤ c) (h2 : c ≤ owedF z.left (begunAt ps z d)) : LnOk (payLn ps z d c) := by
  have p := payF_ok h.l0 (begunAt_ge h g hd) h1 h2
  have := h.l1
  have := h.d0
  exact ⟨p.2.2.2.1, by show (payF z.left (begunAt ps z d) c).2.2.1 ≤ _; omega, p.2.2.2.2.2.1, by show 0 ≤ d; omega, hd2⟩
/-! ### in the heap -/
def lf (l : Addr) (z : Ln) : List (Str × V) := [("rates", .ref l), ("left", .int z.left), ("begun", .int z.begun), ("day", .int z.day)]
theorem str_ne {a b : Str} (h : decide (a = b) = false) : (a == b) = false := by
  have : ¬ a = b := of_decide_eq_false h
  exact beq_eq_false_iff_ne.mpr this
theorem lf_rates (l : Addr) (z : Ln) : (lf l z).lookup ("rates" : Str) = some (.ref l) := by simp [lf, List.lookup]
theorem lf_left (l : Addr) (z : Ln) : (lf l z).lookup ("left" : Str) = some (.int z.left) := by
  simp [lf, List.lookup, str_ne (a := "left") (b := "rates") (by decide +kernel)]
theorem lf_begun (l : Addr) (z : Ln) : (lf l z).lookup ("begun" : Str) = some (.int z.begun) := by
  simp [lf, List.lookup, str_ne (a := "begun") (b := "rates") (by decide +kernel), str_ne (a := "begun") (b := "left") (by decide +kernel)]
theorem lf_day (l : Addr) (z : Ln) : (lf l z).lookup ("day" : Str) = some (.int z.day) := by
  simp [lf, List.lookup, str_ne (a := "day") (b := "rates") (by decide +kernel), str_ne (a := "day") (b := "left") (by decide +kernel), str_ne (a := "day") (b := "begun") (by decide +kernel)]
theorem lf_no (l : Addr) (z : Ln) {m : Str} (h1 : decide (m = "rates") = false) (h2 : decide (m = "left") = false) (h3 : decide (m = "begun") = false) (h4 : decide (m = "day") = false) : (lf l z).lookup m = none := by
  simp [lf, List.lookup, str_ne h1, str_ne h2, str_ne h3, str_ne h4]
theorem putF_hit (f : Str) (v x : V) (r : List (Str × V)) : putF f v ((f, x) :: r) = (f, v) :: r := by
  show (if f = f then _ else _) = _
  rw [if_pos rfl]
theorem putF_miss {f g : Str} (h : decide (g = f) = false) (v x : V) (r : List (Str × V)) : putF f v ((g, x) :: r) = (g, x) :: putF f v r := by
  show (if g = f then _ else _) = _
  rw [if_neg (of_decide_eq_false h)]
theorem lf_putLeft (l : Addr) (z : Ln) (y : Int) : putF "left" (.int y) (lf l z) = lf l { z with left := y } := by
  unfold lf
  rw [putF_miss (by decide +kernel), putF_hit]
theorem lf_putBegun (l : Addr) (z : Ln) (y : Int) : putF "begun" (.int y) (lf l z) = lf l { z with begun := y } := by
  unfold lf
  rw [putF_miss (by decide +kernel), putF_miss (by decide +kernel), putF_hit]
theorem lf_putDay (l : Addr) (z : Ln) (y : Int) : putF "day" (.int y) (lf l z) = lf l { z with day := y } := by
  unfold lf
  rw [putF_miss (by decide +kernel), putF_miss (by decide +kernel), putF_miss (by decide +kernel), putF_hit]
theorem lf_len (l : Addr) (z : Ln) : (lf l z).length < 1000 := by show 4 < 1000; decide
theorem lf_made (l : Addr) (am : Int) : putF "day" (V.int 0) (putF "begun" (V.int 0) (putF "left" (V.int am) (putF "rates" (V.ref l) []))) = lf l ⟨am, 0, 0⟩ := by
  show putF "day" (V.int 0) (putF "begun" (V.int 0) (putF "left" (V.int am) [("rates", V.ref l)])) = _
  rw [putF_miss (by decide +kernel)]
  show putF "day" (V.int 0) (putF "begun" (V.int 0) [("rates", V.ref l), ("left", V.int am)]) = _
  rw [putF_miss (by decide +kernel), putF_miss (by decide +kernel)]
  show putF "day" (V.int 0) [("rates", V.ref l), ("left", V.int am), ("begun", V.int 0)] = _
  rw [putF_miss (by decide +kernel), putF_miss (by decide +kernel), putF_miss (by decide +kernel)]
  rfl
/-- a loan stands at x (its dict at dx), its row of rates at l -/
structure LoanAt (C : Addr) (H : Hp) (x dx l : Addr) (ts : List Trp) (z : Ln) : Prop where
  ob : H x = some (.ins C dx (lf l z))
  row : Row H l ts
theorem LoanAt.same {C : Addr} {H H' : Hp} {x dx l : Addr} {ts : List Trp} {z : Ln} (h : LoanAt C H x dx l ts z) (e : Same H H') : LoanAt C H' x dx l ts z := ⟨e _ _ h.ob, h.row.same e⟩
/-- all but what stands at x is as it was -/
def But (x : Addr) (H H' : Hp) : Prop := ∀ b o, H b = some o → b ≠ x → H' b = some o
theorem But.of {x : Addr} {H H' : Hp} (e : Same H H') : But x H H' := fun b o h _ => e b o h
theorem But.trans {x : Addr} {H H1 H2 : Hp} (a : But x H H1) (b : But x H1 H2) : But x H H2 := fun c o h n => b c o (a c o h n) n
theorem But.upd {x : Addr} {H H' : Hp} (a : But x H H') (o : HO) : But x H (L2.upd H' x o) := fun b u h n => by
  rw [L2.upd_ne n]
  exact a b u h n
theorem But.new {x p : Addr} {H H' : Hp} (a : But x H H') {o : HO} (hp : H' p = none) : But x H (L2.upd H' p o) := fun b u h n => by
  have q := a b u h n
  rw [L2.upd_ne (ne_of_none q hp)]
  exact q
theorem But.row {x l : Addr} {H H' : Hp} {ts : List Trp} {C dx : Addr} {fs : List (Str × V)} (a : But x H H') (hx : H x = some (.ins C dx fs)) (R : Row H l ts) : Row H' l ts :=
  ⟨a _ _ R.lst (ne_of R.lst hx (by intro q; cases q)), fun t ht => a _ _ (R.prs t ht) (ne_of (R.prs t ht) hx (by intro q; cases q))⟩
/-- another object that was not known before -/
theorem But.fresh {x : Addr} {H H' : Hp} (a : But x H H') (hx : H x = none) : Same H H' := fun b o h => a b o h (ne_of_none h hx)
end Toy
namespace Toy
open PySem L2
theorem cut_to {xs : List V} {k : Int} {n : Nat} (e : k = (n : Int)) (h : n ≤ xs.length) : cutV xs none (some k) = xs.take n := by
  subst e
  unfold cutV
  rw [HT.sIx_none, HT.sIx_nat, List.drop_zero, Nat.min_eq_left h, Nat.sub_zero]
theorem cut_from {xs : List V} {k : Int} {n : Nat} (e : k = (n : Int)) (h : n ≤ xs.length) : cutV xs (some k) none = xs.drop n := by
  subst e
  unfold cutV
  rw [HT.sIx_none, HT.sIx_nat, Nat.min_eq_left h]
  exact List.take_of_length_le (by rw [List.length_drop]; exact Nat.le_refl _)
theorem rowV_take (ts : List Trp) (n : Nat) : (rowV ts).take n = rowV (ts.take n) := by unfold rowV; rw [List.map_take]
theorem rowV_drop (ts : List Trp) (n : Nat) : (rowV ts).drop n = rowV (ts.drop n) := by unfold rowV; rw [List.map_drop]
theorem vals_take (ts : List Trp) (n : Nat) : vals (ts.take n) = (vals ts).take n := by unfold vals; rw [List.map_take]
theorem vals_drop (ts : List Trp) (n : Nat) : vals (ts.drop n) = (vals ts).drop n := by unfold vals; rw [List.map_drop]
theorem Up.take : ∀ {d : Int} {ps : List Pr}, Up d ps → ∀ n, Up d (ps.take n)
  | _, [], _, 0 => trivial
  | _, [], _, _ + 1 => trivial
  | _, _ :: _, _, 0 => trivial
  | _, p :: r, h, n + 1 => ⟨h.1, Up.take h.2 n⟩
theorem Good.take {ps : List Pr} (g : Good ps) (n : Nat) : Good (ps.take (n + 1)) := by
  obtain ⟨r, rest, e⟩ := g.ne
  refine ⟨⟨r, rest.take n, by rw [e]; rfl⟩, g.up.take _, fun p hp => g.rate p (List.mem_of_mem_take hp)⟩
/-- the last pair's day is that pair's -/
theorem lastDay_mem {ps : List Pr} (h : ps ≠ []) : ∃ p ∈ ps, p.1 = lastDay ps := by
  obtain ⟨r, a, e⟩ := snoc_of h
  refine ⟨a, by rw [e]; simp, ?_⟩
  rw [e]
  unfold lastDay
  rw [getLastD_append]
theorem Rok.take {ps : List Pr} (k : Rok ps) (n : Nat) : Rok (ps.take (n + 1)) := by
  have g := k.g.take n
  refine ⟨g, ?_, Nat.le_trans (List.length_take_le' _ _) k.len⟩
  obtain ⟨p, hp, e⟩ := lastDay_mem (ps := ps.take (n + 1)) (by obtain ⟨r, rest, e⟩ := g.ne; rw [e]; simp)
  rw [← e]
  exact Int.le_trans (k.g.le_last (List.mem_of_mem_take hp)) k.last
/-- the next pair's day lies behind those ahead of it -/
theorem next_day {ps : List Pr} (g : Good ps) {n : Nat} {p : Pr} (h : ps[n + 1]? = some p) : lastDay (ps.take (n + 1)) < p.1 := by
  have g2 := g.take n
  obtain ⟨q, hq, e⟩ := lastDay_mem (ps := ps.take (n + 1)) (by obtain ⟨r, rest, e⟩ := g2.ne; rw [e]; simp)
  rw [← e]
  have eall : ps = ps.take (n + 1) ++ p :: ps.drop (n + 2) := by
    have h2 : ps[n + 1]'(List.getElem?_eq_some_iff.mp h).1 = p := (List.getElem?_eq_some_iff.mp h).2
    rw [← h2, List.getElem_cons_drop, List.take_append_drop]
  have u2 : Up (-1) (ps.take (n + 1) ++ p :: ps.drop (n + 2)) := by rw [← eall]; exact g.up
  exact u2.to q hq
def amountBy (c : Int) : Int := if c % 4 = 0 then ([1, 2, 999999999999, 1000000000000] : List Int).getD (c / 4 % 4).toNat 0 else if c % 4 = 1 then 1 + c / 4 % 5000 else 1 + (mixed c 2147483647 * 467 + 5) % 1000000000000
theorem amountBy_ok (c : Int) : 1 ≤ amountBy c ∧ amountBy c ≤ 1000000000000 := by
  unfold amountBy
  split
  · obtain ⟨j, ej⟩ : ∃ j : Nat, c / 4 % 4 = (j : Int) := ⟨(c / 4 % 4).toNat, by omega⟩
    have hj : j < 4 := by omega
    rw [ej]
    match j, hj with
    | 0, _ => decide
    | 1, _ => decide
    | 2, _ => decide
    | 3, _ => decide
  · split <;> omega
theorem tup2 {a b : Int} {v : V} {j : Nat} (h : ([V.int a, V.int b] : List V)[j]? = some v) : ([V.int a, V.int b] : List V)[j]? = some v := h
end Toy
namespace Toy
open PySem L2
def vdS : Vd → Str
  | .ok => ""
  | .day => "day"
  | .rate => "rate"
end Toy
namespace Toy
open PySem L2
/-- a list that is read stays where an object changes -/
theorem seq_but {K : PySem.W.Frag} {H H' : Hp} {x C dx a : Addr} {fs : List (Str × V)} {xs : List V} (b : But x H H') (hx : H x = some (.ins C dx fs)) (h : SqL K H a xs) : SqL K H' a xs := by
  rcases h with (h | ⟨o, h⟩) | h
  · exact .inl (.inl (b _ _ h (ne_of h hx (by intro q; cases q))))
  · exact .inl (.inr ⟨o, b _ _ h (ne_of h hx (by intro q; cases q))⟩)
  · exact .inr h
end Toy
namespace Toy
open PySem L2
theorem But.rowl {q l : Addr} {H H' : Hp} {ts : List Trp} {xs : List V} (b : But q H H') (hq : H q = some (.lst xs)) (n : l ≠ q) (R : Row H l ts) : Row H' l ts :=
  ⟨b _ _ R.lst n, fun t ht => b _ _ (R.prs t ht) (ne_of (R.prs t ht) hq (by intro z; cases z))⟩
theorem But.loan {q x dx l C : Addr} {H H' : Hp} {ts : List Trp} {z : Ln} {xs : List V} (b : But q H H') (hq : H q = some (.lst xs)) (n : l ≠ q) (A : LoanAt C H x dx l ts z) : LoanAt C H' x dx l ts z :=
  ⟨b _ _ A.ob (ne_of A.ob hq (by intro z; cases z)), b.rowl hq n A.row⟩
theorem But.loanx {y dy x dx l C : Addr} {fs : List (Str × V)} {H H' : Hp} {ts : List Trp} {z : Ln} (b : But y H H') (hy : H y = some (.ins C dy fs)) (n : x ≠ y) (A : LoanAt C H x dx l ts z) : LoanAt C H' x dx l ts z :=
  ⟨b _ _ A.ob n, b.row hy A.row⟩
theorem seq_butl {K : PySem.W.Frag} {H H' : Hp} {q a : Addr} {xs ys : List V} (b : But q H H') (n : a ≠ q) (h : SqL K H a xs) : SqL K H' a xs := by
  rcases h with (h | ⟨o, h⟩) | h
  · exact .inl (.inl (b _ _ h n))
  · exact .inl (.inr ⟨o, b _ _ h n⟩)
  · exact .inr h
theorem Rok.snoc {ps : List Pr} (k : Rok ps) {d r : Int} (h1 : lastDay ps < d) (h2 : d ≤ 100000) (h3 : 0 ≤ r) (h4 : r ≤ 100000) (h5 : ps.length < 1000) : Rok (ps ++ [(d, r)]) := by
  refine ⟨k.g.snoc h1 h3 h4, ?_, by rw [List.length_append]; exact h5⟩
  unfold lastDay
  rw [getLastD_append]
  exact h2
theorem lastDay_snoc (ps : List Pr) (d r : Int) : lastDay (ps ++ [(d, r)]) = d := by
  unfold lastDay
  rw [getLastD_append]
/-- what a change of the rate is told -/
def dueC (ps : List Pr) (at1 d r : Int) : Vd := if d ≤ at1 ∨ d ≤ lastDay ps ∨ d > 100000 then .day else if 0 ≤ r ∧ r ≤ 100000 then .ok else .rate
theorem dueC_ok {ps : List Pr} {at1 d r : Int} (h : dueC ps at1 d r = .ok) : ¬ (d ≤ at1 ∨ d ≤ lastDay ps ∨ d > 100000) ∧ 0 ≤ r ∧ r ≤ 100000 := by
  unfold dueC at h
  split at h
  · cases h
  · rename_i c
    split at h
    · rename_i c2
      exact ⟨c, c2⟩
    · cases h
/-- what is owed does not fall by itself -/
theorem owedF_mono {l b b2 : Int} (h : b ≤ b2) : owedF l b ≤ owedF l b2 := by unfold owedF; omega
theorem begunAt_mono {ps : List Pr} {z : Ln} {d : Int} (h : LnOk z) (g : Good ps) (hd : z.day ≤ d) : z.begun ≤ begunAt ps z d := by
  have h1 := (gsum_ok g.rate hd).1
  have h2 := Int.mul_nonneg h.l0 h1
  unfold begunAt
  omega
theorem begunAt_self (ps : List Pr) (z : Ln) : begunAt ps z z.day = z.begun := by
  unfold begunAt
  rw [gsum_self, Int.mul_zero, Int.add_zero]
end Toy
/-! ### errors: calls in a try, clauses with and without a name, isinstance of the error in hand, a def asked about it -/
namespace L2
open PySem PySem.Spec PyProof.Rows
section
variable {X : Cx} {CX : CXT} {k : Nat} {f C : Addr} {fd : FuncData} {ps : List Str} {sp : Sp} {E : St → XK} {x m : Str} {p pos apos : Pos} {e o : Expr} {es : List Expr} {ta : TE} {t : TA}
/-- a method's call in a try: what it lets out is wished for at the slots -/
def tMethT (C : Addr) (m : Str) (sp : Sp) (E : St → XK) (ta : TE) (t : TA) : TE := fun σ H Q => ta σ H fun v H1 => ∃ a dx fs, v = .ref a ∧ H1 a = some (.ins C dx fs) ∧ fs.lookup m = none ∧ t σ H1 fun vs H2 => sp (v :: vs) H2 Q (E σ)
theorem pe_methT {pl : Sem Bool} (he : PE X o ta) (c : Cls X.K C) (hm : Meth X.K C m f) (F : FnOk X.prog X.w X.K X.mg X.base CX k f fd ps sp) (hr : Room k X.A) (hb : Binds X.K fd ps []) (hx : ∀ σ, PassesAt CX X σ (E σ)) (ha : PA X (e :: es) t)
    (hst : starEach (e :: es) X.env = (false, eval e X.env) :: starEach es X.env := by rfl) (hpl : (backTo pos (starEach es X.env)).any (·.1) = false := by rfl)
    (ht : eval (.Call (.Attribute o m apos) (e :: es) [] pos) X.env = (do
      let ov ← eval o X.env
      standAt apos.atName
      let (g, first) ← holding [ov] (getMethod ov m pl)
      callWith pos g first (backTo pos (starEach (e :: es) X.env)) (backToKw pos (keywordEach [] X.env))) := by rfl) :
    PE X (.Call (.Attribute o m apos) (e :: es) [] pos) (tMethT C m sp E ta t) := by
  refine ⟨fun pins s σ H Q I h => ?_⟩
  refine PySem.W.methodCall_KW (pl := pl) (thn (he.run pins s σ H _ I h) fun u s1 ⟨y, H1, I1, ry, a, dx, fs, ey, ea, l, q⟩ => ?_) ht
  subst ey
  obtain rfl : u = Value.ref a := ry
  refine getmeth_ok I1 ea c hm l ?_
  refine PySem.W.callWith_K (first := [.ref a]) (h₀ := X.base) I.ok.mod.kin hm.kp (thn (ha.run pos pins s1 σ H1 _ I1 q) fun us s2 ⟨vs, H2, I2, r, q2⟩ => ⟨I2.kIn, ?_⟩) hst hpl
  exact run_fnS (us := .ref a :: us) (vs := .ref a :: vs) F hr hb (hx σ) I2 (.cons rfl r) q2
/-- C(..) in a try -/
def tMakeT (C : Addr) (sp : Sp) (E : St → XK) (t : TA) : TE := fun σ H Q => t σ H fun vs H1 => ∀ x dx, H1 x = none → H1 dx = none → dx ≠ x →
  sp (.ref x :: vs) (upd (upd H1 dx (.own x)) x (.ins C dx [])) (fun v H2 => v = .non ∧ Q (.ref x) H2) (E σ)
theorem run_makeT {pins : List (Addr × Obj)} {σ : St} {H : Hp} {s : Shared} {Q : VK} {us : List Value} {vs : List V} (M : Mk X.K C f) (F : FnOk X.prog X.w X.K X.mg X.base CX k f fd ps sp) (hr : Room (k + 1) X.A) (hb : Binds X.K fd ps [])
    (hx : PassesAt CX X σ (E σ)) (I : Inv X pins σ H s) (r : Vals vs us)
    (h : ∀ x dx, H x = none → H dx = none → dx ≠ x → sp (.ref x :: vs) (upd (upd H dx (.own x)) x (.ins C dx [])) (fun v H2 => v = .non ∧ Q (.ref x) H2) (E σ)) :
    wpAny (model X.prog X.w) X.A (call (.ref C) us) (EP X pins σ Q) X.xe s := by
  have hq := h (s.heap.objs.size + 1) s.heap.objs.size (I.hok.fresh (Nat.le_succ _)) (I.hok.fresh (Nat.le_refl _)) (Nat.ne_of_lt (Nat.lt_succ_self _))
  have I2 := Inv.made (C := C) I
  have r2 : Vals (V.ref (s.heap.objs.size + 1) :: vs) (Value.ref (s.heap.objs.size + 1) :: us) := .cons rfl r
  have hl : ((Value.ref (s.heap.objs.size + 1) :: us) ++ []).length = ps.length := by
    rw [List.append_nil]
    have e1 := r2.length
    rw [F.len _ _ _ _ hq] at e1
    exact e1.symm
  have b := hb _ (Value.ref (s.heap.objs.size + 1) :: us) I2.kIn hl
  rw [List.append_nil] at b
  refine wpAny_call (make_map (f := f) I.kIn M.makes M.init (beq_iff_eq.mp M.fn) (codeAny_mono (F.run _ X.stack _ _ ⟨Value.ref (s.heap.objs.size + 1) :: us, []⟩ (Value.ref (s.heap.objs.size + 1) :: us) _ _ (E σ) (hr.make C us [])
    (I2.env0.make C us []) b r2 hq) fun r s' hq' => ?_))
  cases r with
  | error e => exact hx pins _ _ e s' I2 hq'
  | ok fl =>
    cases fl with
    | ret u =>
      obtain ⟨v, H', I3, rv, ev, q3⟩ := I2.after hq'
      subst ev
      exact ⟨rv, ⟨V.ref (s.heap.objs.size + 1), H', I3, rfl, q3⟩⟩
    | next => exact False.elim hq'
    | brk => exact False.elim hq'
    | cont => exact False.elim hq'
theorem pe_makeT (M : Mk X.K C f) (F : FnOk X.prog X.w X.K X.mg X.base CX k f fd ps sp) (hr : Room (k + 1) X.A) (hm : X.mg x = some (.ref C)) (hb : Binds X.K fd ps []) (hx : ∀ σ, PassesAt CX X σ (E σ))
    (ha : PA X (e :: es) t) (hg : Gl X x := by rfl) (hdb : (x == ("__debug__" : Str)) = false := by decide) (he : starEach (e :: es) X.env = (false, eval e X.env) :: starEach es X.env := by rfl) (hpl : (backTo pos (starEach es X.env)).any (·.1) = false := by rfl) :
    PE X (.Call (.Name x p) (e :: es) [] pos) (tMakeT C sp E t) := by
  refine ⟨fun pins s σ H Q I h => ?_⟩
  refine wpAny_Call_Name_kw (ld_glob I hg hm ?_ hdb)
  refine PySem.W.callWith_K (h₀ := X.base) I.ok.mod.kin M.kp (thn (ha.run pos pins s σ H _ I h) fun us s1 ⟨vs, H1, I1, r, q⟩ => ⟨I1.kIn, ?_⟩) he hpl
  exact run_makeT M F hr hb (hx σ) I1 r q
end

/-! #### isinstance(e, c), e the error in hand (a pinned object) -/
def rIsX (K : PySem.W.Frag) (cls : Value) (d : Option Addr) (a : Addr) : List V → Hp → VK → Prop := fun xs H Q => ∃ (D : Addr) (c : V) (cv : Value) (b : Bool), cls = .ref D ∧ d = none ∧ ExcC K D ∧ xs = [.ref a, c] ∧ (∀ u, RelV c u → u = cv) ∧ PySem.W.kitOne K (.ref D) cv = some b ∧ Q (.bl b) H
theorem call_isX {X : Cx} {a : Addr} {oe : Obj} {cls : Value} {d : Option Addr} (hz : Zc cls d oe) (hf : ∃ vs, oe.data = .fields vs) (hp : (a, oe) ∈ X.pn) : CallR X (.builtin "isinstance") (rIsX X.K cls d a) := by
  intro pins s σ H xs us Q I r h
  obtain ⟨D, c, cv, b, rfl, rfl, C, rfl, hcv, e, q⟩ := h
  obtain ⟨u1, u2, rfl, r1, r2⟩ := vals2 r
  obtain rfl : u1 = Value.ref a := r1
  obtain rfl := hcv _ r2
  have hget := (I.pin (a, oe) (List.mem_append_left _ hp)).1
  have J : PySem.W.InstAt s.heap a oe D none := by
    obtain ⟨oc, od, oda, osl⟩ := oe
    obtain ⟨h1, h2⟩ := hz
    obtain ⟨vs, hv⟩ := hf
    dsimp only at h1 h2 hv
    subst h1 h2 hv
    exact ⟨hget, rfl, rfl, trivial⟩
  exact PySem.W.kia_one (PySem.W.handS_kitx_exc C.hg C.hk C.hs C.hd C.ha C.hn C.ht C.hm) I.kIn J e (fun z => nomatch z) fun tk => ⟨.bl b, H, I.kept (t' := tk) fun _ _ z => z, rfl, q⟩

/-! #### a def that is asked about the error in hand: it answers v, all stays -/
def FnE (P : Program) (w : World) (K : PySem.W.Frag) (mg : Str → Option Value) (base : Heap) (k : Nat) (f : Addr) (fd : FuncData) (ps : List Str) (ok : Addr × Obj → Prop) (v : V) : Prop :=
  ∀ (A : Around) (outer : List Env) (s : Shared) (H : Hp) (args : Args) (p : Addr × Obj), L2H.RoomH k A → L2H.PinOk outer H s p → Env0 P w K mg base A outer s H → BindsTo s fd args (ps.zip [.ref p.1]) → ok p →
    codeAny (model P w) A (.call (.ref f) args) (CR CX0 outer P w H s (fun u H' => u = v ∧ H' = H) E0) s
theorem fnE_of {P : Program} {w : World} {K : PySem.W.Frag} {mg : Str → Option Value} {base : Heap} {k : Nat} {f : Addr} {fd : FuncData} {x : Str} {st : Stmt} {N ps : List Str} {ok : Addr × Obj → Prop} {v : V} (F : Fun K x x st f fd) (S : FnScope N ps (defScope st)) (one : ps.length = 1)
    (hbody : ∀ (cdv : Value) (A : Around) (outer : List Env) (s : Shared) (H : Hp) (p : Addr × Obj), L2H.RoomH k (A.deeper (envOfC x (defScope st) s.heap.objs.size f cdv)) → ok p →
      ∃ t, PSs (L2H.cxH CX0 P w K mg base N x (defScope st) f cdv A outer s H E0 p) (defBody st) t ∧ t { nx := fun _ H' => V.non = v ∧ H' = H, rt := fun u H' => u = v ∧ H' = H } (start N [.ref p.1]) H) :
    FnE P w K mg base (k + 1) f fd ps ok v := by
  obtain ⟨oc, od, kV, doc, pm, an, cdv, ct, osl, rfl, lk, hcd⟩ := F.ex
  intro A outer s H args p hr hpin e0 hb hok
  have KX : K.In s.heap := e0.mod.kin.keeps fun b o e => (e0.bs b o e).1
  have lim : s.heap.NoLimit := e0.mod.nolimit.keeps fun b o e => (e0.bs b o e).1
  have hkind : ∀ y ∈ ps.zip [Value.ref p.1], (defScope st).names.lookup y.1 = some .local ∨ ((defScope st).names.lookup y.1 = some .cell ∧ ((cellsFrom (s.heap.objs.size + 1) (defScope st).names []).lookup y.1).isSome = true) := fun ⟨n, u⟩ hy => by
    rcases S.par n (List.of_mem_zip hy).1 with q | q
    · exact .inl q
    · exact .inr ⟨q, PySem.W.cellsFrom_some _ _ _ (.inl q)⟩
  refine codeAny_call_function hr.depth (KX _ _ lk) rfl S.co S.gen rfl (PySem.W.codeRec_of KX hcd) (hb _ _ _ _ ?_)
  refine wpAny_newFunctionEnv_cells S.kind hkind fun env he s1 y => ?_
  subst he
  refine ⟨lim.keeps y.toInCall.keep, codeAny_func ?_⟩
  obtain ⟨t, ht, hq⟩ := hbody cdv A outer s H p (hr.deeper _) hok
  have I : Inv (L2H.cxH CX0 P w K mg base N x (defScope st) f cdv A outer s H E0 p) [] (start N [.ref p.1]) H s1 := L2H.inv_startH (vs := [.ref p.1]) S hpin e0 (by rw [one]; rfl) (.cons rfl .nil) y
  refine wpAny_mono (ht.run [] s1 (start N [.ref p.1]) H _ I hq) (fun fl s' hs => ?_) fun e s' hs => hs
  cases fl with
  | ret u =>
    obtain ⟨u', σ', H', J, rv, q⟩ := hs
    exact ⟨u', H', J.os, J.bare, J.base, J.hok, rv, q⟩
  | next =>
    obtain ⟨σ', H', J, q⟩ := hs
    exact ⟨V.non, H', J.os, J.bare, J.base, J.hok, rfl, q⟩
  | brk =>
    obtain ⟨_, _, _, q⟩ := hs
    exact False.elim q
  | cont =>
    obtain ⟨_, _, _, q⟩ := hs
    exact False.elim q
/-- such a def, as its callers see it -/
structure De (P : Program) (w : World) (K : PySem.W.Frag) (mg : Str → Option Value) (base : Heap) (k : Nat) (x : Str) (ps : List Str) (ok : Addr × Obj → Prop) (v : V) where
  f : Addr
  fd : FuncData
  G : FnE P w K mg base k f fd ps ok v
  m : mg x = some (.ref f)
  kp : PySem.W.keepIn K (.ref f) = true
  b : Binds K fd ps []
/-- its call in a suite -/
theorem pe_callE {X : Cx} {k : Nat} {x : Str} {ps : List Str} {ok : Addr × Obj → Prop} {v : V} {a : Addr} {oe : Obj} {e : Expr} {te : TE} {q pos : Pos} {okc : Prop} (D : De X.prog X.w X.K X.mg X.base k x ps ok v) (hr : L2H.RoomH k X.A) (hp : (a, oe) ∈ X.pn) (one : ps.length = 1) (he : PE X e te) (hok : okc → ok (a, oe))
    (hg : Gl X x := by rfl) (hdb : (x == ("__debug__" : Str)) = false := by decide) (hs : starEach (e :: []) X.env = (false, eval e X.env) :: starEach [] X.env := by rfl) (hpl : (backTo pos (starEach [] X.env)).any (·.1) = false := by rfl) :
    PE X (.Call (.Name x q) [e] [] pos) (fun σ H Q => te σ H fun y H1 => [y] = [.ref a] ∧ okc ∧ Q v H1) := by
  refine ⟨fun pins s σ H Q I h => ?_⟩
  have ha : PA X [e] (tCons te tNil) := pa_cons he pa_nil (hs := hs)
  refine wpAny_Call_Name_kw (ld_glob I hg D.m ?_ hdb)
  refine PySem.W.callWith_K (h₀ := X.base) I.ok.mod.kin D.kp (thn (ha.run pos pins s σ H (fun vs H1 => vs = [.ref a] ∧ okc ∧ Q v H1) I h) fun us s1 hh => ?_) hs hpl
  obtain ⟨vs, H1, I1, r, rfl, hc, q1⟩ := hh
  refine ⟨I1.kIn, ?_⟩
  cases r with
  | cons r1 r2 =>
    cases r2
    obtain rfl := r1
    have P1 := I1.pin (a, oe) (List.mem_append_left _ hp)
    have hpin : L2H.PinOk X.stack H1 s1 (a, oe) := ⟨P1.1, P1.2.1, fun hm => (List.mem_cons.mp (I1.stkSub a hm)).elim P1.2.2.1 P1.2.2.2.1, P1.2.2.2.2⟩
    have hb := D.b s1 [.ref a] I1.kIn (by rw [List.append_nil, one]; rfl)
    rw [List.append_nil] at hb
    refine wpAny_call (codeAny_mono (D.G X.A X.stack s1 H1 ⟨[.ref a], []⟩ (a, oe) hr hpin I1.env0 hb (hok hc)) fun r s' hq => ?_)
    cases r with
    | error e => exact False.elim hq
    | ok fl =>
      cases fl with
      | ret u =>
        obtain ⟨u', H', I3, rv, rfl, rfl⟩ := I1.after hq
        exact ⟨_, _, I3, rv, q1⟩
      | next => exact False.elim hq
      | brk => exact False.elim hq
      | cont => exact False.elim hq

/-! #### a try whose clauses may bear a name -/
/-- a suite's ways out; where its clause has a name, the name's slot is emptied behind it -/
def sOut (o : Option Nat) (ts : TS) (a : Addr) : TS := match o with
  | none => ts
  | some i => fun D σ H => ts { nx := fun σ' H' => D.nx (σ'.set i none) H', rt := D.rt, bk := fun σ' H' => D.bk (σ'.set i none) H', ct := fun σ' H' => D.ct (σ'.set i none) H' } (σ.set i (some (.ref a))) H
abbrev Cl := Value × Option Nat × (Addr → Value → Option Addr → TS)
def wMix (K : PySem.W.Frag) (Wout : WX) (D : Ends) : List Cl → WX
  | [] => Wout
  | (c, o, ts) :: r => fun cls d σ H => ∃ b, PySem.W.exmOne K cls c = some b ∧ (b = true → ∀ a, H a = none → sOut o (ts a cls d) a D σ H) ∧ (b = false → wMix K Wout D r cls d σ H)
inductive MixOk (X : Cx) : List ExceptHandler → List Cl → Prop
  | nil : MixOk X [] []
  | plain {x : Str} {c : Value} {ts : Addr → Value → Option Addr → TS} {b1 : Stmt} {suite : List Stmt} {np pos' : Pos} {hds : List ExceptHandler} {l : List Cl} (hc : Names X x c)
      (hsu : ∀ (a : Addr) (oe : Obj) (cls : Value) (d : Option Addr) (pn : List (Addr × Obj)), Zc cls d oe → (∃ vs, oe.data = .fields vs) → PSs (X.suite a ((a, oe) :: pn)) (b1 :: suite) (ts a cls d)) (r : MixOk X hds l) :
      MixOk X (.ExceptHandler (some (.Name x np)) none (b1 :: suite) pos' :: hds) ((c, none, ts) :: l)
  | named {x n : Str} {c : Value} {i : Nat} {ts : Addr → Value → Option Addr → TS} {b1 : Stmt} {suite : List Stmt} {np pos' : Pos} {hds : List ExceptHandler} {l : List Cl} (hN : X.N.Nodup) (hi : X.N[i]? = some n) (hln : X.env.kindOf n = some .local) (hc : Names X x c)
      (hsu : ∀ (a : Addr) (oe : Obj) (cls : Value) (d : Option Addr) (pn : List (Addr × Obj)), Zc cls d oe → (∃ vs, oe.data = .fields vs) → PSs (X.suite a ((a, oe) :: pn)) (b1 :: suite) (ts a cls d)) (r : MixOk X hds l) :
      MixOk X (.ExceptHandler (some (.Name x np)) (some n) (b1 :: suite) pos' :: hds) ((c, some i, ts) :: l)
section
variable {X : Cx} {body : List Stmt} {hd1 : ExceptHandler} {hds : List ExceptHandler} {l : List Cl} {pos : Pos} {tb : WX → TS} {Wout : WX}
theorem ps_try_mix (hs : X.stack = X.env :: X.outer) (hf : X.env.frame = some X.env.locals) (tk : Takes X Wout)
    (hb : ∀ (W : WX) (pn : List (Addr × Obj)) (xe : Value → Shared → Prop), Takes (X.tr pn xe) W → PassesOwn (model X.prog X.w) X.A X.env xe → PSs (X.tr pn xe) body (tb W))
    (hh : MixOk X (hd1 :: hds) l) : PS X (.Try body (hd1 :: hds) [] [] pos) (fun D σ H => tb (wMix X.K Wout D l) D σ H) := by
  refine ⟨fun pins s σ H D I h => ?_⟩
  have ok := I.ok
  have hfr : X.A.frames = some (X.env :: X.outer) := by rw [ok.frames, hs]
  refine wpAny_Try_except ?_
  refine wpAny_mono ((hb (wMix X.K Wout D l) (X.pn ++ pins) (fun e sa => wpAny (model X.prog X.w) X.A (noteFrame e X.env) (fun _ sb => wpAny (model X.prog X.w) X.A (setFlight e none) (fun _ sc =>
    wpAny (model X.prog X.w) X.A (handleBy e X.env (hd1 :: hds)) (SP X pins D) X.xe sc) X.xe sb) X.xe sa) (fun u s' xx => ?_) PassesOwn.looking).run [] s σ H D (I.toTry _) h) (fun f s1 hsp => ?_) (fun e s1 he => he)
  · obtain ⟨a, B, sI, pins', σ', H', cls, d, rfl, J', nb, up, sky, na, os, ag, w⟩ := xx
    have J : Inv X pins σ' H' sI := J'.ofTry ok
    have sky' : Sky B (X.env :: X.outer) a (Zc cls d) X.env.locals s'.heap := by rw [← hs]; exact sky
    show wpAny (model X.prog X.w) X.A (noteFrame (.ref a) X.env) _ _ _
    refine Sky.land Zc.steady hfr hf sky' fun h3 fl3 up3 => ?_
    have J3 : Inv X pins σ' H' { s' with heap := h3 } := J.landed nb fl3.1 (up.trans up3) os ag
    obtain ⟨oe3, vs3, he3, hz3, hd3⟩ := fl3.there
    have nfr : a ∉ frs (X.env :: X.outer) := fun hm => by
      obtain ⟨_, o', e', hnf⟩ := fl3.2.2.1.mem hm
      rw [he3] at e'
      cases e'
      exact hnf _ hd3
    have nL : a ≠ X.env.locals := fun z => nfr (List.mem_filterMap.mpr ⟨X.env, List.mem_cons_self, by rw [hf, z]⟩)
    have nF : a ∉ X.fs := fun hm => by
      obtain ⟨e, he, q⟩ := List.mem_filterMap.mp hm
      exact nfr (List.mem_filterMap.mpr ⟨e, List.mem_cons_of_mem _ he, q⟩)
    have S3 := J3.suite he3 hd3 na nL nF
    have test : ∀ {x : Str} {c : Value} {np : Pos} {Q : Value → Shared → Prop} {E : Value → Shared → Prop}, Names X x c → Q c { s' with heap := h3 } → wpAny (model X.prog X.w) (X.A.mark (some (.ref a))) (eval (.Name x np) X.env) Q E { s' with heap := h3 } := fun {x c np Q E} hc q => by
      obtain ⟨hg, hdbg, hm | ⟨hm, hv, hnn⟩⟩ := hc
      · exact ld_glob (X := X.suite a ((a, oe3) :: (X.pn ++ pins))) S3 hg hm q hdbg
      · exact ld_blt (X := X.suite a ((a, oe3) :: (X.pn ++ pins))) S3 hg hm hv q hnn hdbg
    have LT : PySem.W.Looks (model X.prog X.w) h3 (typeOf (.ref a)) cls := fun A Q E s k q => wpAny_typeOf_ref (k _ _ he3) (by rw [hz3.1]; exact q)
    have go : ∀ {hs2 : List ExceptHandler} {l2 : List Cl}, MixOk X hs2 l2 → wMix X.K Wout D l2 cls d σ' H' →
        wpAny (model X.prog X.w) X.A (handleBy (.ref a) X.env hs2) (SP X pins D) X.xe { s' with heap := h3 } := by
      intro hs2 l2 hk
      induction hk with
      | nil =>
        intro w
        refine wpAny_handleBy_nil ?_
        obtain ⟨k1, k2, k3, oe, vs, T, oT, ts', he, hz, hd, h1, hr⟩ := id fl3
        unfold PySem.passOn
        refine wpAny_bind (wpAny_field he hd h1 ?_)
        rw [if_neg (show ¬ ((Value.ref T == Value.none) = true) from by simp)]
        have fin : wpAny (model X.prog X.w) X.A (setFlight (.ref a) X.env.frame) (fun _ s4 => wpAny (model X.prog X.w) X.A (throw (.ref a) : Sem Flow) (SP X pins D) X.xe s4) X.xe { s' with heap := h3 } := by
          rw [hf]
          refine HandSPX.setFlight_upZ fl3 fun h4 hh4 up4 => wpAny_throw (tk _ _ ?_)
          exact ⟨a, B, sI, pins, σ', H', cls, d, rfl, J, nb, (up.trans up3).trans up4, .inr (.inr (by rw [hs]; exact hh4)), na, os, ag, w⟩
        first
          | exact wpAny_bind (wpAny_pure (wpAny_bind fin))
          | exact wpAny_bind fin
      | @plain x c ts b1 suite np pos' hds2 l3 hc hsu r ih =>
        intro w
        obtain ⟨b, hb1, hyes, hno⟩ := w
        refine wpAny_handleBy_cons (codeAny_handlers_test ?_) (by intro q; cases q)
        have LM := PySem.W.exm_one (M := model X.prog X.w) (J3.kIn) LT hb1
        refine test hc (LM.here ?_)
        cases b with
        | false =>
          show wpAny _ X.A (handleBy (.ref a) X.env hds2) _ _ _
          exact ih (hno rfl)
        | true =>
          refine codeAny_handlers_suite ?_
          refine HandSPX.lands_againZ fl3 fun h4 fl4 up4 => ?_
          have J4 : Inv X pins σ' H' { s' with heap := h4 } := J.landed nb fl4.1 ((up.trans up3).trans up4) os ag
          obtain ⟨oe4, vs4, he4, hz4, hd4⟩ := fl4.there
          have S4 := J4.suite he4 hd4 na nL nF
          refine wpAny_mono ((hsu a oe4 cls d (X.pn ++ pins) hz4 ⟨_, hd4⟩).run [] _ _ H' _ S4 (hyes rfl a na)) (fun fl s6 hsp => ?_) (fun _ _ z => False.elim z)
          cases fl with
          | ret u =>
            obtain ⟨v6, σ6, H6, S6, r6, q6⟩ := hsp
            exact ⟨_, _, _, S6.unsuite ok, r6, q6⟩
          | next => exact hsp.elim fun σ6 ⟨H6, S6, q6⟩ => ⟨_, _, S6.unsuite ok, q6⟩
          | brk => exact hsp.elim fun σ6 ⟨H6, S6, q6⟩ => ⟨_, _, S6.unsuite ok, q6⟩
          | cont => exact hsp.elim fun σ6 ⟨H6, S6, q6⟩ => ⟨_, _, S6.unsuite ok, q6⟩
      | @named x n c i ts b1 suite np pos' hds2 l3 hN hi hln hc hsu r ih =>
        intro w
        obtain ⟨b, hb1, hyes, hno⟩ := w
        refine wpAny_handleBy_cons (codeAny_handlers_test ?_) (by intro q; cases q)
        have LM := PySem.W.exm_one (M := model X.prog X.w) (J3.kIn) LT hb1
        refine test hc (LM.here ?_)
        cases b with
        | false =>
          show wpAny _ X.A (handleBy (.ref a) X.env hds2) _ _ _
          exact ih (hno rfl)
        | true =>
          refine codeAny_handlers_suite_as ?_
          refine HandSPX.lands_againZ fl3 fun h4 fl4 up4 => ?_
          have J4 : Inv X pins σ' H' { s' with heap := h4 } := J.landed nb fl4.1 ((up.trans up3).trans up4) os ag
          obtain ⟨oe4, vs4, he4, hz4, hd4⟩ := fl4.there
          have S4 := J4.suite he4 hd4 na nL nF
          refine store_ok (X := X.suite a ((a, oe4) :: (X.pn ++ pins))) (v := .ref a) S4 hN hi (.inl hln) rfl (fun s5 S5 => ?_) (.inr hln)
          refine wpAny_mono ((hsu a oe4 cls d (X.pn ++ pins) hz4 ⟨_, hd4⟩).run [] s5 _ H' _ S5 (hyes rfl a na)) (fun fl s6 hsp => ?_) (fun _ _ z => False.elim z)
          have gone : ∀ {σ6 : St} {H6 : Hp} {Q : Shared → Prop}, Inv (X.suite a ((a, oe4) :: (X.pn ++ pins))) [] σ6 H6 s6 → (∀ s7, Inv X pins (σ6.set i none) H6 s7 → Q s7) →
              wpAny (model X.prog X.w) X.A (do bindName X.env n .none; unbindBehindTheSuite X.env n pos') (fun _ s7 => Q s7) X.xe s6 := fun {σ6 H6 Q} S6 hq => gone_ok (S6.unsuite ok) hN hi hln hq
          cases fl with
          | ret u =>
            obtain ⟨v6, σ6, H6, S6, r6, q6⟩ := hsp
            exact gone S6 fun s7 J7 => ⟨_, _, _, J7, r6, q6⟩
          | next => exact hsp.elim fun σ6 ⟨H6, S6, q6⟩ => gone S6 fun s7 J7 => ⟨_, _, J7, q6⟩
          | brk => exact hsp.elim fun σ6 ⟨H6, S6, q6⟩ => gone S6 fun s7 J7 => ⟨_, _, J7, q6⟩
          | cont => exact hsp.elim fun σ6 ⟨H6, S6, q6⟩ => gone S6 fun s7 J7 => ⟨_, _, J7, q6⟩
    exact go hh w
  · cases f with
    | ret u =>
      obtain ⟨v, σ', H', J', r, q⟩ := hsp
      exact ⟨v, σ', H', J'.ofTry ok, r, q⟩
    | next =>
      obtain ⟨σ', H', J', q⟩ := hsp
      exact wpAny_execs_nil ⟨σ', H', J'.ofTry ok, q⟩
    | brk =>
      obtain ⟨σ', H', J', q⟩ := hsp
      exact ⟨σ', H', J'.ofTry ok, q⟩
    | cont =>
      obtain ⟨σ', H', J', q⟩ := hsp
      exact ⟨σ', H', J'.ofTry ok, q⟩
end
end L2
namespace L2
open PySem PySem.Spec PyProof.Rows
theorem roomH_mark {j k : Nat} {A : Around} (r : Room j A) (v : Option Value) (h : k ≤ j := by decide) : L2H.RoomH k (A.mark v) := ⟨(r.mono h).dp, (r.mono h).un⟩
/-- what a law asks of an error in hand: it is of one of the classes in l, in order amount, rate, day, pay, note: the places at which it answers -/
theorem kit_own {K : PySem.W.Frag} {C D : Addr} {b : Bool} (h : PySem.W.kitOne K (.ref C) (.ref D) = some b) : PySem.W.kitOne K (.ref C) (.ref D) = some b := h
end L2
namespace L2
open PySem PySem.Spec PyProof.Rows
theorem kit_sub {K : PySem.W.Frag} {C D : Addr} {b : Bool} (hd : PySem.W.hasDictIn K D = true) (ht : PySem.W.typeIn K (.ref D) = some (.type "type")) (hs : PySem.W.subIn K (.ref D) (.ref D) = some true) (h : PySem.W.subIn K (.ref C) (.ref D) = some b) : PySem.W.kitOne K (.ref C) (.ref D) = some b := by
  unfold PySem.W.kitOne
  by_cases e : (Value.ref C == Value.ref D) = true
  · rw [if_pos e]
    have e2 : C = D := Value.ref.inj (beq_iff_eq.mp e)
    rw [e2, hs] at h
    exact h
  · rw [if_neg e]
    obtain ⟨cd, hc, _⟩ := PySem.W.any_some hd
    have e2 : ((PySem.W.clsIn K D).isSome && PySem.W.typeIn K (.ref D) == some (.type "type")) = true := by rw [hc, ht] <;> rfl
    show (if ((PySem.W.clsIn K D).isSome && PySem.W.typeIn K (.ref D) == some (.type "type")) = true then PySem.W.subIn K (.ref C) (.ref D) else none) = some b
    rw [if_pos e2]
    exact h
theorem kit_ve {K : PySem.W.Frag} {C : Addr} (h : PySem.W.subIn K (.ref C) (.type "ValueError") = some true) : PySem.W.kitOne K (.ref C) (.type "ValueError") = some true := by
  unfold PySem.W.kitOne
  rw [if_neg (show ¬ (Value.ref C == Value.type "ValueError") = true from fun z => nomatch (beq_iff_eq.mp z))]
  show (if PySem.W.kitMeta "ValueError" = true then PySem.W.subIn K (.ref C) (.type "ValueError") else none) = some true
  rw [if_pos (by decide +kernel)]
  exact h
end L2
namespace L2
open PySem PySem.Spec PyProof.Rows
theorem pe_isS {X : Cx} {a : Addr} {oe : Obj} {cls : Value} {d : Option Addr} {pn : List (Addr × Obj)} {e1 e2 : Expr} {t1 t2 : TE} {p pos : Pos} (hz : Zc cls d oe) (hf : ∃ vs, oe.data = .fields vs) (hm : X.mg "isinstance" = none)
    (h1 : PE (X.suite a ((a, oe) :: pn)) e1 t1) (h2 : PE (X.suite a ((a, oe) :: pn)) e2 t2) (hg : Gl (X.suite a ((a, oe) :: pn)) "isinstance" := by rfl)
    (g1 : starEach (e1 :: [e2]) (X.suite a ((a, oe) :: pn)).env = (false, eval e1 (X.suite a ((a, oe) :: pn)).env) :: starEach [e2] (X.suite a ((a, oe) :: pn)).env := by rfl) (g2 : starEach (e2 :: []) (X.suite a ((a, oe) :: pn)).env = (false, eval e2 (X.suite a ((a, oe) :: pn)).env) :: starEach [] (X.suite a ((a, oe) :: pn)).env := by rfl)
    (g3 : (backTo pos (starEach [e2] (X.suite a ((a, oe) :: pn)).env)).any (·.1) = false := by rfl) :
    PE (X.suite a ((a, oe) :: pn)) (.Call (.Name "isinstance" p) [e1, e2] [] pos) (tCB (rIsX X.K cls d a) (tCons t1 (tCons t2 tNil))) :=
  pe_callB (X := X.suite a ((a, oe) :: pn)) (id := "isinstance") (call_isX hz hf List.mem_cons_self) hg hm (by decide +kernel) (pa_cons h1 (pa_cons h2 pa_nil (hs := g2)) (hs := g1)) (by decide) (by decide) g1 g3
end L2
namespace L2
open PySem PySem.Spec PyProof.Rows
theorem ix_listK {X : Cx} {K : PySem.W.Frag} (h : X.K = K := by rfl) : IxR X (rIxL K) := by
  subst h
  exact ix_list
end L2
/-! ### plans: due days, payments -/
namespace Toy
open PySem L2
/-- due days in their turn, behind a -/
def daysB : Int → List Int → Bool
  | _, [] => true
  | a, d :: r => decide (a < d ∧ d ≤ 100000) && daysB d r
theorem daysB_cons {a d : Int} {r : List Int} : daysB a (d :: r) = true ↔ (a < d ∧ d ≤ 100000) ∧ daysB d r = true := by
  show (decide (a < d ∧ d ≤ 100000) && daysB d r) = true ↔ _
  rw [Bool.and_eq_true, decide_eq_true_iff]
theorem daysB_snoc : ∀ {a d : Int} {ds : List Int}, daysB a ds = true → ds.getLastD a < d → d ≤ 100000 → daysB a (ds ++ [d]) = true
  | a, d, [], _, h1, h2 => daysB_cons.mpr ⟨⟨h1, h2⟩, rfl⟩
  | a, d, e :: r, h, h1, h2 => by
    have h3 := daysB_cons.mp h
    refine daysB_cons.mpr ⟨h3.1, daysB_snoc h3.2 ?_ h2⟩
    cases r with
    | nil => exact h1
    | cons x y => exact h1
theorem daysB_mem : ∀ {a : Int} {ds : List Int}, daysB a ds = true → ∀ d ∈ ds, a < d ∧ d ≤ 100000
  | _, [], _, d, hd => by cases hd
  | a, e :: r, h, d, hd => by
    have h3 := daysB_cons.mp h
    rcases List.mem_cons.mp hd with e1 | e1
    · rw [e1]; exact h3.1
    · have := daysB_mem h3.2 d e1
      omega
theorem daysB_drop : ∀ {a : Int} {ds : List Int} {i : Nat} {d : Int}, daysB a ds = true → ds[i]? = some d → daysB d (ds.drop (i + 1)) = true ∧ a < d ∧ d ≤ 100000
  | _, [], _, _, _, h => by cases h
  | a, e :: r, 0, d, h, hd => by
    have h3 := daysB_cons.mp h
    obtain rfl : e = d := Option.some.inj hd
    exact ⟨h3.2, h3.1⟩
  | a, e :: r, i + 1, d, h, hd => by
    have h3 := daysB_cons.mp h
    have h4 := daysB_drop (i := i) h3.2 hd
    exact ⟨h4.1, by omega, h4.2.2⟩
theorem drop_get {α : Type} {l : List α} {i : Nat} {a : α} (h : l[i]? = some a) : l.drop i = a :: l.drop (i + 1) := by
  have h2 : l[i]'(List.getElem?_eq_some_iff.mp h).1 = a := (List.getElem?_eq_some_iff.mp h).2
  rw [← h2]
  exact (List.getElem_cons_drop _).symm
/-- what is paid on a due day -/
def dueP (ps : List Pr) (part : Int) (z : Ln) (d : Int) : Int := if owedF z.left (begunAt ps z d) < part then owedF z.left (begunAt ps z d) else part
/-- a part on each due day: the payments told, the loan behind them -/
def payAll (ps : List Pr) (part : Int) : Ln → List Int → List (List Int) × Ln
  | z, [] => ([], z)
  | z, d :: r => if dueP ps part z d = 0 then ([], z) else
    ([d, dueP ps part z d, (payF z.left (begunAt ps z d) (dueP ps part z d)).1, (payF z.left (begunAt ps z d) (dueP ps part z d)).2.1, (payLn ps z d (dueP ps part z d)).left] :: (payAll ps part (payLn ps z d (dueP ps part z d)) r).1,
      (payAll ps part (payLn ps z d (dueP ps part z d)) r).2)
theorem payAll_nil (ps : List Pr) (part : Int) (z : Ln) : payAll ps part z [] = ([], z) := rfl
theorem payAll_stop {ps : List Pr} {part : Int} {z : Ln} {d : Int} {r : List Int} (h : dueP ps part z d = 0) : payAll ps part z (d :: r) = ([], z) := by
  rw [payAll, if_pos h]
theorem payAll_go {ps : List Pr} {part : Int} {z : Ln} {d : Int} {r : List Int} (h : dueP ps part z d ≠ 0) : payAll ps part z (d :: r) =
    ([d, dueP ps part z d, (payF z.left (begunAt ps z d) (dueP ps part z d)).1, (payF z.left (begunAt ps z d) (dueP ps part z d)).2.1, (payLn ps z d (dueP ps part z d)).left] :: (payAll ps part (payLn ps z d (dueP ps part z d)) r).1,
      (payAll ps part (payLn ps z d (dueP ps part z d)) r).2) := by
  rw [payAll, if_neg h]
theorem owedF_ge {ps : List Pr} {z : Ln} {d : Int} (h : LnOk z) (g : Good ps) (hd : z.day ≤ d) : 0 ≤ owedF z.left (begunAt ps z d) := by
  have := begunAt_ge h g hd
  have := h.l0
  unfold owedF
  omega
theorem dueP_ok {ps : List Pr} {part : Int} {z : Ln} {d : Int} (h : LnOk z) (g : Good ps) (hd : z.day ≤ d) (hp : 0 ≤ part) : 0 ≤ dueP ps part z d ∧ dueP ps part z d ≤ owedF z.left (begunAt ps z d) ∧ dueP ps part z d ≤ part := by
  have := owedF_ge h g hd
  unfold dueP
  split <;> omega
theorem payAll_ok {ps : List Pr} {part : Int} (g : Good ps) (hp : 0 ≤ part) : ∀ {ds : List Int} {z : Ln}, LnOk z → daysB (z.day - 1) ds = true → LnOk (payAll ps part z ds).2
  | [], z, h, _ => h
  | d :: r, z, h, hd => by
    have h3 := daysB_cons.mp hd
    by_cases c : dueP ps part z d = 0
    · rw [payAll_stop c]
      exact h
    · rw [payAll_go c]
      have dp := dueP_ok (part := part) (d := d) h g (by omega) hp
      refine payAll_ok g hp (ds := r) (payLn_ok h g (by omega) h3.1.2 (by omega) dp.2.1) ?_
      show daysB (d - 1) r = true
      cases r with
      | nil => rfl
      | cons e r =>
        have h4 := daysB_cons.mp h3.2
        exact daysB_cons.mpr ⟨⟨by omega, h4.1.2⟩, h4.2⟩
theorem daysB_weak {a b : Int} {r : List Int} (h : daysB a r = true) (hb : b ≤ a) : daysB b r = true := by
  cases r with
  | nil => rfl
  | cons e r =>
    have h4 := daysB_cons.mp h
    exact daysB_cons.mpr ⟨⟨by omega, h4.1.2⟩, h4.2⟩
theorem payAll_len (ps : List Pr) (part : Int) : ∀ (ds : List Int) (z : Ln), (payAll ps part z ds).1.length ≤ ds.length
  | [], _ => Nat.le_refl _
  | d :: r, z => by
    by_cases c : dueP ps part z d = 0
    · rw [payAll_stop c]
      exact Nat.zero_le _
    · rw [payAll_go c]
      have := payAll_len ps part r (payLn ps z d (dueP ps part z d))
      simp only [List.length_cons]
      omega
/-! ### payments in the heap -/
abbrev Ps := Addr × List Int
def psV (ts : List Ps) : List V := ts.map fun t => V.ref t.1
def psL (ts : List Ps) : List (List Int) := ts.map fun t => t.2
structure Rs (H : Hp) (l : Addr) (ts : List Ps) : Prop where
  lst : H l = some (.lst (psV ts))
  prs : ∀ t ∈ ts, H t.1 = some (.tup (t.2.map V.int))
theorem psV_len (ts : List Ps) : (psV ts).length = ts.length := by unfold psV; rw [List.length_map]
theorem psL_len (ts : List Ps) : (psL ts).length = ts.length := by unfold psL; rw [List.length_map]
theorem Rs.same {H H' : Hp} {l : Addr} {ts : List Ps} (R : Rs H l ts) (e : Same H H') : Rs H' l ts := ⟨e _ _ R.lst, fun t ht => e _ _ (R.prs t ht)⟩
theorem Rs.getV {H : Hp} {l : Addr} {ts : List Ps} (R : Rs H l ts) {j : Nat} {p : List Int} (h : (psL ts)[j]? = some p) : ∃ a, (psV ts)[j]? = some (.ref a) ∧ H a = some (.tup (p.map V.int)) := by
  obtain ⟨t, e, rfl⟩ : ∃ t, ts[j]? = some t ∧ p = t.2 := by
    unfold psL at h
    rw [List.getElem?_map] at h
    cases e : ts[j]? with
    | none => rw [e] at h; cases h
    | some t => rw [e] at h; exact ⟨t, rfl, (Option.some.inj h).symm⟩
  exact ⟨t.1, by unfold psV; rw [List.getElem?_map, e]; rfl, R.prs t (List.mem_of_getElem? e)⟩
theorem Rs.snoc {H : Hp} {l p : Addr} {ts : List Ps} (R : Rs H l ts) (v : List Int) (hp : H p = some (.tup (v.map V.int))) : Rs (L2.upd H l (.lst (psV ts ++ [.ref p]))) l (ts ++ [(p, v)]) := by
  have q : ∀ t ∈ ts ++ [(p, v)], H t.1 = some (.tup (t.2.map V.int)) := fun t ht => by
    rcases List.mem_append.mp ht with e | e
    · exact R.prs t e
    · obtain rfl : t = (p, v) := by simpa using e
      exact hp
  refine ⟨by unfold psV; rw [List.map_append]; exact upd_same, fun t ht => ?_⟩
  have h := q t ht
  rw [L2.upd_ne (ne_of h R.lst (by intro z; cases z))]
  exact h
theorem psL_snoc (ts : List Ps) (p : Addr) (v : List Int) : psL (ts ++ [(p, v)]) = psL ts ++ [v] := by unfold psL; rw [List.map_append]; rfl
theorem But.rs {x l : Addr} {H H' : Hp} {ts : List Ps} {C dx : Addr} {fs : List (Str × V)} (a : But x H H') (hx : H x = some (.ins C dx fs)) (R : Rs H l ts) : Rs H' l ts :=
  ⟨a _ _ R.lst (ne_of R.lst hx (by intro q; cases q)), fun t ht => a _ _ (R.prs t ht) (ne_of (R.prs t ht) hx (by intro q; cases q))⟩
def rsD (ls : List (List Int)) : PyData := .list (ls.map tupD)
theorem rs_dpAll {K : PySem.W.Frag} {H : Hp} : ∀ {ts : List Ps}, (∀ t ∈ ts, H t.1 = some (.tup (t.2.map V.int))) → DpAll K H (psV ts) ((psL ts).map tupD)
  | [], _ => .nil
  | t :: r, h => .cons (tup_dp (SqT.of (h t (by simp)))) (rs_dpAll fun u hu => h u (by simp [hu]))
theorem Rs.dp {K : PySem.W.Frag} {H : Hp} {l : Addr} {ts : List Ps} (R : Rs H l ts) : Dp K H (.ref l) (rsD (psL ts)) := .lst (SqL.of R.lst) (rs_dpAll R.prs)
theorem rsD_can (ls : List (List Int)) : (rsD ls).canLay0 = true := by
  unfold rsD
  simp only [PyData.canLay0]
  exact can_all tupD_can ls
theorem rsD_dep (ls : List (List Int)) : (rsD ls).depth ≤ 2 := by
  unfold rsD
  simp only [PyData.depth]
  have := dep_all (f := tupD) (n := 1) tupD_dep ls
  omega
theorem rsD_shaped (ls : List (List Int)) : SeqAt.shaped (rsD ls) = true := shaped_of (rsD_can ls) (Nat.le_trans (rsD_dep ls) (by decide))
theorem rs_ne {K : PySem.W.Frag} {H : Hp} {a b : Addr} {ts us : List Ps} {Q : V → Hp → Prop} (R : Rs H a ts) (S : Rs H b us) (e : psL ts = psL us) (q : Q (.bl false) H) : rNeD K (.ref a) (.ref b) H Q :=
  ⟨_, _, R.dp, S.dp, rsD_shaped _, rsD_shaped _, by rw [e]; rw [show PyData.eqv (rsD (psL us)) (rsD (psL us)) = true from SeqAt.eqv_refl _ (rsD_can _)]; exact q⟩
/-- an object that two changes leave -/
def But2 (x l : Addr) (H H' : Hp) : Prop := ∀ b o, H b = some o → b ≠ x → b ≠ l → H' b = some o
theorem But2.row {x l r dx C : Addr} {H H' : Hp} {ts us : List Trp} {fs : List (Str × V)} (b : But2 x l H H') (hx : H x = some (.ins C dx fs)) (hl : Row H l us) (n : r ≠ l) (R : Row H r ts) : Row H' r ts :=
  ⟨b _ _ R.lst (ne_of R.lst hx (by intro q; cases q)) n, fun t ht => b _ _ (R.prs t ht) (ne_of (R.prs t ht) hx (by intro q; cases q)) (ne_of (R.prs t ht) hl.lst (by intro q; cases q))⟩
theorem But2.tup {x l p dx C : Addr} {H H' : Hp} {us : List Trp} {fs : List (Str × V)} {xs : List V} (b : But2 x l H H') (hx : H x = some (.ins C dx fs)) (hl : Row H l us) (h : H p = some (.tup xs)) : H' p = some (.tup xs) :=
  b _ _ h (ne_of h hx (by intro q; cases q)) (ne_of h hl.lst (by intro q; cases q))
end Toy
/-! ### what is owed behind a plan -/
namespace Toy
/-- the loan, gone on to a day -/
def moveLn (ps : List Pr) (z : Ln) (d : Int) : Ln := ⟨z.left, begunAt ps z d, d⟩
theorem begunAt_move {ps : List Pr} {z : Ln} {d e : Int} (h1 : z.day ≤ d) (h2 : d ≤ e) : begunAt ps (moveLn ps z d) e = begunAt ps z e := by
  unfold begunAt moveLn
  simp only
  unfold begunAt
  rw [gsum_split (m := d) (e := e) h1 h2, Int.mul_add, Int.add_assoc]
theorem moveLn_ok {ps : List Pr} {z : Ln} {d : Int} (h : LnOk z) (g : Good ps) (h1 : z.day ≤ d) (h2 : d ≤ 100000) : LnOk (moveLn ps z d) :=
  ⟨h.l0, h.l1, begunAt_ge h g h1, Int.le_trans h.d0 h1, h2⟩
/-- as the laws walk it: the loan and what is paid -/
def behindS (ps : List Pr) (part : Int) : Ln → Int → List Int → Ln × Int
  | z, t, [] => (z, t)
  | z, t, d :: r => if dueP ps part z d > 0 then behindS ps part (payLn ps z d (dueP ps part z d)) (t + dueP ps part z d) r else behindS ps part (moveLn ps z d) t r
theorem behindS_go {ps : List Pr} {part t : Int} {z : Ln} {d : Int} {r : List Int} (h : dueP ps part z d > 0) : behindS ps part z t (d :: r) = behindS ps part (payLn ps z d (dueP ps part z d)) (t + dueP ps part z d) r := by
  rw [behindS, if_pos h]
theorem behindS_not {ps : List Pr} {part t : Int} {z : Ln} {d : Int} {r : List Int} (h : ¬ dueP ps part z d > 0) : behindS ps part z t (d :: r) = behindS ps part (moveLn ps z d) t r := by
  rw [behindS, if_neg h]
/-- all that the payments told come to -/
def paidSum : List (List Int) → Int
  | [] => 0
  | p :: r => p.getD 1 0 + paidSum r
/-- the last day -/
def endDay (z : Ln) (ds : List Int) : Int := ds.getLastD z.day
/-- what is owed on the last due day -/
def setl (ps : List Pr) (part : Int) (z : Ln) (ds : List Int) : Int := owedF (payAll ps part z ds).2.left (begunAt ps (payAll ps part z ds).2 (endDay z ds))
theorem owedF_zero {l b : Int} (hl : 0 ≤ l) (hb : 0 ≤ b) (h : owedF l b = 0) : l = 0 ∧ b = 0 := by
  unfold owedF at h
  omega
theorem begunAt_left0 {ps : List Pr} {z : Ln} {d : Int} (h : z.left = 0) : begunAt ps z d = z.begun := by
  unfold begunAt
  rw [h, Int.zero_mul, Int.add_zero]
theorem daysB_next {d : Int} {r : List Int} (h : daysB d r = true) : daysB (d - 1) r = true := daysB_weak h (by omega)
/-- nothing is paid: of a part of nothing -/
theorem behindS_none {ps : List Pr} {t : Int} (g : Good ps) : ∀ {ds : List Int} {z : Ln}, LnOk z → daysB (z.day - 1) ds = true →
    (behindS ps 0 z t ds).2 = t ∧ (behindS ps 0 z t ds).1.left = z.left ∧ (behindS ps 0 z t ds).1.begun = begunAt ps z (endDay z ds) ∧ z.day ≤ endDay z ds
  | [], z, h, _ => ⟨rfl, rfl, (begunAt_self ps z).symm, Int.le_refl _⟩
  | d :: r, z, h, hd => by
    have h3 := daysB_cons.mp hd
    have dp := dueP_ok (part := 0) (d := d) h g (by omega) (Int.le_refl 0)
    have h4 := behindS_none (t := t) g (ds := r) (moveLn_ok h g (by omega) h3.1.2) (daysB_next h3.2)
    rw [behindS_not (by omega)]
    have e : endDay (moveLn ps z d) r = endDay z (d :: r) := by
      cases r with
      | nil => rfl
      | cons a b => rfl
    rw [e] at h4
    have h5 : d ≤ endDay z (d :: r) := h4.2.2.2
    exact ⟨h4.1, h4.2.1, h4.2.2.1.trans (begunAt_move (by omega) h5), by omega⟩
/-- nothing is owed: nothing is paid -/
theorem behindS_zero {ps : List Pr} {part t : Int} (g : Good ps) (hp : 0 ≤ part) : ∀ {ds : List Int} {z : Ln}, LnOk z → daysB (z.day - 1) ds = true → z.left = 0 → z.begun = 0 →
    (behindS ps part z t ds).2 = t ∧ (behindS ps part z t ds).1.left = 0 ∧ (behindS ps part z t ds).1.begun = 0
  | [], z, h, _, e1, e2 => ⟨rfl, e1, e2⟩
  | d :: r, z, h, hd, e1, e2 => by
    have h3 := daysB_cons.mp hd
    have dp := dueP_ok (part := part) (d := d) h g (by omega) hp
    have eb : begunAt ps z d = 0 := (begunAt_left0 e1).trans e2
    have e3 : owedF z.left (begunAt ps z d) = 0 := by rw [e1, eb]; rfl
    rw [behindS_not (by omega)]
    exact behindS_zero g hp (ds := r) (moveLn_ok h g (by omega) h3.1.2) (daysB_next h3.2) e1 eb
theorem endDay_cons (z : Ln) (d : Int) (r : List Int) (y : Ln) (hy : y.day = d) : endDay z (d :: r) = endDay y r := by
  unfold endDay
  rw [hy]
  cases r with
  | nil => rfl
  | cons a b => rfl
theorem endDay_ge {z : Ln} {ds : List Int} (h : daysB (z.day - 1) ds = true) : z.day ≤ endDay z ds := by
  unfold endDay
  cases ds with
  | nil => exact Int.le_refl _
  | cons a b =>
    have hm : (a :: b).getLastD z.day ∈ (a :: b) := by
      rw [List.getLastD_eq_getLast?, List.getLast?_eq_some_getLast (List.cons_ne_nil a b)]
      exact List.getLast_mem _
    have := daysB_mem h _ hm
    omega
theorem behindS_eq {ps : List Pr} {part : Int} (g : Good ps) (hp : 0 ≤ part) : ∀ {ds : List Int} {z : Ln} {t : Int}, LnOk z → daysB (z.day - 1) ds = true →
    owedF (behindS ps part z t ds).1.left (behindS ps part z t ds).1.begun = setl ps part z ds ∧ (behindS ps part z t ds).2 = t + paidSum (payAll ps part z ds).1
  | [], z, t, h, _ => by
    unfold setl
    rw [payAll_nil]
    unfold endDay
    show owedF z.left z.begun = owedF z.left (begunAt ps z z.day) ∧ t = t + 0
    rw [begunAt_self]
    exact ⟨rfl, by omega⟩
  | d :: r, z, t, h, hd => by
    have h3 := daysB_cons.mp hd
    have dp := dueP_ok (part := part) (d := d) h g (by omega) hp
    unfold setl
    by_cases c : dueP ps part z d = 0
    · rw [payAll_stop c, behindS_not (by omega)]
      simp only
      have hz : part = 0 ∨ owedF z.left (begunAt ps z d) = 0 := by
        unfold dueP at c
        split at c
        · exact .inr c
        · exact .inl c
      rcases hz with hz | hz
      · subst hz
        have h4 := behindS_none (t := t) g (ds := r) (moveLn_ok h g (show z.day ≤ d by omega) h3.1.2) (daysB_next h3.2)
        rw [← endDay_cons z d r (moveLn ps z d) rfl] at h4
        have h5 : d ≤ endDay z (d :: r) := h4.2.2.2
        rw [h4.1, h4.2.1, h4.2.2.1, begunAt_move (by omega) h5]
        exact ⟨rfl, by simp [paidSum]⟩
      · have hz2 := owedF_zero h.l0 (begunAt_ge h g (by omega)) hz
        have e2 : z.begun = 0 := by rw [← hz2.2, begunAt_left0 hz2.1]
        have h4 := behindS_zero (t := t) g hp (ds := r) (moveLn_ok h g (show z.day ≤ d by omega) h3.1.2) (daysB_next h3.2) hz2.1 hz2.2
        rw [h4.1, h4.2.1, h4.2.2, begunAt_left0 hz2.1, hz2.1, e2]
        exact ⟨rfl, by simp [paidSum]⟩
    · rw [payAll_go c, behindS_go (by omega)]
      have h4 := behindS_eq g hp (ds := r) (t := t + dueP ps part z d) (payLn_ok (c := dueP ps part z d) h g (by omega) h3.1.2 (by omega) dp.2.1) (daysB_next h3.2)
      unfold setl at h4
      rw [← endDay_cons z d r (payLn ps z d (dueP ps part z d)) rfl] at h4
      refine ⟨h4.1, ?_⟩
      rw [h4.2]
      simp only [paidSum]
      show t + dueP ps part z d + _ = t + (dueP ps part z d + _)
      omega
theorem setl_ge {ps : List Pr} {part : Int} {z : Ln} {ds : List Int} (h : LnOk z) (g : Good ps) (hp : 0 ≤ part) (hd : daysB (z.day - 1) ds = true) (he : (payAll ps part z ds).2.day ≤ endDay z ds) : 0 ≤ setl ps part z ds :=
  owedF_ge (payAll_ok g hp h hd) g he
theorem payAll_day {ps : List Pr} {part : Int} : ∀ {ds : List Int} {z : Ln}, daysB (z.day - 1) ds = true → (payAll ps part z ds).2.day ≤ endDay z ds
  | [], z, _ => Int.le_refl _
  | d :: r, z, hd => by
    have h3 := daysB_cons.mp hd
    by_cases c : dueP ps part z d = 0
    · rw [payAll_stop c]
      exact endDay_ge hd
    · rw [payAll_go c, endDay_cons z d r (payLn ps z d (dueP ps part z d)) rfl]
      exact payAll_day (ds := r) (daysB_next h3.2)
/-- all that is owed on the first day settles it -/
theorem setl_all {ps : List Pr} {z : Ln} {d : Int} {r : List Int} (h : LnOk z) (g : Good ps) (hd : daysB (z.day - 1) (d :: r) = true) : setl ps (owedF z.left (begunAt ps z d)) z (d :: r) = 0 := by
  have h3 := daysB_cons.mp hd
  have og := owedF_ge (d := d) h g (by omega)
  have e : dueP ps (owedF z.left (begunAt ps z d)) z d = owedF z.left (begunAt ps z d) := by
    unfold dueP
    split <;> omega
  have b := behindS_eq (t := 0) g og h hd
  rw [← b.1]
  by_cases c : owedF z.left (begunAt ps z d) > 0
  · rw [behindS_go (by omega), e]
    have ez : payLn ps z d (owedF z.left (begunAt ps z d)) = ⟨0, 0, d⟩ := by
      unfold payLn payF
      rw [if_pos rfl]
    have h4 := behindS_zero (part := owedF z.left (begunAt ps z d)) (t := 0 + owedF z.left (begunAt ps z d)) g og (ds := r) (z := payLn ps z d (owedF z.left (begunAt ps z d))) (payLn_ok h g (by omega) h3.1.2 (by omega) (Int.le_refl _)) (by rw [ez]; exact daysB_next h3.2) (by rw [ez]) (by rw [ez])
    rw [h4.2.1, h4.2.2]
    rfl
  · have hz2 := owedF_zero h.l0 (begunAt_ge h g (by omega)) (show owedF z.left (begunAt ps z d) = 0 by omega)
    have e2 : z.begun = 0 := by rw [← hz2.2, begunAt_left0 hz2.1]
    have h4 := behindS_zero (part := owedF z.left (begunAt ps z d)) (t := 0) g og h hd hz2.1 e2
    rw [h4.2.1, h4.2.2]
    rfl
/-- a part of nothing does not settle what is owed -/
theorem setl_nothing {ps : List Pr} {z : Ln} {ds : List Int} (h : LnOk z) (g : Good ps) (hd : daysB (z.day - 1) ds = true) : owedF z.left z.begun ≤ setl ps 0 z ds := by
  have b := behindS_eq (part := 0) (t := 0) g (Int.le_refl 0) h hd
  have n := behindS_none (t := 0) g h hd
  rw [← b.1, n.2.1, n.2.2.1]
  exact owedF_mono (begunAt_mono h g n.2.2.2)
end Toy
/-! ### what a plan costs -/
namespace Toy
def costF (ps : List Pr) (part : Int) : Ln → List Int → Int
  | z, [] => owedF z.left z.begun
  | z, d :: r => if dueP ps part z d > 0 then dueP ps part z d + costF ps part (payLn ps z d (dueP ps part z d)) r else costF ps part (moveLn ps z d) r
theorem costF_go {ps : List Pr} {part : Int} {z : Ln} {d : Int} {r : List Int} (h : dueP ps part z d > 0) : costF ps part z (d :: r) = dueP ps part z d + costF ps part (payLn ps z d (dueP ps part z d)) r := by
  rw [costF, if_pos h]
theorem costF_not {ps : List Pr} {part : Int} {z : Ln} {d : Int} {r : List Int} (h : ¬ dueP ps part z d > 0) : costF ps part z (d :: r) = costF ps part (moveLn ps z d) r := by
  rw [costF, if_neg h]
theorem costF_behind {ps : List Pr} {part : Int} : ∀ {ds : List Int} {z : Ln} {t : Int}, (behindS ps part z t ds).2 + owedF (behindS ps part z t ds).1.left (behindS ps part z t ds).1.begun = t + costF ps part z ds
  | [], _, _ => rfl
  | d :: r, z, t => by
    by_cases c : dueP ps part z d > 0
    · rw [behindS_go c, costF_go c, costF_behind (ds := r)]
      omega
    · rw [behindS_not c, costF_not c, costF_behind (ds := r)]
theorem costF_paid {ps : List Pr} {part : Int} {ds : List Int} {z : Ln} (g : Good ps) (hp : 0 ≤ part) (h : LnOk z) (hd : daysB (z.day - 1) ds = true) : paidSum (payAll ps part z ds).1 + setl ps part z ds = costF ps part z ds := by
  have b := behindS_eq (t := 0) g hp h hd
  have c := costF_behind (ps := ps) (part := part) (ds := ds) (z := z) (t := 0)
  omega
theorem costF_zero {ps : List Pr} {part : Int} {ds : List Int} {z : Ln} (g : Good ps) (hp : 0 ≤ part) (h : LnOk z) (hd : daysB (z.day - 1) ds = true) (e1 : z.left = 0) (e2 : z.begun = 0) : costF ps part z ds = 0 := by
  have b := behindS_zero (part := part) (t := 0) g hp h hd e1 e2
  have c := costF_behind (ps := ps) (part := part) (ds := ds) (z := z) (t := 0)
  rw [b.1, b.2.1, b.2.2] at c
  have e : owedF 0 0 = 0 := rfl
  omega
theorem dueP_move {ps : List Pr} {part : Int} {z : Ln} {e d : Int} (h1 : z.day ≤ e) (h2 : e ≤ d) : dueP ps part (moveLn ps z e) d = dueP ps part z d := by
  unfold dueP
  rw [begunAt_move h1 h2]
  rfl
theorem costF_move {ps : List Pr} {part : Int} {z : Ln} {e d : Int} {r : List Int} (h1 : z.day ≤ e) (h2 : e ≤ d) : costF ps part (moveLn ps z e) (d :: r) = costF ps part z (d :: r) := by
  have e1 := dueP_move (ps := ps) (part := part) h1 h2
  have e2 : ∀ c, payLn ps (moveLn ps z e) d c = payLn ps z d c := fun c => by
    unfold payLn
    rw [begunAt_move h1 h2]
    rfl
  have e3 : moveLn ps (moveLn ps z e) d = moveLn ps z d := by
    show Ln.mk z.left (begunAt ps (moveLn ps z e) d) d = _
    rw [begunAt_move h1 h2]
    rfl
  by_cases c : dueP ps part z d > 0
  · rw [costF_go c, costF_go (by rw [e1]; exact c), e1, e2]
  · rw [costF_not c, costF_not (by rw [e1]; exact c), e3]
/-- a payment of less than all takes as much off what is owed -/
theorem owedF_part {l b c : Int} (hb : 0 ≤ b) (h1 : c ≤ owedF l b) (h0 : 1 ≤ c) : owedF (payF l b c).2.2.1 (payF l b c).2.2.2 = owedF l b - c := by
  unfold payF
  by_cases e : c = owedF l b
  · rw [if_pos e]
    show owedF 0 0 = _
    rw [e]
    show (0 : Int) + (0 + 1000000 - 1) / 1000000 = _
    omega
  · rw [if_neg e]
    unfold owedF at *
    simp only
    split <;> omega
theorem costF_ge {ps : List Pr} {part : Int} (g : Good ps) (hp : 0 ≤ part) : ∀ {ds : List Int} {z : Ln}, LnOk z → daysB (z.day - 1) ds = true → owedF z.left z.begun ≤ costF ps part z ds
  | [], _, _, _ => Int.le_refl _
  | d :: r, z, h, hd => by
    have h3 := daysB_cons.mp hd
    have dp := dueP_ok (part := part) (d := d) h g (by omega) hp
    have om := owedF_mono (l := z.left) (begunAt_mono h g (show z.day ≤ d by omega))
    by_cases c : dueP ps part z d > 0
    · rw [costF_go c]
      have h4 := costF_ge g hp (ds := r) (payLn_ok (c := dueP ps part z d) h g (by omega) h3.1.2 (by omega) dp.2.1) (daysB_next h3.2)
      have h5 := owedF_part (begunAt_ge h g (show z.day ≤ d by omega)) dp.2.1 (by omega)
      unfold payLn at h4
      simp only at h4
      unfold payLn
      omega
    · rw [costF_not c]
      have h4 := costF_ge g hp (ds := r) (moveLn_ok h g (by omega) h3.1.2) (daysB_next h3.2)
      have h5 : owedF (moveLn ps z d).left (moveLn ps z d).begun = owedF z.left (begunAt ps z d) := rfl
      omega
/-- what is owed, in millionths -/
def debt (l b : Int) : Int := l * 1000000 + b
theorem debt_owed {l b : Int} : owedF l b = (debt l b + 999999) / 1000000 := by
  unfold owedF debt
  omega
/-- less than all is paid of both: the one stays below the other -/
theorem pay_below {l b l2 b2 c k : Int} (hb : 0 ≤ b) (hb2 : 0 ≤ b2) (h1 : 1 ≤ c) (h2 : c < owedF l2 b2) (hl : l2 ≤ l) (hk : 0 ≤ k) (hd : debt l2 b2 + k * 1000000 ≤ debt l b) :
    (payF l2 b2 c).2.2.1 ≤ (payF l b c).2.2.1 ∧ debt (payF l2 b2 c).2.2.1 (payF l2 b2 c).2.2.2 + k * 1000000 ≤ debt (payF l b c).2.2.1 (payF l b c).2.2.2 := by
  have h3 : c < owedF l b := by
    rw [debt_owed] at h2 ⊢
    omega
  unfold payF
  rw [if_neg (show ¬ c = owedF l2 b2 by omega), if_neg (show ¬ c = owedF l b by omega)]
  unfold debt at *
  simp only
  split <;> split <;> omega
/-- an early payment does not make it dearer -/
theorem costF_below {ps : List Pr} {part : Int} (g : Good ps) (hp : 0 ≤ part) : ∀ {ds : List Int} {z y : Ln} {k : Int}, LnOk z → LnOk y → y.day = z.day → daysB (z.day - 1) ds = true → y.left ≤ z.left → 0 ≤ k → debt y.left y.begun + k * 1000000 ≤ debt z.left z.begun →
    costF ps part y ds + k ≤ costF ps part z ds
  | [], z, y, k, hz, hy, ed, hd, hl, hk, hb => by
    show owedF y.left y.begun + k ≤ owedF z.left z.begun
    rw [debt_owed, debt_owed]
    omega
  | d :: r, z, y, k, hz, hy, ed, hd, hl, hk, hb => by
    have h3 := daysB_cons.mp hd
    have zd : z.day ≤ d := by omega
    have yd : y.day ≤ d := by omega
    have dz := dueP_ok (part := part) (d := d) hz g zd hp
    have dy := dueP_ok (part := part) (d := d) hy g yd hp
    have bz := begunAt_ge hz g zd
    have bY := begunAt_ge hy g yd
    have gs := (gsum_ok g.rate zd).1
    have hb1 : debt y.left (begunAt ps y d) + k * 1000000 ≤ debt z.left (begunAt ps z d) := by
      have hm := Int.mul_le_mul_of_nonneg_right hl gs
      unfold debt begunAt at *
      rw [ed]
      omega
    have ow : owedF y.left (begunAt ps y d) + k ≤ owedF z.left (begunAt ps z d) := by
      rw [debt_owed, debt_owed]
      omega
    have cz : owedF z.left (begunAt ps z d) ≤ costF ps part z (d :: r) := by
      rw [← costF_move (e := d) zd (Int.le_refl d)]
      exact costF_ge g hp (moveLn_ok hz g zd h3.1.2) (daysB_cons.mpr ⟨⟨by show d - 1 < d; omega, h3.1.2⟩, h3.2⟩)
    by_cases c : owedF y.left (begunAt ps y d) ≤ part
    · -- y pays all
      have ey : dueP ps part y d = owedF y.left (begunAt ps y d) := by
        unfold dueP
        split <;> omega
      have ec : costF ps part y (d :: r) = owedF y.left (begunAt ps y d) := by
        by_cases c2 : dueP ps part y d > 0
        · rw [costF_go c2, ey]
          have ez : payLn ps y d (owedF y.left (begunAt ps y d)) = ⟨0, 0, d⟩ := by
            unfold payLn payF
            rw [if_pos rfl]
          rw [costF_zero g hp (payLn_ok hy g yd h3.1.2 (by omega) (Int.le_refl _)) (by rw [ez]; exact daysB_next h3.2) (by rw [ez]) (by rw [ez])]
          omega
        · rw [costF_not c2]
          have hz2 := owedF_zero hy.l0 bY (show owedF y.left (begunAt ps y d) = 0 by omega)
          rw [costF_zero g hp (moveLn_ok hy g yd h3.1.2) (daysB_next h3.2) hz2.1 hz2.2]
          omega
      omega
    · have ey : dueP ps part y d = part := by
        unfold dueP
        split <;> omega
      have ez : dueP ps part z d = part := by
        unfold dueP
        split <;> omega
      by_cases c2 : part > 0
      · rw [costF_go (by rw [ey]; exact c2), costF_go (by rw [ez]; exact c2), ey, ez]
        have pb := pay_below bz bY (show 1 ≤ part by omega) (by omega) hl hk hb1
        have h4 := costF_below g hp (ds := r) (k := k) (payLn_ok (c := part) hz g zd h3.1.2 (by omega) (by omega)) (payLn_ok (c := part) hy g yd h3.1.2 (by omega) (by omega)) rfl (daysB_next h3.2) pb.1 hk pb.2
        omega
      · rw [costF_not (by rw [ey]; exact c2), costF_not (by rw [ez]; exact c2)]
        exact costF_below g hp (ds := r) (k := k) (moveLn_ok hz g zd h3.1.2) (moveLn_ok hy g yd h3.1.2) rfl (daysB_next h3.2) hl hk hb1
/-- what an early payment saves is not below nothing -/
theorem saved_ge {ps : List Pr} {part : Int} {z : Ln} {e c d : Int} {r : List Int} (g : Good ps) (hp : 0 ≤ part) (h : LnOk z) (h1 : z.day ≤ e) (h2 : e ≤ d) (hd : daysB (z.day - 1) (d :: r) = true) (c1 : 1 ≤ c) (c2 : c ≤ owedF z.left (begunAt ps z e)) :
    0 ≤ costF ps part z (d :: r) - c - costF ps part (payLn ps z e c) (d :: r) := by
  have h3 := daysB_cons.mp hd
  have hde : daysB (e - 1) (d :: r) = true := daysB_cons.mpr ⟨⟨by omega, h3.1.2⟩, h3.2⟩
  have hm := moveLn_ok h g h1 (show e ≤ 100000 by omega)
  have hpay := payLn_ok h g h1 (show e ≤ 100000 by omega) c1 c2
  rw [← costF_move h1 h2]
  by_cases ec : c = owedF z.left (begunAt ps z e)
  · have ez : payLn ps z e c = ⟨0, 0, e⟩ := by
      unfold payLn payF
      rw [if_pos ec]
    rw [costF_zero (z := payLn ps z e c) g hp hpay (by rw [ez]; exact hde) (by rw [ez]) (by rw [ez])]
    have h4 := costF_ge g hp hm hde
    have h5 : owedF (moveLn ps z e).left (moveLn ps z e).begun = owedF z.left (begunAt ps z e) := rfl
    omega
  · have pk := payF_ok h.l0 (begunAt_ge h g h1) c1 c2
    have h4 := costF_below (part := part) g hp (z := moveLn ps z e) (y := payLn ps z e c) (k := c) hm hpay rfl hde pk.2.2.2.2.1 (by omega) (by
      show debt (payF z.left (begunAt ps z e) c).2.2.1 (payF z.left (begunAt ps z e) c).2.2.2 + c * 1000000 ≤ debt z.left (begunAt ps z e)
      unfold payF
      rw [if_neg ec]
      unfold debt
      simp only
      split <;> omega)
    omega
theorem payAll_five {ps : List Pr} {part : Int} : ∀ {ds : List Int} {z : Ln}, ∀ p ∈ (payAll ps part z ds).1, ∃ a b c d e, p = [a, b, c, d, e]
  | [], _, p, hp => by cases hp
  | d :: r, z, p, hp => by
    by_cases c : dueP ps part z d = 0
    · rw [payAll_stop c] at hp
      cases hp
    · rw [payAll_go c] at hp
      rcases List.mem_cons.mp hp with e | e
      · exact ⟨_, _, _, _, _, e⟩
      · exact payAll_five p e
end Toy
namespace Toy
open PySem L2
theorem end_atC {z : Ln} {ds : List Int} (h : ds ≠ []) : atI (ds.map V.int) (-1) = some (.int (endDay z ds)) := by
  obtain ⟨q, e, rfl⟩ := snoc_of h
  rw [List.map_append]
  unfold endDay
  rw [getLastD_append]
  exact atI_last _ _
theorem end_leC {z : Ln} {ds : List Int} (h : daysB (z.day - 1) ds = true) (ne : ds ≠ []) : endDay z ds ≤ 100000 := by
  obtain ⟨q, e, rfl⟩ := snoc_of ne
  unfold endDay
  rw [getLastD_append]
  exact (daysB_mem h e (by simp)).2
end Toy
/-! ### texts and words -/
namespace L2
open PySem PySem.Spec PyProof.Rows
section
variable {X : Cx}
/-- a text, none or one time -/
theorem op_repS : OpR X (binaryOp .Mult) (fun x y H Q => ∃ i k, x = .str i ∧ y = .int k ∧ (k = 0 ∨ k = 1) ∧ Q (.str (if k = 0 then Str.empty else i)) H) := by
  intro pins s σ H x y v u Q I rx ry h
  obtain ⟨i, k, rfl, rfl, hk, q⟩ := h
  obtain ⟨t, rfl⟩ := rx
  obtain ⟨t', rfl⟩ := ry
  rcases hk with rfl | rfl
  · rw [if_pos rfl] at q
    exact P.mul_str_none (by decide) (by decide) ⟨.str Str.empty, H, I.tok _, ⟨_, rfl⟩, q⟩
  · rw [if_neg (by decide)] at q
    refine P.mul_str (by decide) (fun _ h => by simp at h) (fun _ h => by simp at h) ?_
    rw [if_neg (by decide), if_pos (by simp)]
    exact ⟨.str i, H, I, ⟨_, rfl⟩, q⟩
theorem ix_tupK {K : PySem.W.Frag} (h : X.K = K := by rfl) : IxR X (rIxT K) := by
  subst h
  exact ix_tup
end
end L2
namespace Toy
open PySem L2
/-- the four words -/
inductive Wd where | pl | le | co | sa
def wdS : Wd → Str
  | .pl => "plan"
  | .le => "least"
  | .co => "cost"
  | .sa => "saved"
/-- what is told of a word -/
def dueK (w : Wd) (at1 : Int) (ds : List Int) (part e c o : Int) : Str :=
  if daysB (at1 - 1) ds = false then "day" else
  match w with
  | .pl => if part < 1 then "pay" else ""
  | .le => if ds = [] then "day" else ""
  | .co => if ds = [] then "day" else if part < 1 then "pay" else ""
  | .sa => if ds = [] then "day" else if part < 1 then "pay" else if ¬ (at1 ≤ e ∧ e ≤ ds.headD 0) then "day" else if ¬ (1 ≤ c ∧ c ≤ o) then "pay" else ""
end Toy
/-! ### notes: numbers in figures -/
namespace Toy
open PySem L2
/-- a number as told: figures alone, 1 to 30, no nought ahead -/
def NumOk (a : Str) : Prop := (∀ c ∈ a.cps.toList, 48 ≤ c ∧ c ≤ 57) ∧ a.cps.toList ≠ [] ∧ a.length ≤ 30 ∧ ¬ (a.cps.toList.head? = some 48 ∧ 1 < a.length)
theorem fig_mem (c : Nat) : c ∈ ("0123456789" : Str).cps.toList ↔ 48 ≤ c ∧ c ≤ 57 := by
  have e : ("0123456789" : Str).cps.toList = [48, 49, 50, 51, 52, 53, 54, 55, 56, 57] := by decide +kernel
  rw [e]
  simp
  omega
theorem NumOk.int {a : Str} (h : NumOk a) : ∃ n, PySem.intText? a = some n ∧ 0 ≤ n := by
  have hl := h.2.2.1
  exact ⟨_, PySem.intText_digits h.1 h.2.1 (by omega), Int.natCast_nonneg _⟩
theorem str_nil {a : Str} : V.str a = V.str "" ↔ a.cps.toList = [] := by
  constructor
  · intro h
    have e := V.str.inj h
    rw [e]
    rfl
  · intro h
    have e : a = "" := by
      cases a with
      | mk c =>
        have h2 : c = #[] := Array.toList_eq_nil_iff.mp h
        rw [h2]
        rfl
    rw [e]
theorem len_str (a : Str) : a.cps.toList.length = a.length := Array.length_toList
theorem one_eq {c d : Nat} : V.str ⟨#[c]⟩ = V.str ⟨#[d]⟩ ↔ c = d := by
  constructor
  · intro h
    have e := congrArg (fun z : Str => z.cps.toList) (V.str.inj h)
    simpa using e
  · intro h
    rw [h]
end Toy
/-! ### words altered: a text thirty-one times, replace behind a written text -/
namespace L2
open PySem PySem.Spec PyProof.Rows
def ones31 : Str := "1111111111111111111111111111111"
section
variable {X : Cx}
theorem op_rep31 : OpR X (binaryOp .Mult) (fun x y H Q => x = .str "1" ∧ y = .int 31 ∧ Q (.str ones31) H) := by
  intro pins s σ H x y v u Q I rx ry h
  obtain ⟨rfl, rfl, q⟩ := h
  obtain ⟨t, rfl⟩ := rx
  obtain ⟨t', rfl⟩ := ry
  refine P.mul_str (by decide) (fun _ _ => by decide +kernel) (fun _ _ => by decide +kernel) ?_
  rw [if_neg (by decide), if_neg (by decide +kernel)]
  have e : (⟨(List.replicate (31 : Int).toNat ("1" : Str).cps).foldl (· ++ ·) #[]⟩ : Str) = ones31 := by decide +kernel
  rw [e]
  exact ⟨by decide +kernel, .str ones31, H, I.tok _, ⟨_, rfl⟩, q⟩
end
section
variable {X : Cx} {o f : Expr} {tf : TE} {to : TE} {c y z : Str} {j j0 k : Nat} {cp bp c0 c1 apos pos : Pos} {op : Operator} {r : R2}
theorem pe_give (ho : OpR X (binaryOp op) r) (hb : PE X f tf) (pins : List (Addr × Obj)) (s : Shared) (σ : St) (H : Hp) (Q : VK) (I : Inv X pins σ H s) (h : tOp r (tC (.str c)) tf σ H Q) :
    wpAny (model X.prog X.w) X.A (eval (.BinOp (.Constant (.str c) j cp) op f bp) X.env) (fun v s1 => 1 ≤ s1.toks ∧ EP X pins σ Q v s1) X.xe s := by
  refine wpAny_BinOp (Calls.Constant_str ?_)
  refine wpAny_mono (PySem.wpAny_toks (hb.run pins { s with toks := s.toks + 1 } σ H _ (I.tok _) h)) (fun u s2 q => ?_) fun _ _ z => z.2
  obtain ⟨hk, y, H2, I2, r2, q2⟩ := q
  have hk' : s.toks + 1 ≤ s2.toks := hk
  refine wpAny_mono (PySem.wpAny_toks (ho pins s2 σ H2 (V.str c) y (.str c s.toks) u Q I2 ⟨_, rfl⟩ r2 q2)) (fun v s3 q => ?_) fun _ _ z => z.2
  exact ⟨by have := q.1; omega, q.2⟩
/-- [c + f, o.replace(y, z)] -/
theorem pa_giveRepl (ho : OpR X (binaryOp op) r) (hb : PE X f tf) (hx : PE X o to) (hyz : (y == z) = false := by decide)
    (hs1 : starEach [.BinOp (.Constant (.str c) j cp) op f bp, .Call (.Attribute o "replace" apos) [.Constant (.str y) j0 c0, .Constant (.str z) k c1] [] pos] X.env = (false, eval (.BinOp (.Constant (.str c) j cp) op f bp) X.env) :: starEach [.Call (.Attribute o "replace" apos) [.Constant (.str y) j0 c0, .Constant (.str z) k c1] [] pos] X.env := by rfl)
    (hs2 : starEach [.Call (.Attribute o "replace" apos) [.Constant (.str y) j0 c0, .Constant (.str z) k c1] [] pos] X.env = (false, eval (.Call (.Attribute o "replace" apos) [.Constant (.str y) j0 c0, .Constant (.str z) k c1] [] pos) X.env) :: starEach [] X.env := by rfl)
    (hst : starEach [.Constant (.str y) j0 c0, .Constant (.str z) k c1] X.env = [(false, eval (.Constant (.str y) j0 c0) X.env), (false, eval (.Constant (.str z) k c1) X.env)] := by rfl)
    (hbase : attributeBase o "replace" X.env (eval o X.env) = eval o X.env := by rfl) (hline : (apos.endLine == pos.line) = true := by rfl) :
    PA X [.BinOp (.Constant (.str c) j cp) op f bp, .Call (.Attribute o "replace" apos) [.Constant (.str y) j0 c0, .Constant (.str z) k c1] [] pos] (tCons (tOp r (tC (.str c)) tf) (tCons (CwR.tReplC to y z) tNil)) := by
  refine ⟨fun ppos pins s σ H Q I h => ?_⟩
  rw [hs1]
  show wpAny _ _ (spliced ((false, eval (.BinOp (.Constant (.str c) j cp) op f bp) X.env) :: backTo ppos (starEach [.Call (.Attribute o "replace" apos) [.Constant (.str y) j0 c0, .Constant (.str z) k c1] [] pos] X.env))) _ _ s
  refine Calls.spliced_cons (thn (pe_give ho hb pins s σ H _ I h) fun u s1 q => ?_)
  obtain ⟨hk, x, H1, I1, r1, q1⟩ := q
  rw [hs2]
  show wpAny _ _ (spliced ((false, eval (.Call (.Attribute o "replace" apos) [.Constant (.str y) j0 c0, .Constant (.str z) k c1] [] pos) X.env) :: backTo ppos (starEach [] X.env))) _ _ s1
  refine Calls.spliced_cons (thn (CwR.pet_replC hx hyz hst hbase hline pins s1 σ H1 _ hk I1 q1) fun u2 s2 q2 => ?_)
  obtain ⟨x2, H2, I2, r2, q2⟩ := q2
  exact Calls.spliced_nil ⟨[x, x2], H2, I2, .cons r1 (.cons r2 .nil), q2⟩
end
end L2
namespace Toy
open PySem L2
/-! ### the text by places -/
def top (i : Nat) : Stmt := PySem.Challenge.pw_loanplan_k13_notes.main.body.getD i (.Pass ⟨0, 0, 0, 0⟩)
abbrev s_number_of : Stmt := top 10
abbrev s_read : Stmt := top 11
abbrev s_shown : Stmt := top 12
abbrev s_law_cell_at : Stmt := top 14
abbrev s_law_whole : Stmt := top 15
abbrev s_law_number_by : Stmt := top 16
abbrev s_law_one_sign : Stmt := top 17
abbrev s_law_altered : Stmt := top 18
abbrev s_law_number : Stmt := top 19
abbrev s_law_due : Stmt := top 20
abbrev s_law_alike : Stmt := top 21
abbrev s_law_alone : Stmt := top 22
abbrev s_law_refused : Stmt := top 23
abbrev s_law : Stmt := top 24
/-! ### the names of each def by slots -/
theorem sc_number_of : FnScope ["word", "sign"] ["word"] (defScope s_number_of) := ⟨rfl, rfl, rfl, by decide +kernel, rfl, by decide +kernel, by decide +kernel⟩
theorem sc_read : FnScope ["line", "words"] ["line"] (defScope s_read) := ⟨rfl, rfl, rfl, by decide +kernel, rfl, by decide +kernel, by decide +kernel⟩
theorem sc_shown : FnScope ["note", "words", "number"] ["note"] (defScope s_shown) := ⟨rfl, rfl, rfl, by decide +kernel, rfl, by decide +kernel, by decide +kernel⟩
theorem sc_law_cell_at : FnScope ["_law_script", "_law_k"] ["_law_script", "_law_k"] (defScope s_law_cell_at) := ⟨rfl, rfl, rfl, by decide +kernel, rfl, by decide +kernel, by decide +kernel⟩
theorem sc_law_whole : FnScope ["_law_found"] ["_law_found"] (defScope s_law_whole) := ⟨rfl, rfl, rfl, by decide +kernel, rfl, by decide +kernel, by decide +kernel⟩
theorem sc_law_number_by : FnScope ["_law_cell"] ["_law_cell"] (defScope s_law_number_by) := ⟨rfl, rfl, rfl, by decide +kernel, rfl, by decide +kernel, by decide +kernel⟩
theorem sc_law_one_sign : FnScope ["_law_line", "_law_cell", "_law_changed", "_law_some", "_law_place", "_law_sign"] ["_law_line", "_law_cell", "_law_changed"] (defScope s_law_one_sign) := ⟨rfl, rfl, rfl, by decide +kernel, rfl, by decide +kernel, by decide +kernel⟩
theorem sc_law_altered : FnScope ["_law_line", "_law_cell", "_law_words", "_law_place", "_law_word", "_law_way", "_law_some"] ["_law_line", "_law_cell"] (defScope s_law_altered) := ⟨rfl, rfl, rfl, by decide +kernel, rfl, by decide +kernel, by decide +kernel⟩
theorem sc_law_number : FnScope ["_law_word", "_law_sign"] ["_law_word"] (defScope s_law_number) := ⟨rfl, rfl, rfl, by decide +kernel, rfl, by decide +kernel, by decide +kernel⟩
theorem sc_law_due : FnScope ["_law_line", "_law_words", "_law_many", "_law_numbers", "_law_word"] ["_law_line"] (defScope s_law_due) := ⟨rfl, rfl, rfl, by decide +kernel, rfl, by decide +kernel, by decide +kernel⟩
theorem sc_law_alike : FnScope ["_law_found", "_law_due_here", "_law_k"] ["_law_found", "_law_due_here"] (defScope s_law_alike) := ⟨rfl, rfl, rfl, by decide +kernel, rfl, by decide +kernel, by decide +kernel⟩
theorem sc_law_alone : FnScope ["_law_e", "_law_many"] ["_law_e"] (defScope s_law_alone) := ⟨rfl, rfl, rfl, by decide +kernel, rfl, by decide +kernel, by decide +kernel⟩
theorem sc_law_refused : FnScope ["_law_line", "_law_told", "_law_e"] ["_law_line"] (defScope s_law_refused) := ⟨rfl, rfl, rfl, by decide +kernel, rfl, by decide +kernel, by decide +kernel⟩
theorem sc_law : FnScope ["_law_script", "_law_head", "_law_numbers", "_law_note", "_law_line", "_law_word", "_law_row", "_law_due_here"] ["_law_script"] (defScope s_law) := ⟨rfl, rfl, rfl, by decide +kernel, rfl, by decide +kernel, by decide +kernel⟩
/-! ### what the top has left -/
structure Txt (K : PySem.W.Frag) (mg : Str → Option Value) where
  b_tuple : mg "tuple" = none
  b_len : mg "len" = none
  b_min : mg "min" = none
  b_int : mg "int" = none
  b_str : mg "str" = none
  b_bool : mg "bool" = none
  b_range : mg "range" = none
  b_isinstance : mg "isinstance" = none
  b_ValueError : mg "ValueError" = none
  c_FIGURES : ∃ t, mg "FIGURES" = some (.str "0123456789" t)
  c_MOST_FIGURES : ∃ t, mg "MOST_FIGURES" = some (.int 30 t)
  a_LoanError : Addr
  g_LoanError : mg "LoanError" = some (.ref a_LoanError)
  e_LoanError : ExC K a_LoanError
  a_BadAmount : Addr
  g_BadAmount : mg "BadAmount" = some (.ref a_BadAmount)
  e_BadAmount : ExC K a_BadAmount
  a_BadRate : Addr
  g_BadRate : mg "BadRate" = some (.ref a_BadRate)
  e_BadRate : ExC K a_BadRate
  a_BadDay : Addr
  g_BadDay : mg "BadDay" = some (.ref a_BadDay)
  e_BadDay : ExC K a_BadDay
  a_BadPay : Addr
  g_BadPay : mg "BadPay" = some (.ref a_BadPay)
  e_BadPay : ExC K a_BadPay
  a_NoNote : Addr
  g_NoNote : mg "NoNote" = some (.ref a_NoNote)
  e_NoNote : ExC K a_NoNote
  i_NoNote : ExcC K a_NoNote
  ki_NoNote_ValueError : PySem.W.kitOne K (.ref a_NoNote) (.type "ValueError") = some true
  ki_NoNote_BadDay : PySem.W.kitOne K (.ref a_NoNote) (.ref a_BadDay) = some false
  ki_NoNote_BadAmount : PySem.W.kitOne K (.ref a_NoNote) (.ref a_BadAmount) = some false
  ki_NoNote_BadRate : PySem.W.kitOne K (.ref a_NoNote) (.ref a_BadRate) = some false
  ki_NoNote_NoNote : PySem.W.kitOne K (.ref a_NoNote) (.ref a_NoNote) = some true
  ki_NoNote_BadPay : PySem.W.kitOne K (.ref a_NoNote) (.ref a_BadPay) = some false
  m_NoNote_LoanError : PySem.W.exmOne K (.ref a_NoNote) (.ref a_LoanError) = some true
  m_NoNote_NoNote : PySem.W.exmOne K (.ref a_NoNote) (.ref a_NoNote) = some true
section
variable {K : PySem.W.Frag} {mg : Str → Option Value}
def sp_number_of (T : Txt K mg) : Sp := fun vs H Q E => ∃ (a : Str), vs = [.str a] ∧ a.length ≤ 100000 ∧ (¬ NumOk a → E (.ref T.a_NoNote) none H) ∧ (NumOk a → ∀ n, PySem.intText? a = some n → 0 ≤ n → Q (.int n) H)
/-- the words of a note -/
def Note3 (ws : List Str) : Prop := ∃ w a b, ws = [w, a, b] ∧ (w = "pay" ∨ w = "rate") ∧ NumOk a ∧ NumOk b
def Note2 (ws : List Str) : Prop := ∃ a, ws = [("owe" : Str), a] ∧ NumOk a
theorem in_two {w x y : Str} : inV (.str w) [.str x, .str y] = true ↔ w = x ∨ w = y := by
  simp [inV, eqV]
  constructor
  · rintro (h | h)
    · exact .inl h.symm
    · exact .inr h.symm
  · rintro (h | h)
    · exact .inl h.symm
    · exact .inr h.symm
def sp_read (T : Txt K mg) : Sp := fun vs H Q E => ∃ (a : Str), vs = [.str a] ∧ a.length ≤ 100000 ∧
  (¬ Note3 (Txt.split a " ") → ¬ Note2 (Txt.split a " ") → ∀ H', Same H H' → E (.ref T.a_NoNote) none H') ∧
  (∀ w x y m n p H', Txt.split a " " = [w, x, y] → (w = "pay" ∨ w = "rate") → NumOk x → NumOk y → PySem.intText? x = some m → PySem.intText? y = some n → 0 ≤ m → 0 ≤ n → Same H H' → H' p = some (.tup [.str w, .int m, .int n]) → Q (.ref p) H') ∧
  (∀ x m p H', Txt.split a " " = [("owe" : Str), x] → NumOk x → PySem.intText? x = some m → 0 ≤ m → Same H H' → H' p = some (.tup [.str "owe", .int m]) → Q (.ref p) H')
def txt (n : Int) : Str := Str.ofString (toString n)
def sp_shown (_ : Txt K mg) : Sp := fun vs H Q _ => ∃ (np : Addr) (w : Str) (ns : List Int), vs = [.ref np] ∧ H np = some (.tup (.str w :: ns.map V.int)) ∧ (∀ n ∈ ns, 0 ≤ n ∧ n < 10 ^ 30) ∧ 1 ≤ ns.length ∧ ns.length ≤ 2 ∧ w.length ≤ 100 ∧ ∀ H', Same H H' → Q (.str (Txt.join " " (w :: ns.map txt))) H'
def sp_law_cell_at (_ : Txt K mg) : Sp := fun vs H Q _ => ∃ (a : Addr) (ns : List Int) (k : Int), vs = [.ref a, .int k] ∧ SqL K H a (ns.map V.int) ∧ 0 ≤ k ∧ Q (.int (cellAt ns k)) H
def sp_law_whole (_ : Txt K mg) : Sp := fun vs H Q _ => ∃ (c : Int), vs = [.int c] ∧ Q (.bl true) H
def sp_law_number_by (_ : Txt K mg) : Sp := fun vs H Q _ => ∃ (c : Int), vs = [.int c] ∧ Builtin.Int.intBits c ≤ 1048576 ∧ ∀ n, 0 ≤ n → n < 10 ^ 30 → Q (.int n) H
def sp_law_one_sign (_ : Txt K mg) : Sp := fun vs H Q _ => ∃ (a : Str) (c : Int) (b : Bool), vs = [.str a, .int c, .bl b] ∧ 1 ≤ a.length ∧ a.length ≤ 1000 ∧ ∀ r : Str, r.length ≤ 3000 → Q (.str r) H
theorem app_len (i j : Str) : (i ++ j).length = i.length + j.length := by
  show (i.cps ++ j.cps).size = _
  rw [Array.size_append]
  rfl
def sp_law_altered (_ : Txt K mg) : Sp := fun vs H Q _ => ∃ (a : Str) (c : Int), vs = [.str a, .int c] ∧ 1 ≤ a.length ∧ a.length ≤ 200 ∧ 2 ≤ (Txt.split a " ").length ∧ ∀ (r : Str) H', r.length ≤ 100000 → Same H H' → Q (.str r) H'
theorem joinL_len {S : List Nat} {B : Nat} : ∀ ps : List (List Nat), (∀ p ∈ ps, p.length ≤ B) → (TL.joinL S ps).length ≤ ps.length * (B + S.length)
  | [], _ => by simp [TL.joinL]
  | [p], h => by
    have := h p (by simp)
    show p.length ≤ 1 * (B + S.length)
    omega
  | p :: q :: r, h => by
    have h1 := h p (by simp)
    have h2 := joinL_len (S := S) (B := B) (q :: r) fun z hz => h z (by simp only [List.mem_cons] at hz ⊢; exact .inr hz)
    show (p ++ (S ++ TL.joinL S (q :: r))).length ≤ _
    rw [List.length_append, List.length_append, List.length_cons (as := q :: r), Nat.succ_mul]
    omega
theorem join_len {ps : List Str} {B : Nat} (h : ∀ p ∈ ps, p.length ≤ B) : (Txt.join " " ps).length ≤ ps.length * (B + 1) := by
  rw [TL.join_eq, TL.len_tl, TL.tl_join]
  have := joinL_len (S := TL.tl " ") (B := B) (ps.map TL.tl) fun p hp => by
    obtain ⟨z, hz, rfl⟩ := List.mem_map.mp hp
    rw [← TL.len_tl]
    exact h z hz
  rw [List.length_map] at this
  exact this
theorem sum_len {ps : List Str} {B : Nat} (h : ∀ p ∈ ps, p.length ≤ B) : (ps.map (·.length)).sum ≤ ps.length * B := by
  induction ps with
  | nil => simp
  | cons p r ih =>
    have h1 := h p (by simp)
    have h2 := ih fun z hz => h z (by simp [hz])
    rw [List.map_cons, List.sum_cons, List.length_cons, Nat.succ_mul]
    omega
theorem split_len (a : Str) : (Txt.split a " ").length ≤ a.length + 2 := by
  unfold Txt.split
  split
  · show 1 ≤ _; omega
  · split
    · show 1 ≤ _; omega
    · rw [length_partsBetween]
      have := PySem.StrLaws.occ_length_le a " " 0 a.length (a.length + 1)
      omega
def alt1 (w : Str) : List Str := ["+" ++ w, "-" ++ w, "0" ++ w, w ++ "a", cutS w none (some 1) ++ "." ++ cutS w (some 1) none, "", " " ++ w, w ++ " "]
def alt2 (w : Str) : List Str := [w ++ "\n", ones31, w ++ "_0", "0x" ++ w]
def alt3 (a w : Str) : List Str := ["", Txt.upper (cutS a none (some 1)) ++ cutS a (some 1) none, a ++ " 1", Txt.upper a, " " ++ a, a ++ " ", w]
def alt4 (a : Str) : List Str := ["give" ++ cutS a (some 3) none, Txt.replace a " " "\t"]
theorem alt_one {B : Nat} {a : Str} {l : List Str} (h : a.length ≤ B) (k : ∀ x ∈ l, x.length ≤ B) : ∀ x ∈ a :: l, x.length ≤ B := fun x hx => (List.mem_cons.mp hx).elim (fun e => e ▸ h) (k x)
theorem alt_nil {B : Nat} : ∀ x ∈ ([] : List Str), x.length ≤ B := fun x hx => by cases hx
theorem alt1_ok {w : Str} (h : w.length ≤ 200) : ∀ r ∈ alt1 w, r.length ≤ 410 := by
  have l1 := cutS_length w none (some 1)
  have l2 := cutS_length w (some 1) none
  have k1 : ("+" : Str).length = 1 := by decide +kernel
  have k2 : ("-" : Str).length = 1 := by decide +kernel
  have k3 : ("0" : Str).length = 1 := by decide +kernel
  have k4 : ("a" : Str).length = 1 := by decide +kernel
  have k5 : ("." : Str).length = 1 := by decide +kernel
  have k6 : (" " : Str).length = 1 := by decide +kernel
  unfold alt1
  refine alt_one (by rw [app_len]; omega) (alt_one (by rw [app_len]; omega) (alt_one (by rw [app_len]; omega) (alt_one (by rw [app_len]; omega) (alt_one (by rw [app_len, app_len]; omega) (alt_one (by decide +kernel) (alt_one (by rw [app_len]; omega) (alt_one (by rw [app_len]; omega) alt_nil)))))))
theorem alt2_ok {w : Str} (h : w.length ≤ 200) : ∀ r ∈ alt2 w, r.length ≤ 410 := by
  have k1 : ("\n" : Str).length = 1 := by decide +kernel
  have k2 : ("_0" : Str).length = 2 := by decide +kernel
  have k3 : ("0x" : Str).length = 2 := by decide +kernel
  unfold alt2
  refine alt_one (by rw [app_len]; omega) (alt_one (by decide +kernel) (alt_one (by rw [app_len]; omega) (alt_one (by rw [app_len]; omega) alt_nil)))
theorem alt3_ok {a w : Str} (ha : a.length ≤ 200) (h : w.length ≤ 200) : ∀ r ∈ alt3 a w, r.length ≤ 1000 := by
  have l1 := cutS_length a none (some 1)
  have l2 := cutS_length a (some 1) none
  have u1 := PyProof.Rows.len_upper (cutS a none (some 1))
  have u2 := PyProof.Rows.len_upper a
  have k1 : (" 1" : Str).length = 2 := by decide +kernel
  have k2 : (" " : Str).length = 1 := by decide +kernel
  unfold alt3
  refine alt_one (by decide +kernel) (alt_one (by rw [app_len]; omega) (alt_one (by rw [app_len]; omega) (alt_one (by omega) (alt_one (by rw [app_len]; omega) (alt_one (by rw [app_len]; omega) (alt_one (by omega) alt_nil))))))
theorem alt4_ok {a : Str} (ha : a.length ≤ 200) : ∀ r ∈ alt4 a, r.length ≤ 1000 := by
  have l1 := cutS_length a (some 3) none
  have k1 : ("give" : Str).length = 4 := by decide +kernel
  have k2 : ("\t" : Str).length = 1 := by decide +kernel
  have k3 := TK.replace_len a " " "\t"
  rw [k2, Nat.mul_one] at k3
  unfold alt4
  refine alt_one (by rw [app_len]; omega) (alt_one (by omega) alt_nil)
theorem ixN_nat {n j : Nat} (h : j < n) : ixN n (j : Int) = some j := by
  unfold ixN
  rw [if_pos (by omega), if_pos (by omega)]
  simp
def numOf (a : Str) (n : Int) : Prop := (NumOk a ∧ PySem.intText? a = some n ∧ 0 ≤ n) ∨ (¬ NumOk a ∧ n = -1)
def sp_law_number (_ : Txt K mg) : Sp := fun vs H Q _ => ∃ (a : Str), vs = [.str a] ∧ a.length ≤ 100000 ∧ ∀ n, numOf a n → Q (.int n) H
/-- what the law tells of a row -/
def DueIs (ws : List Str) (w : Str) (ns : List Int) : Prop := ∃ rest, ws = w :: rest ∧ ((w = "owe" ∧ rest.length = 1) ∨ ((w = "pay" ∨ w = "rate") ∧ rest.length = 2)) ∧ ns.length = rest.length ∧ ∀ (i : Nat) a n, rest[i]? = some a → ns[i]? = some n → NumOk a ∧ PySem.intText? a = some n
theorem in_three {w x y z : Str} : inV (.str w) [.str x, .str y, .str z] = true ↔ w = x ∨ w = y ∨ w = z := by
  simp [inV, eqV]
  constructor
  · rintro (h | h | h)
    · exact .inl h.symm
    · exact .inr (.inl h.symm)
    · exact .inr (.inr h.symm)
  · rintro (h | h | h)
    · exact .inl h.symm
    · exact .inr (.inl h.symm)
    · exact .inr (.inr h.symm)
theorem split_ne (a b : Str) : ∃ w r, Txt.split a b = w :: r := by
  cases h : Txt.split a b with
  | cons w r => exact ⟨w, r, rfl⟩
  | nil =>
    exfalso
    unfold Txt.split at h
    split at h
    · cases h
    · split at h
      · cases h
      · have := congrArg List.length h
        rw [length_partsBetween] at this
        simp at this
theorem note_words {ws : List Str} (n : Note3 ws ∨ Note2 ws) : ∃ w rest, ws = w :: rest ∧ ((w = "owe" ∧ rest.length = 1) ∨ ((w = "pay" ∨ w = "rate") ∧ rest.length = 2)) ∧ ∀ x ∈ rest, NumOk x := by
  rcases n with ⟨w, x, y, e, h, ox, oy⟩ | ⟨x, e, ox⟩
  · refine ⟨w, [x, y], e, .inr ⟨h, rfl⟩, fun z hz => ?_⟩
    rcases List.mem_cons.mp hz with e1 | e1
    · rw [e1]; exact ox
    · obtain rfl : z = y := by simpa using e1
      exact oy
  · refine ⟨_, [x], e, .inl ⟨rfl, rfl⟩, fun z hz => ?_⟩
    obtain rfl : z = x := by simpa using hz
    exact ox
def sp_law_due (_ : Txt K mg) : Sp := fun vs H Q _ => ∃ (a : Str), vs = [.str a] ∧ a.length ≤ 100000 ∧
  (¬ Note3 (Txt.split a " ") → ¬ Note2 (Txt.split a " ") → ∀ H', Same H H' → Q .non H') ∧
  (∀ w ns p q H', DueIs (Txt.split a " ") w ns → Same H H' → H' p = some (.tup [.str w, .ref q]) → H' q = some (.lst (ns.map V.int)) → Q (.ref p) H')
def sp_law_alike (_ : Txt K mg) : Sp := fun vs H Q _ => ∃ (fp dp q : Addr) (w : Str) (ns : List Int), vs = [.ref fp, .ref dp] ∧ H fp = some (.tup (.str w :: ns.map V.int)) ∧ H dp = some (.tup [.str w, .ref q]) ∧ H q = some (.lst (ns.map V.int)) ∧ ns.length ≤ 2 ∧ Q (.bl true) H
def okAl (T : Txt K mg) (cls : Value) (d : Option Addr) : Prop := d = none ∧ ∃ (D : Addr) (b1 b2 b3 b4 b5 : Bool), cls = .ref D ∧ ExcC K D ∧ PySem.W.kitOne K (.ref D) (.ref T.a_BadAmount) = some b1 ∧ PySem.W.kitOne K (.ref D) (.ref T.a_BadRate) = some b2 ∧
  PySem.W.kitOne K (.ref D) (.ref T.a_BadDay) = some b3 ∧ PySem.W.kitOne K (.ref D) (.ref T.a_BadPay) = some b4 ∧ PySem.W.kitOne K (.ref D) (.ref T.a_NoNote) = some b5 ∧ PySem.W.kitOne K (.ref D) (.type "ValueError") = some true ∧
  (if b1 then (1 : Int) else 0) + (if b2 then (1 : Int) else 0) + (if b3 then (1 : Int) else 0) + (if b4 then (1 : Int) else 0) + (if b5 then (1 : Int) else 0) = 1
def sp_law_alone (T : Txt K mg) : Addr × Obj → Prop := fun p => okAl T p.2.cls p.2.dict ∧ ∃ vs, p.2.data = .fields vs
def sp_law_refused (_ : Txt K mg) : Sp := fun vs H Q _ => ∃ (a : Str), vs = [.str a] ∧ a.length ≤ 100000 ∧ ¬ Note3 (Txt.split a " ") ∧ ¬ Note2 (Txt.split a " ") ∧ ∀ H', Same H H' → Q (.bl true) H'
theorem app_assoc (i j k : Str) : i ++ j ++ k = i ++ (j ++ k) := by
  show Str.mk (i.cps ++ j.cps ++ k.cps) = Str.mk (i.cps ++ (j.cps ++ k.cps))
  rw [Array.append_assoc]
theorem join2 (x y : Str) : Txt.join " " [x, y] = x ++ " " ++ y := by
  rw [TL.join_eq]
  rfl
theorem join3 (x y z : Str) : Txt.join " " [x, y, z] = x ++ " " ++ y ++ " " ++ z := by
  rw [TL.join_eq]
  show x ++ " " ++ (y ++ " " ++ z) = _
  rw [app_assoc (x ++ " " ++ y), app_assoc (x ++ " ") y, app_assoc y]
def sp_law (K : PySem.W.Frag) : Sp := fun vs H Q _ => ∃ (a : Addr) (ns : List Int), vs = [.ref a] ∧ SqL K H a (ns.map V.int) ∧ ns.length ≤ 63 ∧ (∀ z ∈ ns, Builtin.Int.intBits z ≤ 1048576) ∧ ∀ H', Q (.bl true) H'
end
section
variable {P : Program} {w : World} {K : PySem.W.Frag} {mg : Str → Option Value} {base : Heap}
theorem ok_number_of {f : Addr} {fd : FuncData} (F : Fun K "number_of" "number_of" s_number_of f fd) (T : Txt K mg)  :
    FnOk P w K mg base (L2.CX P w) 1 f fd ["word"] (sp_number_of T) := by
  refine F.okX sc_number_of (fun vs H Q E h => ?_) (fun cdv A outer s H vs Q E hr h => ?_)
  · obtain ⟨a, rfl, _⟩ := h
    rfl
  · obtain ⟨a, rfl, hl, hE, hQ⟩ := h
    refine ⟨_, (pss_cons (ps_for (passes_of rfl) rfl (pi_str (pv 0)) (pg_name (i := 1) sc_number_of.nd rfl (Or.inl rfl)) (pss_one (ps_if (pt_cmpR op_notIn_sign (pv 1) (pe_gstr T.c_FIGURES) rfl) (pss_one (ps_raise rfl (takes_of rfl rfl rfl rfl) (pmk_own PySem.F.excBase_ValueError T.e_NoNote.x T.g_NoNote T.e_NoNote.k (raises_own T.e_NoNote.s T.e_NoNote.t) (by exact rfl)))) pss_nil)))
            (pss_cons (ps_if (PW.pt (pw_or (pt_cmpR op_eq (pv 0) pe_str (nomark _)) (pw_or (pt_cmpR op_gt (pe_callB call_len_str (by rfl) T.b_len PySem.boot_len (pa_cons (pv 0) pa_nil)) (pe_gint T.c_MOST_FIGURES) (nomark _)) (pw_or1 (PW.pt (pw_and (pt_cmpR op_eq (pe_ix ix_str (pv 0) pe_int (fun _ _ => rfl)) pe_str (nomark _)) (pw_and1 (pt_cmpR op_gt (pe_callB call_len_str (by rfl) T.b_len PySem.boot_len (pa_cons (pv 0) pa_nil)) pe_int (nomark _))))))))) (pss_one (ps_raise rfl (takes_of rfl rfl rfl rfl) (pmk_own PySem.F.excBase_ValueError T.e_NoNote.x T.g_NoNote T.e_NoNote.k (raises_own T.e_NoNote.s T.e_NoNote.t) (by exact rfl)))) pss_nil)
            (pss_one (ps_ret (pe_callTy call_int_str (by rfl) T.b_int (by decide +kernel) (pa_cons (pv 0) pa_nil)))))), ?_⟩
    have hls : a.cps.toList.length = a.length := len_str a
    refine ⟨_, rfl, a, rfl, for_it walk_str (fun i σ H' => H' = H ∧ (∀ (j : Nat) c, j < i → a.cps[j]? = some c → 48 ≤ c ∧ c ≤ 57) ∧ ∃ v1 : Option V, σ = [some (.str a), v1])
      ⟨rfl, fun j c hj => absurd hj (Nat.not_lt_zero _), none, rfl⟩ (fun _ _ _ _ _ => trivial) ?_ ?_⟩
    · rintro i x σ H' H2 hi ⟨rfl, hf, v1, rfl⟩ ⟨rfl, c, hc, rfl⟩
      refine ⟨_, rfl, c, _, rfl, rfl, _, rfl, ifdn (fun n => ?_) (fun y => ?_)⟩
      · refine hE fun ok => n ((fig_mem c).mpr (ok.1 c ?_))
        exact List.mem_of_getElem? (i := i) (by rw [Array.getElem?_toList]; exact hc)
      · refine ⟨rfl, fun j d hj hd => ?_, _, rfl⟩
        by_cases e : j = i
        · rw [e, hc] at hd
          obtain rfl : c = d := Option.some.inj hd
          exact (fig_mem c).mp y
        · exact hf j d (by omega) hd
    · rintro σ H' ⟨rfl, hf, v1, rfl⟩
      have hall : ∀ c ∈ a.cps.toList, 48 ≤ c ∧ c ≤ 57 := fun c hc => by
        obtain ⟨j, hj⟩ := List.mem_iff_getElem?.mp hc
        rw [Array.getElem?_toList] at hj
        exact hf j c (Array.getElem?_eq_some_iff.mp hj).1 hj
      refine ⟨_, rfl, rfl, _, rfl, ifd (fun e => ?_) (fun e => ?_)⟩
      · exact iteT (hE fun ok => ok.2.1 (str_nil.mp e))
      have hne : a.cps.toList ≠ [] := fun y => e (str_nil.mpr y)
      refine ⟨_, rfl, a, rfl, sz_small hl, _, _, rfl, rfl, _, rfl, ifd (fun e2 => ?_) (fun e2 => ?_)⟩
      · refine iteT (hE fun ok => ?_)
        have := ok.2.2.1
        have e2' : (a.length : Int) > 30 := e2
        omega
      have e2' : ¬ (a.length : Int) > 30 := e2
      obtain ⟨c, r, ec⟩ : ∃ c r, a.cps.toList = c :: r := by
        cases h : a.cps.toList with
        | nil => exact absurd h hne
        | cons c r => exact ⟨c, r, rfl⟩
      have fin : ¬ (a.cps.toList.head? = some 48 ∧ 1 < a.length) → Q (.int ((PySem.intText? a).getD 0)) H' := fun n => by
        have ok : NumOk a := ⟨hall, hne, by omega, n⟩
        obtain ⟨m, em, m0⟩ := ok.int
        rw [em]
        exact hQ ok m em m0
      have done : ¬ (a.cps.toList.head? = some 48 ∧ 1 < a.length) → ∃ a_1 n, [V.str a] = [V.str a_1] ∧ PySem.intText? a_1 = some n ∧ a_1.length ≤ 640 ∧ Q (.int n) H' := fun n => by
        have ok : NumOk a := ⟨hall, hne, by omega, n⟩
        obtain ⟨m, em, m0⟩ := ok.int
        exact ⟨a, m, rfl, em, by omega, hQ ok m em m0⟩
      refine ⟨_, rfl, a, 0, c, rfl, rfl, sz_small hl, by rw [ec]; exact atI_nat (j := 0) rfl, rfl, _, rfl, ifd (fun e3 => ?_) (fun e3 => ?_)⟩
      · have e3' : c = 48 := one_eq.mp e3
        refine ⟨_, rfl, a, rfl, sz_small hl, _, _, rfl, rfl, _, rfl, ifd (fun e4 => ?_) (fun e4 => ?_)⟩
        · have e4' : (a.length : Int) > 1 := e4
          exact hE fun ok => ok.2.2.2 ⟨by rw [ec, e3']; rfl, by omega⟩
        · have e4' : ¬ (a.length : Int) > 1 := e4
          exact ⟨_, rfl, done fun y => by omega⟩
      · exact ⟨_, rfl, done fun y => e3 (one_eq.mpr (by have := y.1; rw [ec] at this; exact Option.some.inj this))⟩

theorem ok_read {f : Addr} {fd : FuncData} (F : Fun K "read" "read" s_read f fd) (T : Txt K mg) (D_number_of : Df P w K mg base (L2.CX P w) 1 "number_of" ["word"] (sp_number_of T)) :
    FnOk P w K mg base (L2.CX P w) 2 f fd ["line"] (sp_read T) := by
  refine F.okX sc_read (fun vs H Q E h => ?_) (fun cdv A outer s H vs Q E hr h => ?_)
  · obtain ⟨a, rfl, _⟩ := h
    rfl
  · obtain ⟨a, rfl, hl, hE, h3, h2⟩ := h
    refine ⟨_, (pss_cons (ps_set (i := 1) sc_read.nd rfl (Or.inl rfl) (pe_split (pv 0) pe_str))
            (Evl.pss_cut (ps_if (PW.pt (pw_and (pt_cmpR op_eq (pe_callB call_len_seq (by rfl) T.b_len PySem.boot_len (pa_cons (pv 1) pa_nil)) pe_int (nomark _)) (pw_and1 (pt_cmpR op_in_seq (pe_ix ix_list (pv 1) pe_int (fun _ _ => rfl)) (pe_tup (pa_cons pe_str (pa_cons pe_str pa_nil))) (by rfl))))) (pss_one (ps_ret (pe_tup (pa_cons (pe_ix ix_list (pv 1) pe_int (fun _ _ => rfl)) (pa_cons (pe_call D_number_of.G (hr.mono (by decide)) rfl D_number_of.m D_number_of.kp D_number_of.b .nil (passes_call (takes_of rfl rfl rfl rfl) (fun _ _ _ _ h => h)) (pa_cons (pe_ix ix_list (pv 1) pe_int (fun _ _ => rfl)) pa_nil)) (pa_cons (pe_call D_number_of.G (hr.mono (by decide)) rfl D_number_of.m D_number_of.kp D_number_of.b .nil (passes_call (takes_of rfl rfl rfl rfl) (fun _ _ _ _ h => h)) (pa_cons (pe_ix ix_list (pv 1) pe_int (fun _ _ => rfl)) pa_nil)) pa_nil)))))) pss_nil)
            (pss_cons (ps_if (PW.pt (pw_and (pt_cmpR op_eq (pe_callB call_len_seq (by rfl) T.b_len PySem.boot_len (pa_cons (pv 1) pa_nil)) pe_int (nomark _)) (pw_and1 (pt_cmpR op_eq (pe_ix ix_list (pv 1) pe_int (fun _ _ => rfl)) pe_str (nomark _))))) (pss_one (ps_ret (pe_tup (pa_cons pe_str (pa_cons (pe_call D_number_of.G (hr.mono (by decide)) rfl D_number_of.m D_number_of.kp D_number_of.b .nil (passes_call (takes_of rfl rfl rfl rfl) (fun _ _ _ _ h => h)) (pa_cons (pe_ix ix_list (pv 1) pe_int (fun _ _ => rfl)) pa_nil)) pa_nil))))) pss_nil)
            (pss_one (ps_raise rfl (takes_of rfl rfl rfl rfl) (pmk_own PySem.F.excBase_ValueError T.e_NoNote.x T.g_NoNote T.e_NoNote.k (raises_own T.e_NoNote.s T.e_NoNote.t) (by exact rfl))))))), ?_⟩
    have hw : ∀ w ∈ Txt.split a " ", w.length ≤ 100000 := fun w h => Nat.le_trans (PyProof.Rows.part_short h) hl
    refine ⟨_, rfl, ⟨a, rfl⟩, a, _, rfl, rfl, by decide, Nat.le_trans (by omega : a.length + 2 ≤ 100002) (by decide), fun p hp => ?_⟩
    have s1 : Same H (L2.upd H p (.lst ((Txt.split a " ").map V.str))) := Same.new hp
    have u1 : (L2.upd H p (.lst ((Txt.split a " ").map V.str))) p = some (.lst ((Txt.split a " ").map V.str)) := upd_same
    show gName 1 (.ref p) _ (L2.upd H p (.lst ((Txt.split a " ").map V.str))) _
    generalize L2.upd H p (.lst ((Txt.split a " ").map V.str)) = H1 at s1 u1 ⊢
    generalize Txt.split a " " = ws at hE h3 h2 hw u1
    refine ⟨fun σ H' => Same H1 H' ∧ ¬ (∃ w x y, ws = [w, x, y] ∧ (w = "pay" ∨ w = "rate")) ∧ σ = [some (.str a), some (.ref p)], ?_, ?_⟩
    · refine ⟨_, rfl, p, _, rfl, .inl (SqL.of u1), rfl, _, rfl, if_eq (fun c => ?_) (fun c => ?_)⟩
      · rw [List.length_map] at c
        obtain ⟨w, x, y, ews⟩ : ∃ w x y, ws = [w, x, y] := by
          match ws, c with
          | [w, x, y], _ => exact ⟨w, x, y, rfl⟩
          | [], c => exact absurd c (by decide)
          | [_], c => exact absurd c (by simp)
          | [_, _], c => exact absurd c (by simp)
          | _ :: _ :: _ :: _ :: _, c => exact absurd c (by simp only [List.length_cons]; omega)
        rw [ews] at u1
        refine ⟨_, rfl, p, _, _, _, rfl, rfl, SqL.of u1, at0 rfl, szl 2, fun tq htq => ?_⟩
        have s2 : Same H1 (L2.upd H1 tq (.tup [.str "pay", .str "rate"])) := Same.new htq
        refine ⟨tq, _, rfl, .inr (SqT.of upd_same), rfl, rfl, _, rfl, ifb (fun e => ?_) (fun e => ?_)⟩
        · have e2 := in_two.mp e
          have u2 := s2 _ _ u1
          have hx := hw x (by rw [ews]; simp)
          have hy := hw y (by rw [ews]; simp)
          refine ⟨_, rfl, p, _, _, _, rfl, rfl, SqL.of u2, at0 rfl, _, rfl, p, _, _, _, rfl, rfl, SqL.of u2, at_of (j := 1) rfl rfl, x, rfl, hx, fun n => ?_, fun ox m em m0 => ?_⟩
          · refine hE (fun n3 => ?_) (fun n2 => ?_) _ (s1.trans s2)
            · obtain ⟨w', x', y', e', _, ox, _⟩ := n3
              rw [ews] at e'
              cases e'
              exact n ox
            · obtain ⟨x', e', _⟩ := n2
              rw [ews] at e'
              cases e'
          refine ⟨_, rfl, p, _, _, _, rfl, rfl, SqL.of u2, at_of (j := 2) rfl rfl, y, rfl, hy, fun n => ?_, fun oy n en n0 => ?_⟩
          · refine hE (fun n3 => ?_) (fun n2 => ?_) _ (s1.trans s2)
            · obtain ⟨w', x', y', e', _, _, oy⟩ := n3
              rw [ews] at e'
              cases e'
              exact n oy
            · obtain ⟨x', e', _⟩ := n2
              rw [ews] at e'
              cases e'
          exact ⟨szl 3, fun q hq => h3 w x y m n q _ ews e2 ox oy em en m0 n0 ((s1.trans s2).upd hq) upd_same⟩
        · refine ⟨s2, ?_, rfl⟩
          rintro ⟨w', x', y', e', h⟩
          rw [ews] at e'
          cases e'
          have := in_two.mpr h
          exact Bool.noConfusion (e.symm.trans this)
      · refine ⟨Same.refl _, ?_, rfl⟩
        rintro ⟨w', x', y', e', _⟩
        rw [List.length_map, e'] at c
        exact c rfl
    rintro σ H' ⟨s2, n3, rfl⟩
    have u2 := s2 _ _ u1
    have bad : ¬ Note2 ws → E (.ref T.a_NoNote) none H' := fun n => hE (fun y => by
      obtain ⟨w, x, y, e, h, _⟩ := y
      exact n3 ⟨w, x, y, e, h⟩) n _ (s1.trans s2)
    refine ⟨_, rfl, p, _, rfl, .inl (SqL.of u2), rfl, _, rfl, if_eq (fun c => ?_) (fun c => ?_)⟩
    · rw [List.length_map] at c
      obtain ⟨w, x, ews⟩ : ∃ w x, ws = [w, x] := by
        match ws, c with
        | [w, x], _ => exact ⟨w, x, rfl⟩
        | [], c => exact absurd c (by decide)
        | [_], c => exact absurd c (by simp)
        | _ :: _ :: _ :: _, c => exact absurd c (by simp only [List.length_cons]; omega)
      have hx := hw x (by rw [ews]; simp)
      rw [ews] at u2
      refine ⟨_, rfl, p, _, _, _, rfl, rfl, SqL.of u2, at0 rfl, rfl, _, rfl, ifd (fun e => ?_) (fun e => ?_)⟩
      · have e2 : w = "owe" := V.str.inj e
        refine ⟨_, rfl, p, _, _, _, rfl, rfl, SqL.of u2, at_of (j := 1) rfl rfl, x, rfl, hx, fun n => bad fun y => ?_, fun ox m em m0 => ⟨szl 2, fun q hq => h2 x m q _ (by rw [ews, e2]) ox em m0 ((s1.trans s2).upd hq) upd_same⟩⟩
        obtain ⟨x', e', ox⟩ := y
        rw [ews] at e'
        cases e'
        exact n ox
      · refine bad fun y => e ?_
        obtain ⟨x', e', ox⟩ := y
        rw [ews] at e'
        cases e'
        rfl
    · refine bad fun y => c ?_
      obtain ⟨x', e', ox⟩ := y
      rw [List.length_map, e']
      rfl

theorem ok_shown {f : Addr} {fd : FuncData} (F : Fun K "shown" "shown" s_shown f fd) (T : Txt K mg)  :
    FnOk P w K mg base CX0 1 f fd ["note"] (sp_shown T) := by
  refine F.ok sc_shown (fun vs H Q E h => ?_) (fun cdv A outer s H vs Q E hr h => ?_)
  · obtain ⟨np, w, ns, rfl, _⟩ := h
    rfl
  · obtain ⟨np, w', ns, rfl, hn, hr, l1, l2, hw, q⟩ := h
    refine ⟨_, (pss_cons (ps_set (i := 1) sc_shown.nd rfl (Or.inl rfl) (pe_lst (pa_cons (pe_ix ix_tup (pv 0) pe_int (fun _ _ => rfl)) pa_nil)))
            (pss_cons (ps_for PassesOwn.never rfl (pi_tup (pe_slice sl_tup (pv 0) (po_some pe_int) po_none)) (pg_name (i := 2) sc_shown.nd rfl (Or.inl rfl)) (pss_one (ps_expr (pe_bm PySem.F.plainAttrs_list PySem.F.slot_list_append PySem.F.type_list_append mt_append (pv 1) (pa_cons (pe_callTy call_str_int (by rfl) T.b_str (by decide +kernel) (pa_cons (pv 2) pa_nil)) pa_nil)))))
            (pss_one (ps_ret (pe_join pe_str (pv 1)))))), ?_⟩
    refine ⟨_, rfl, np, _, _, _, rfl, rfl, SqT.of hn, at0 rfl, szl 1, fun wl hwl => ?_⟩
    have s1 : Same H (L2.upd H wl (.lst [.str w'])) := Same.new hwl
    have u1 : (L2.upd H wl (.lst [.str w'])) wl = some (.lst (([w'] : List Str).map V.str)) := upd_same
    show gName 1 (.ref wl) _ (L2.upd H wl (.lst [.str w'])) _
    generalize L2.upd H wl (.lst [.str w']) = H1 at s1 u1 ⊢
    refine ⟨_, rfl, _, rfl, np, _, rfl, SqT.of (s1 _ _ hn), ?_, fun tp htp => ?_⟩
    · rw [List.length_cons, List.length_map]
      match ns, l1, l2 with
      | [x], _, _ => show ¬ (HT.sIx 2 0 (some 1) = 0 ∧ HT.sIx 2 2 none = 2); decide
      | [x, y], _, _ => show ¬ (HT.sIx 3 0 (some 1) = 0 ∧ HT.sIx 3 3 none = 3); decide
    rw [show cutV (V.str w' :: ns.map V.int) (some 1) none = ns.map V.int from (cut_from (k := 1) (n := 1) rfl (by simp)).trans rfl]
    have s2 : Same H1 (L2.upd H1 tp (.tup (ns.map V.int))) := Same.new htp
    have u2 : (L2.upd H1 tp (.tup (ns.map V.int))) tp = some (.tup (ns.map V.int)) := upd_same
    generalize L2.upd H1 tp (.tup (ns.map V.int)) = H2 at s2 u2 ⊢
    have u3 := s2 _ _ u1
    have hwH : H wl = none := hwl
    refine ⟨tp, rfl, ⟨_, SqT.of u2⟩, for_tup (K := K) (a := tp) (xs := ns.map V.int)
      (fun i σ H' => Same H H' ∧ H' tp = some (.tup (ns.map V.int)) ∧ H' wl = some (.lst ((w' :: (ns.take i).map txt).map V.str)) ∧ ∃ v2 : Option V, σ = [some (.ref np), some (.ref wl), v2])
      ⟨s1.trans s2, u2, u3, none, rfl⟩ (fun i σ H' _ ⟨_, t, _⟩ => SqT.of t) ?_ ?_⟩
    · rintro i x σ H' hi ⟨s, t, u, v2, rfl⟩
      obtain ⟨n, hn2, rfl⟩ := map_get hi
      have hb := hr n (List.mem_of_getElem? hn2)
      have hlg : n.natAbs.log2 < 1920 := by
        have h1 : n.natAbs < 2 ^ 1920 := by
          have h2 : n.natAbs < 10 ^ 30 := by omega
          exact Nat.lt_of_lt_of_le h2 (by decide +kernel)
        by_cases h0 : n.natAbs = 0
        · rw [h0]; decide
        · exact (Nat.log2_lt h0).mpr h1
      refine ⟨_, rfl, .inl ⟨rfl, _, SqL.of u⟩, _, rfl, n, rfl, hlg, wl, _, _, rfl, rfl, u, sz_lt (by rw [List.length_map, List.length_cons, List.length_map]; have := List.length_take_le' i ns; omega), ?_⟩
      refine ⟨s.mut hwH, ?_, ?_, _, rfl⟩
      · rw [L2.upd_ne (ne_of t u (by intro z; cases z))]
        exact t
      · rw [List.take_add_one, hn2]
        have e : (w' :: (ns.take i ++ (some n).toList).map txt).map V.str = (w' :: (ns.take i).map txt).map V.str ++ [V.str (txt n)] := by simp
        rw [e]
        exact upd_same
    · rintro σ H' ⟨s, t, u, v2, rfl⟩
      rw [List.length_map, List.take_of_length_le (Nat.le_refl _)] at u
      refine ⟨⟨_, rfl⟩, _, rfl, _, wl, _, rfl, rfl, .inl (SqL.of u), ?_, q _ s⟩
      have hl3 : ∀ n ∈ ns, (txt n).length ≤ 30 := fun n hn => PyProof.Rows.toString_length_le (hr n hn).1 (by decide) (hr n hn).2
      match ns, l1, l2, hl3 with
      | [x], _, _, hl3 =>
        have := hl3 x (by simp)
        show w'.length + ((txt x).length + 0) + 2 * 1 ≤ 16777216
        omega
      | [x, y], _, _, hl3 =>
        have := hl3 x (by simp)
        have := hl3 y (by simp)
        show w'.length + ((txt x).length + ((txt y).length + 0)) + 3 * 1 ≤ 16777216
        omega

theorem ok_law_cell_at {f : Addr} {fd : FuncData} (F : Fun K "_law_cell_at" "_law_cell_at" s_law_cell_at f fd) (T : Txt K mg)  :
    FnOk P w K mg base CX0 1 f fd ["_law_script", "_law_k"] (sp_law_cell_at T) := by
  refine F.ok sc_law_cell_at (fun vs H Q E h => ?_) (fun cdv A outer s H vs Q E hr h => ?_)
  · obtain ⟨a, ns, k, rfl, _⟩ := h
    rfl
  · obtain ⟨a, ns, k, rfl, hS, h0, q⟩ := h
    refine ⟨_, (pss_cons (ps_if (pt_cmpR op_lt (pv 1) (pe_callB call_len_seq (by rfl) T.b_len PySem.boot_len (pa_cons (pv 0) pa_nil)) (nomark _)) (pss_one (ps_ret (pe_ix ix_list (pv 0) (pv 1) (fun _ _ => rfl)))) pss_nil)
            (pss_one (ps_ret pe_int))), ?_⟩
    refine ⟨_, rfl, _, rfl, a, _, rfl, Or.inl hS, _, _, rfl, rfl, _, rfl, ifd (fun c => ?_) (fun c => ?_)⟩
    · rw [List.length_map] at c
      obtain ⟨j, rfl⟩ : ∃ j : Nat, k = (j : Int) := ⟨k.toNat, by omega⟩
      have hj : j < ns.length := by omega
      refine ⟨_, rfl, _, rfl, a, _, _, _, rfl, rfl, hS, at_m rfl (List.getElem?_eq_getElem hj), ?_⟩
      have e : cellAt ns (j : Int) = ns[j] := by
        unfold cellAt
        rw [Int.toNat_natCast, List.getD_eq_getElem?_getD, List.getElem?_eq_getElem hj]
        rfl
      rw [← e]
      exact q
    · rw [List.length_map] at c
      have e : cellAt ns k = 0 := by
        unfold cellAt
        rw [List.getD_eq_getElem?_getD, List.getElem?_eq_none (by omega)]
        rfl
      rw [e] at q
      exact q

theorem ok_law_whole {f : Addr} {fd : FuncData} (F : Fun K "_law_whole" "_law_whole" s_law_whole f fd) (T : Txt K mg)  :
    FnOk P w K mg base CX0 1 f fd ["_law_found"] (sp_law_whole T) := by
  refine F.ok sc_law_whole (fun vs H Q E h => ?_) (fun cdv A outer s H vs Q E hr h => ?_)
  · obtain ⟨c, rfl, _⟩ := h
    rfl
  · obtain ⟨c, rfl, q⟩ := h
    refine ⟨_, (pss_one (ps_ret (pe_and (pe_callB call_isi (by rfl) T.b_isinstance (by decide +kernel) (pa_cons (pv 0) (pa_cons (pe_bltn (v := .ty "int") (u := .type "int") rfl T.b_int (by decide +kernel) rfl) pa_nil))) (pe_one (pe_not (pe_callB call_isi (by rfl) T.b_isinstance (by decide +kernel) (pa_cons (pv 0) (pa_cons (pe_bltn (v := .ty "bool") (u := .type "bool") rfl T.b_bool (by decide +kernel) rfl) pa_nil)))))))), ?_⟩
    refine ⟨_, rfl, _, _, _, _, _, rfl, .ty "int", .base (.int c), kit_ty (r := true) (by decide +kernel), true, rfl, iteT ?_⟩
    exact ⟨_, rfl, _, _, _, _, _, rfl, .ty "bool", .base (.int c), kit_ty (r := false) (by decide +kernel), false, rfl, q⟩

theorem ok_law_number_by {f : Addr} {fd : FuncData} (F : Fun K "_law_number_by" "_law_number_by" s_law_number_by f fd) (T : Txt K mg)  :
    FnOk P w K mg base CX0 1 f fd ["_law_cell"] (sp_law_number_by T) := by
  refine F.ok sc_law_number_by (fun vs H Q E h => ?_) (fun cdv A outer s H vs Q E hr h => ?_)
  · obtain ⟨c, rfl, _⟩ := h
    rfl
  · obtain ⟨c, rfl, hc, q⟩ := h
    refine ⟨_, (pss_cons (ps_if (pt_cmpR op_eq (pe_op op_mod (pv 0) pe_int) pe_int (nomark _)) (pss_one (ps_ret (pe_op op_mod (pe_op op_fdiv (pv 0) pe_int) pe_int))) pss_nil)
            (pss_cons (ps_if (pt_cmpR op_eq (pe_op op_mod (pv 0) pe_int) pe_int (nomark _)) (pss_one (ps_ret pe_int)) pss_nil)
            (pss_one (ps_ret (pe_op op_mod (pe_op op_add (pe_op op_mulX (pe_op op_mulX (pv 0) (pv 0)) pe_int) (pe_op op_mulX pe_int (pv 0))) (pe_op op_pow pe_int pe_int)))))), ?_⟩
    have wok : IntMulOk c c := IntMulOk.of_bits hc hc
    refine ⟨_, rfl, _, _, rfl, rfl, md, rfl, _, rfl, if_eq (fun _ => ?_) (fun _ => ?_)⟩
    · exact ⟨_, rfl, _, _, rfl, rfl, dv, _, _, rfl, rfl, md, q _ (by omega) (by omega)⟩
    refine ⟨_, rfl, _, _, rfl, rfl, md, rfl, _, rfl, if_eq (fun _ => ?_) (fun _ => ?_)⟩
    · exact q _ (by decide) (by decide)
    refine ⟨_, rfl, _, rfl, _, _, rfl, rfl, wok, _, _, rfl, rfl, mulR, _, rfl, _, _, rfl, rfl, mulL, _, _, rfl, rfl, ?_⟩
    exact ⟨_, _, rfl, rfl, ⟨by decide, by decide, by decide⟩, _, _, rfl, rfl, md (j := 10 ^ (30 : Int).toNat) (by decide), q _ (Int.emod_nonneg _ (by decide)) (Int.emod_lt_of_pos _ (by decide))⟩

theorem ok_law_one_sign {f : Addr} {fd : FuncData} (F : Fun K "_law_one_sign" "_law_one_sign" s_law_one_sign f fd) (T : Txt K mg)  :
    FnOk P w K mg base CX0 1 f fd ["_law_line", "_law_cell", "_law_changed"] (sp_law_one_sign T) := by
  refine F.ok sc_law_one_sign (fun vs H Q E h => ?_) (fun cdv A outer s H vs Q E hr h => ?_)
  · obtain ⟨a, c, b, rfl, _⟩ := h
    rfl
  · obtain ⟨a, c, b, rfl, h1, h2, q⟩ := h
    refine ⟨_, (pss_cons (ps_set (i := 3) sc_law_one_sign.nd rfl (Or.inl rfl) pe_str)
            (pss_cons (ps_set (i := 3) sc_law_one_sign.nd rfl (Or.inl rfl) (pe_op op_add_str (pv 3) pe_str))
            (pss_cons (ps_set (i := 4) sc_law_one_sign.nd rfl (Or.inl rfl) (pe_op op_mod (pv 1) (pe_callB call_len_str (by rfl) T.b_len PySem.boot_len (pa_cons (pv 0) pa_nil))))
            (pss_cons (ps_set (i := 5) sc_law_one_sign.nd rfl (Or.inl rfl) (pe_ix ix_str (pv 3) (pe_op op_mod (pe_op op_fdiv (pv 1) (pe_callB call_len_str (by rfl) T.b_len PySem.boot_len (pa_cons (pv 0) pa_nil))) pe_int) (fun _ _ => rfl)))
            (Evl.pss_cut (ps_if (pt_not (pt_val (pv 2))) (pss_one (ps_set (i := 5) sc_law_one_sign.nd rfl (Or.inl rfl) pe_str)) pss_nil)
            (pss_one (ps_ret (pe_op op_add_str (pe_op op_add_str (pe_slice sl_str (pv 0) po_none (po_some (pv 4))) (pv 5)) (pe_slice sl_str (pv 0) (po_some (pe_op op_add (pv 4) pe_int)) po_none))))))))), ?_⟩
    have hz : a.length ≤ sizeLine := sz_small (by omega)
    refine ⟨_, rfl, _, _, rfl, rfl, sz_small (by decide +kernel), ?_⟩
    obtain ⟨t, et⟩ : ∃ t : Str, ((" !\"#$&'()*+,-./0123456789:;<=>?@ABCDEFGHIJKLMNOPQRSTUVWXYZ[\\]^_`" : Str) ++ ("abcdefghijklmnopqrstuvwxyz{|}~" : Str)) = t := ⟨_, rfl⟩
    have hlen : t.cps.toList.length = 94 := by rw [← et]; decide +kernel
    have hlen2 : t.length = 94 := by rw [← len_str, hlen]
    show gName 3 (.str ((" !\"#$&'()*+,-./0123456789:;<=>?@ABCDEFGHIJKLMNOPQRSTUVWXYZ[\\]^_`" : Str) ++ ("abcdefghijklmnopqrstuvwxyz{|}~" : Str))) _ _ _
    rw [et]
    clear et
    have p0 := Int.emod_nonneg c (show (a.length : Int) ≠ 0 by omega)
    have p1 := Int.emod_lt_of_pos c (show 0 < (a.length : Int) by omega)
    refine ⟨_, rfl, _, rfl, a, rfl, hz, _, _, rfl, rfl, by omega, ?_⟩
    obtain ⟨j, ej⟩ : ∃ j : Nat, c / (a.length : Int) % 94 = (j : Int) := ⟨(c / (a.length : Int) % 94).toNat, by omega⟩
    obtain ⟨g, hg⟩ := get_of (l := t.cps.toList) (j := j) (by rw [hlen]; omega)
    refine ⟨_, rfl, _, rfl, _, rfl, a, rfl, hz, _, _, rfl, rfl, ⟨by omega, by omega⟩, _, _, rfl, rfl, md, t, _, g, rfl, rfl, sz_small (by omega), by rw [ej]; exact atI_nat hg, ?_⟩
    refine ⟨fun σ H' => H' = H ∧ ∃ y : Str, y.length ≤ 1 ∧ σ = [some (.str a), some (.int c), some (.bl b), some (.str t), some (.int (c % (a.length : Int))), some (.str y)], ?_, ?_⟩
    · refine ⟨_, rfl, b, rfl, ?_⟩
      cases b with
      | true => exact ⟨rfl, ⟨#[g]⟩, Nat.le_refl 1, rfl⟩
      | false => exact ifnF ⟨rfl, ("" : Str), (by decide : ("" : Str).length ≤ 1), rfl⟩
    rintro σ H' ⟨rfl, y, hy, rfl⟩
    have l1 := cutS_length a none (some (c % (a.length : Int)))
    have l2 := cutS_length a (some (c % (a.length : Int) + 1)) none
    refine ⟨_, rfl, _, rfl, _, rfl, a, rfl, hz, _, rfl, _, _, rfl, rfl, sz_small (by omega), ?_⟩
    refine ⟨_, rfl, _, rfl, _, _, rfl, rfl, _, rfl, a, rfl, hz, _, _, rfl, rfl, ?_, ?_⟩
    · rw [app_len]
      exact sz_small (by omega)
    · refine q _ ?_
      rw [app_len, app_len]
      omega

theorem ok_law_altered {f : Addr} {fd : FuncData} (F : Fun K "_law_altered" "_law_altered" s_law_altered f fd) (T : Txt K mg) (D_law_one_sign : Df P w K mg base CX0 1 "_law_one_sign" ["_law_line", "_law_cell", "_law_changed"] (sp_law_one_sign T)) :
    FnOk P w K mg base CX0 2 f fd ["_law_line", "_law_cell"] (sp_law_altered T) := by
  refine F.ok sc_law_altered (fun vs H Q E h => ?_) (fun cdv A outer s H vs Q E hr h => ?_)
  · obtain ⟨a, c, rfl, _⟩ := h
    rfl
  · obtain ⟨a, c, rfl, h1, h2, h3, q⟩ := h
    refine ⟨_, (pss_cons (ps_set (i := 2) sc_law_altered.nd rfl (Or.inl rfl) (pe_split (pv 0) pe_str))
            (pss_cons (ps_set (i := 3) sc_law_altered.nd rfl (Or.inl rfl) (pe_op op_add pe_int (pe_op op_mod (pe_op op_fdiv (pv 1) pe_int) (pe_op op_sub (pe_callB call_len_seq (by rfl) T.b_len PySem.boot_len (pa_cons (pv 2) pa_nil)) pe_int))))
            (pss_cons (ps_set (i := 4) sc_law_altered.nd rfl (Or.inl rfl) (pe_ix ix_list (pv 2) (pv 3) (fun _ _ => rfl)))
            (pss_cons (ps_set (i := 5) sc_law_altered.nd rfl (Or.inl rfl) (pe_op op_mod (pv 1) pe_int))
            (pss_cons (ps_if (pt_cmpR op_gt (pv 5) pe_int (nomark _)) (pss_one (ps_ret (pc0 D_law_one_sign hr (pa_cons (pv 0) (pa_cons (pe_op op_fdiv (pv 1) pe_int) (pa_cons (pe_cmpR op_lt (pv 5) pe_int (nomark _)) pa_nil)))))) pss_nil)
            (pss_cons (ps_if (pt_cmpR op_lt (pv 5) pe_int (nomark _)) (pss_cons (ps_set (i := 6) sc_law_altered.nd rfl (Or.inl rfl) (pe_lst (pa_cons (pe_op op_add_str pe_str (pv 4)) (pa_cons (pe_op op_add_str pe_str (pv 4)) (pa_cons (pe_op op_add_str pe_str (pv 4)) (pa_cons (pe_op op_add_str (pv 4) pe_str) (pa_cons (pe_op op_add_str (pe_op op_add_str (pe_slice sl_str (pv 4) po_none (po_some pe_int)) pe_str) (pe_slice sl_str (pv 4) (po_some pe_int) po_none)) (pa_cons pe_str (pa_cons (pe_op op_add_str pe_str (pv 4)) (pa_cons (pe_op op_add_str (pv 4) pe_str) pa_nil))))))))))
            (pss_cons (ps_set (i := 6) sc_law_altered.nd rfl (Or.inl rfl) (pe_op op_cat (pv 6) (pe_lst (pa_cons (pe_op op_add_str (pv 4) pe_str) (pa_cons (pe_op op_rep31 pe_str pe_int) (pa_cons (pe_op op_add_str (pv 4) pe_str) (pa_cons (pe_op op_add_str pe_str (pv 4)) pa_nil)))))))
            (pss_cons (ps_asg (pe_ix ix_list (pv 6) (pv 5) (fun _ _ => rfl)) (pg_sub (pv 2) (pv 3) set_list))
            (pss_one (ps_ret (pe_join pe_str (pv 2))))))) pss_nil)
            (pss_cons (ps_set (i := 6) sc_law_altered.nd rfl (Or.inl rfl) (pe_lst (pa_cons pe_str (pa_cons (pe_op op_add_str (pe_upper (pe_slice sl_str (pv 0) po_none (po_some pe_int))) (pe_slice sl_str (pv 0) (po_some pe_int) po_none)) (pa_cons (pe_op op_add_str (pv 0) pe_str) (pa_cons (pe_upper (pv 0)) (pa_cons (pe_op op_add_str pe_str (pv 0)) (pa_cons (pe_op op_add_str (pv 0) pe_str) (pa_cons (pe_ix ix_list (pv 2) pe_int (fun _ _ => rfl)) pa_nil)))))))))
            (pss_cons (ps_set (i := 6) sc_law_altered.nd rfl (Or.inl rfl) (pe_op op_cat (pv 6) (pe_lst (pa_giveRepl op_add_str (pe_slice sl_str (pv 0) (po_some pe_int) po_none) (pv 0)))))
            (pss_one (ps_ret (pe_ix ix_list (pv 6) (pe_op op_sub (pv 5) pe_int) (fun _ _ => rfl)))))))))))), ?_⟩
    have hz : a.length ≤ sizeLine := sz_small (by omega)
    have hw : ∀ w ∈ Txt.split a " ", w.length ≤ 200 := fun w h => Nat.le_trans (PyProof.Rows.part_short h) h2
    have hwn : (Txt.split a " ").length ≤ 202 := Nat.le_trans (split_len a) (by omega)
    refine ⟨_, rfl, ⟨a, rfl⟩, a, _, rfl, rfl, by decide, Nat.le_trans (by omega : a.length + 2 ≤ 100002) (by decide), fun p hp => ?_⟩
    have s1 : Same H (L2.upd H p (.lst ((Txt.split a " ").map V.str))) := Same.new hp
    have u1 : (L2.upd H p (.lst ((Txt.split a " ").map V.str))) p = some (.lst ((Txt.split a " ").map V.str)) := upd_same
    show gName 2 (.ref p) _ (L2.upd H p (.lst ((Txt.split a " ").map V.str))) _
    generalize L2.upd H p (.lst ((Txt.split a " ").map V.str)) = H1 at s1 u1 ⊢
    generalize Txt.split a " " = ws at h3 hw hwn u1
    have nz : ((ws.map V.str).length : Int) - 1 ≠ 0 := by rw [List.length_map]; omega
    have np : 0 < ((ws.map V.str).length : Int) - 1 := by rw [List.length_map]; omega
    refine ⟨_, rfl, _, _, rfl, rfl, dv, _, rfl, p, _, rfl, .inl (SqL.of u1), _, _, rfl, rfl, _, _, rfl, rfl, np, _, _, rfl, rfl, ?_⟩
    obtain ⟨j, ej⟩ : ∃ j : Nat, 1 + c / 25 % (((ws.map V.str).length : Int) - 1) = (j : Int) := by
      have p0 := Int.emod_nonneg (c / 25) nz
      exact ⟨(1 + c / 25 % (((ws.map V.str).length : Int) - 1)).toNat, by omega⟩
    have hj : j < ws.length := by
      have p1 := Int.emod_lt_of_pos (c / 25) np
      rw [List.length_map] at p1 ej
      omega
    obtain ⟨w, ew⟩ := get_of (l := ws) (j := j) hj
    have hwl := hw w (List.mem_of_getElem? ew)
    have hwz : w.length ≤ sizeLine := sz_small (by omega)
    show gName 3 (.int (1 + c / 25 % (((ws.map V.str).length : Int) - 1))) _ _ _
    rw [ej]
    refine ⟨_, rfl, _, rfl, p, _, _, _, rfl, rfl, SqL.of u1, at_m (f := V.str) rfl ew, ?_⟩
    refine ⟨_, rfl, _, _, rfl, rfl, md, ?_⟩
    have m0 : 0 ≤ c % 25 := by omega
    have m1 : c % 25 < 25 := by omega
    refine ⟨_, rfl, _, _, rfl, rfl, _, rfl, ifd (fun c1 => ?_) (fun c1 => ?_)⟩
    · exact ⟨_, rfl, _, rfl, _, _, rfl, rfl, dv, _, rfl, _, _, rfl, rfl, a, _, _, rfl, h1, by omega, fun r hr => q r _ (by omega) s1⟩
    have c1' : ¬ c % 25 > 20 := c1
    refine ⟨_, rfl, _, _, rfl, rfl, _, rfl, ifd (fun c2 => ?_) (fun c2 => ?_)⟩
    · have c2' : c % 25 < 12 := c2
      have l1 := cutS_length w none (some 1)
      have l2 := cutS_length w (some 1) none
      have k1 : ("+" : Str).length = 1 := by decide +kernel
      have k2 : ("-" : Str).length = 1 := by decide +kernel
      have k3 : ("0" : Str).length = 1 := by decide +kernel
      have k4 : ("a" : Str).length = 1 := by decide +kernel
      have k5 : ("." : Str).length = 1 := by decide +kernel
      have k6 : (" " : Str).length = 1 := by decide +kernel
      have k7 : ("\n" : Str).length = 1 := by decide +kernel
      have k8 : ("_0" : Str).length = 2 := by decide +kernel
      have k9 : ("0x" : Str).length = 2 := by decide +kernel
      refine ⟨_, rfl, _, _, rfl, rfl, sz_small (by omega), _, rfl, _, _, rfl, rfl, sz_small (by omega), _, rfl, _, _, rfl, rfl, sz_small (by omega), _, rfl, _, _, rfl, rfl, sz_small (by omega),
        _, rfl, _, rfl, _, rfl, hwz, _, _, rfl, rfl, sz_small (by omega), _, rfl, _, rfl, _, rfl, hwz, _, _, rfl, rfl, sz_small (by rw [app_len]; omega), _, rfl, _, _, rfl, rfl, sz_small (by omega), _, rfl, _, _, rfl, rfl, sz_small (by omega), szl 8, fun p1 hp1 => ?_⟩
      have s2 : Same H1 (L2.upd H1 p1 (.lst ((alt1 w).map V.str))) := Same.new hp1
      have u2 : (L2.upd H1 p1 (.lst ((alt1 w).map V.str))) p1 = some (.lst ((alt1 w).map V.str)) := upd_same
      have npp : p ≠ p1 := ne_of_none u1 hp1
      show gName 6 (.ref p1) _ (L2.upd H1 p1 (.lst ((alt1 w).map V.str))) _
      generalize L2.upd H1 p1 (.lst ((alt1 w).map V.str)) = H2 at s2 u2 ⊢
      refine ⟨_, rfl, _, rfl, _, _, rfl, rfl, sz_small (by omega), rfl, rfl, _, rfl, _, _, rfl, rfl, sz_small (by omega), _, rfl, _, _, rfl, rfl, sz_small (by omega), szl 4, fun p2 hp2 => ?_⟩
      have s3 : Same H2 (L2.upd H2 p2 (.lst ((alt2 w).map V.str))) := Same.new hp2
      have u3 : (L2.upd H2 p2 (.lst ((alt2 w).map V.str))) p2 = some (.lst ((alt2 w).map V.str)) := upd_same
      show rCat _ _ (L2.upd H2 p2 (.lst ((alt2 w).map V.str))) _
      generalize L2.upd H2 p2 (.lst ((alt2 w).map V.str)) = H3 at s3 u3 ⊢
      refine ⟨p1, p2, _, _, rfl, rfl, s3 _ _ u2, u3, sz_small (by rw [List.length_map, List.length_map]; show 8 + 4 ≤ 100000; decide), fun p3 hp3 => ?_⟩
      rw [← List.map_append]
      have s4 : Same H3 (L2.upd H3 p3 (.lst ((alt1 w ++ alt2 w).map V.str))) := Same.new hp3
      have u4 : (L2.upd H3 p3 (.lst ((alt1 w ++ alt2 w).map V.str))) p3 = some (.lst ((alt1 w ++ alt2 w).map V.str)) := upd_same
      generalize L2.upd H3 p3 (.lst ((alt1 w ++ alt2 w).map V.str)) = H4 at s4 u4 ⊢
      obtain ⟨i, ei⟩ : ∃ i : Nat, c % 25 = (i : Int) := ⟨(c % 25).toNat, by omega⟩
      obtain ⟨r, hr⟩ := get_of (l := alt1 w ++ alt2 w) (j := i) (by show i < 12; omega)
      have hrl : r.length ≤ 410 := by
        rcases List.mem_append.mp (List.mem_of_getElem? hr) with hm | hm
        · exact alt1_ok hwl r hm
        · exact alt2_ok hwl r hm
      have s14 := (s2.trans s3).trans s4
      have hall : ∀ x ∈ ws.set j r, x.length ≤ 410 := fun x hx => by
        rcases List.mem_or_eq_of_mem_set hx with h | h
        · have := hw x h
          omega
        · rw [h]
          exact hrl
      have hpH : H p = none := hp
      refine ⟨_, rfl, _, rfl, p3, _, _, _, rfl, rfl, SqL.of u4, at_m (f := V.str) ei hr, _, rfl, _, rfl, p, _, _, j, rfl, rfl, s14 _ _ u1, ixN_nat (by rw [List.length_map]; exact hj), ?_⟩
      rw [← List.map_set]
      have e1 := sum_len hall
      have e2 := join_len hall
      rw [List.length_set] at e1 e2
      have e3 : ws.length * 410 ≤ 202 * 410 := Nat.mul_le_mul_right _ hwn
      have e4 : ws.length * (410 + 1) ≤ 202 * (410 + 1) := Nat.mul_le_mul_right _ hwn
      refine ⟨⟨_, rfl⟩, _, rfl, _, p, ws.set j r, rfl, rfl, .inl (SqL.of upd_same), ?_, ?_⟩
      · rw [List.length_set, k6]
        omega
      · exact q _ _ (by omega) ((s1.trans s14).mut hpH)
    · have c2' : ¬ c % 25 < 12 := c2
      have l1 := cutS_length a none (some 1)
      have l2 := cutS_length a (some 1) none
      have l3 := cutS_length a (some 3) none
      have v1 := PyProof.Rows.len_upper (cutS a none (some 1))
      have v2 := PyProof.Rows.len_upper a
      have k1 : (" 1" : Str).length = 2 := by decide +kernel
      have k2 : (" " : Str).length = 1 := by decide +kernel
      have k3 : ("give" : Str).length = 4 := by decide +kernel
      have k4 : ("\t" : Str).length = 1 := by decide +kernel
      obtain ⟨w0, ew0⟩ := get_of (l := ws) (j := 0) (by omega)
      have hw0 := hw w0 (List.mem_of_getElem? ew0)
      refine ⟨_, rfl, _, rfl, _, rfl, hz, ⟨_, rfl⟩, _, rfl, rfl, by omega, _, rfl, _, rfl, _, rfl, hz, _, _, rfl, rfl, sz_small (by omega), _, rfl, _, _, rfl, rfl, sz_small (by omega), _, rfl, ⟨_, rfl⟩, _, rfl, rfl, by omega,
        _, rfl, _, _, rfl, rfl, sz_small (by omega), _, rfl, _, _, rfl, rfl, sz_small (by omega), _, rfl, p, _, _, _, rfl, rfl, SqL.of u1, at_m (f := V.str) (z := 0) (j := 0) rfl ew0, szl 7, fun p1 hp1 => ?_⟩
      have s2 : Same H1 (L2.upd H1 p1 (.lst ((alt3 a w0).map V.str))) := Same.new hp1
      have u2 : (L2.upd H1 p1 (.lst ((alt3 a w0).map V.str))) p1 = some (.lst ((alt3 a w0).map V.str)) := upd_same
      show gName 6 (.ref p1) _ (L2.upd H1 p1 (.lst ((alt3 a w0).map V.str))) _
      generalize L2.upd H1 p1 (.lst ((alt3 a w0).map V.str)) = H2 at s2 u2 ⊢
      refine ⟨_, rfl, _, rfl, _, rfl, _, rfl, hz, _, _, rfl, rfl, sz_small (by omega), _, rfl, _, rfl, by rw [k4, Nat.mul_one]; omega, szl 2, fun p2 hp2 => ?_⟩
      have s3 : Same H2 (L2.upd H2 p2 (.lst ((alt4 a).map V.str))) := Same.new hp2
      have u3 : (L2.upd H2 p2 (.lst ((alt4 a).map V.str))) p2 = some (.lst ((alt4 a).map V.str)) := upd_same
      show rCat _ _ (L2.upd H2 p2 (.lst ((alt4 a).map V.str))) _
      generalize L2.upd H2 p2 (.lst ((alt4 a).map V.str)) = H3 at s3 u3 ⊢
      refine ⟨p1, p2, _, _, rfl, rfl, s3 _ _ u2, u3, sz_small (by rw [List.length_map, List.length_map]; show 7 + 2 ≤ 100000; decide), fun p3 hp3 => ?_⟩
      rw [← List.map_append]
      have s4 : Same H3 (L2.upd H3 p3 (.lst ((alt3 a w0 ++ alt4 a).map V.str))) := Same.new hp3
      obtain ⟨i, ei⟩ : ∃ i : Nat, c % 25 - 12 = (i : Int) := ⟨(c % 25 - 12).toNat, by omega⟩
      obtain ⟨r, hr⟩ := get_of (l := alt3 a w0 ++ alt4 a) (j := i) (by show i < 9; omega)
      refine ⟨_, rfl, _, rfl, _, _, rfl, rfl, p3, _, _, _, rfl, rfl, SqL.of upd_same, at_m (f := V.str) ei hr, q r _ ?_ (((s1.trans s2).trans s3).trans s4)⟩
      rcases List.mem_append.mp (List.mem_of_getElem? hr) with hm | hm
      · have := alt3_ok h2 hw0 r hm
        omega
      · have := alt4_ok h2 r hm
        omega

theorem ok_law_number {f : Addr} {fd : FuncData} (F : Fun K "_law_number" "_law_number" s_law_number f fd) (T : Txt K mg)  :
    FnOk P w K mg base CX0 1 f fd ["_law_word"] (sp_law_number T) := by
  refine F.ok sc_law_number (fun vs H Q E h => ?_) (fun cdv A outer s H vs Q E hr h => ?_)
  · obtain ⟨a, rfl, _⟩ := h
    rfl
  · obtain ⟨a, rfl, hl, hQ⟩ := h
    refine ⟨_, (Evl.pss_cut (ps_if (PW.pt (pw_or (pt_cmpR op_eq (pv 0) pe_str (nomark _)) (pw_or (pt_cmpR op_gt (pe_callB call_len_str (by rfl) T.b_len PySem.boot_len (pa_cons (pv 0) pa_nil)) pe_int (nomark _)) (pw_or1 (PW.pt (pw_and (pt_cmpR op_gt (pe_callB call_len_str (by rfl) T.b_len PySem.boot_len (pa_cons (pv 0) pa_nil)) pe_int (nomark _)) (pw_and1 (pt_cmpR op_eq (pe_ix ix_str (pv 0) pe_int (fun _ _ => rfl)) pe_str (nomark _))))))))) (pss_one (ps_ret (pe_un un_neg pe_int))) pss_nil)
            (pss_cons (ps_for PassesOwn.never rfl (pi_str (pv 0)) (pg_name (i := 1) sc_law_number.nd rfl (Or.inl rfl)) (pss_one (ps_if (pt_cmpR op_notIn_sign (pv 1) pe_str rfl) (pss_one (ps_ret (pe_un un_neg pe_int))) pss_nil)))
            (pss_one (ps_ret (pe_callTy call_int_str (by rfl) T.b_int (by decide +kernel) (pa_cons (pv 0) pa_nil)))))), ?_⟩
    have hls : a.cps.toList.length = a.length := len_str a
    have no : ¬ NumOk a → Q (.int (-1)) H := fun n => hQ _ (.inr ⟨n, rfl⟩)
    refine ⟨fun σ H' => H' = H ∧ a.cps.toList ≠ [] ∧ a.length ≤ 30 ∧ ¬ (a.cps.toList.head? = some 48 ∧ 1 < a.length) ∧ σ = [some (.str a), none], ?_, ?_⟩
    · refine ⟨_, rfl, rfl, _, rfl, ifd (fun e => ?_) (fun e => ?_)⟩
      · exact iteT ⟨_, rfl, no fun ok => ok.2.1 (str_nil.mp e)⟩
      have hne : a.cps.toList ≠ [] := fun y => e (str_nil.mpr y)
      refine ⟨_, rfl, a, rfl, sz_small hl, _, _, rfl, rfl, _, rfl, ifd (fun e2 => ?_) (fun e2 => ?_)⟩
      · refine iteT ⟨_, rfl, no fun ok => ?_⟩
        have := ok.2.2.1
        have e2' : (a.length : Int) > 30 := e2
        omega
      have e2' : ¬ (a.length : Int) > 30 := e2
      obtain ⟨c, r, ec⟩ : ∃ c r, a.cps.toList = c :: r := by
        cases h : a.cps.toList with
        | nil => exact absurd h hne
        | cons c r => exact ⟨c, r, rfl⟩
      refine ⟨_, rfl, a, rfl, sz_small hl, _, _, rfl, rfl, _, rfl, ifd (fun e4 => ?_) (fun e4 => ?_)⟩
      · have e4' : (a.length : Int) > 1 := e4
        refine ⟨_, rfl, a, 0, c, rfl, rfl, sz_small hl, by rw [ec]; exact atI_nat (j := 0) rfl, rfl, _, rfl, ifd (fun e3 => ?_) (fun e3 => ?_)⟩
        · have e3' : c = 48 := one_eq.mp e3
          exact ⟨_, rfl, no fun ok => ok.2.2.2 ⟨by rw [ec, e3']; rfl, by omega⟩⟩
        · exact ⟨rfl, hne, by omega, fun y => e3 (one_eq.mpr (by have := y.1; rw [ec] at this; exact Option.some.inj this)), rfl⟩
      · have e4' : ¬ (a.length : Int) > 1 := e4
        exact ⟨rfl, hne, by omega, fun y => by omega, rfl⟩
    rintro σ H' ⟨rfl, hne, h30, hn, rfl⟩
    refine ⟨_, rfl, a, rfl, for_it walk_str (fun i σ H2 => H2 = H' ∧ (∀ (j : Nat) c, j < i → a.cps[j]? = some c → 48 ≤ c ∧ c ≤ 57) ∧ ∃ v1 : Option V, σ = [some (.str a), v1])
      ⟨rfl, fun j c hj => absurd hj (Nat.not_lt_zero _), none, rfl⟩ (fun _ _ _ _ _ => trivial) ?_ ?_⟩
    · rintro i x σ H1 H2 hi ⟨rfl, hf, v1, rfl⟩ ⟨rfl, c, hc, rfl⟩
      refine ⟨_, rfl, c, _, rfl, rfl, _, rfl, ifdn (fun n => ?_) (fun y => ?_)⟩
      · refine ⟨_, rfl, no fun ok => n ((fig_mem c).mpr (ok.1 c ?_))⟩
        exact List.mem_of_getElem? (i := i) (by rw [Array.getElem?_toList]; exact hc)
      · refine ⟨rfl, fun j d hj hd => ?_, _, rfl⟩
        by_cases e : j = i
        · rw [e, hc] at hd
          obtain rfl : c = d := Option.some.inj hd
          exact (fig_mem c).mp y
        · exact hf j d (by omega) hd
    · rintro σ H1 ⟨rfl, hf, v1, rfl⟩
      have hall : ∀ c ∈ a.cps.toList, 48 ≤ c ∧ c ≤ 57 := fun c hc => by
        obtain ⟨j, hj⟩ := List.mem_iff_getElem?.mp hc
        rw [Array.getElem?_toList] at hj
        exact hf j c (Array.getElem?_eq_some_iff.mp hj).1 hj
      have ok : NumOk a := ⟨hall, hne, h30, hn⟩
      obtain ⟨m, em, m0⟩ := ok.int
      exact ⟨_, rfl, a, m, rfl, em, by omega, hQ m (.inl ⟨ok, em, m0⟩)⟩

theorem ok_law_due {f : Addr} {fd : FuncData} (F : Fun K "_law_due" "_law_due" s_law_due f fd) (T : Txt K mg) (D_law_number : Df P w K mg base CX0 1 "_law_number" ["_law_word"] (sp_law_number T)) :
    FnOk P w K mg base CX0 2 f fd ["_law_line"] (sp_law_due T) := by
  refine F.ok sc_law_due (fun vs H Q E h => ?_) (fun cdv A outer s H vs Q E hr h => ?_)
  · obtain ⟨a, rfl, _⟩ := h
    rfl
  · obtain ⟨a, rfl, hl, hN, hD⟩ := h
    refine ⟨_, (pss_cons (ps_set (i := 1) sc_law_due.nd rfl (Or.inl rfl) (pe_split (pv 0) pe_str))
            (pss_cons (ps_set (i := 2) sc_law_due.nd rfl (Or.inl rfl) pe_int)
            (Evl.pss_cut (ps_if (pt_cmpR op_eq (pe_ix ix_list (pv 1) pe_int (fun _ _ => rfl)) pe_str (nomark _)) (pss_one (ps_set (i := 2) sc_law_due.nd rfl (Or.inl rfl) pe_int)) pss_nil)
            (pss_cons (ps_if (PW.pt (pw_or (pt_cmpR op_notIn_seq (pe_ix ix_list (pv 1) pe_int (fun _ _ => rfl)) (pe_lst (pa_cons pe_str (pa_cons pe_str (pa_cons pe_str pa_nil)))) (by rfl)) (pw_or1 (pt_cmpR op_ne (pe_callB call_len_seq (by rfl) T.b_len PySem.boot_len (pa_cons (pv 1) pa_nil)) (pv 2) (nomark _))))) (pss_one (ps_ret pe_non)) pss_nil)
            (pss_cons (ps_setLc (i := 3) (own := [("_law_word", 4)]) (g := gName 4) (by rfl) sc_law_due.nd rfl rfl (sw_true rfl rfl rfl (by decide +kernel)) (pi_list (pe_slice sl_list (pv 1) (po_some pe_int) po_none)) (blkOk_by (own := [("_law_word", 4)]) (N := ["_law_line", "_law_words", "_law_many", "_law_numbers", "_law_word"]) (sc := defScope s_law_due) (by decide +kernel)) (fun _ _ _ _ _ => pg_name (i := 4) sc_law_due.nd rfl (Or.inl rfl)) (fun _ _ _ _ _ => pts_nil) (fun _ _ _ _ _ => (pc0 D_law_number hr (pa_cons (pv 4) pa_nil))))
            (pss_cons (ps_if (pt_cmpR op_lt (pe_callB (cr_min rfl) (by rfl) T.b_min (by decide +kernel) (pa_cons (pv 3) pa_nil)) pe_int (nomark _)) (pss_one (ps_ret pe_non)) pss_nil)
            (pss_one (ps_ret (pe_tup (pa_cons (pe_ix ix_list (pv 1) pe_int (fun _ _ => rfl)) (pa_cons (pv 3) pa_nil))))))))))), ?_⟩
    have hw : ∀ w ∈ Txt.split a " ", w.length ≤ 100000 := fun w h => Nat.le_trans (PyProof.Rows.part_short h) hl
    obtain ⟨w, rest, ews⟩ := split_ne a " "
    refine ⟨_, rfl, ⟨a, rfl⟩, a, _, rfl, rfl, by decide, Nat.le_trans (by omega : a.length + 2 ≤ 100002) (by decide), fun p hp => ?_⟩
    have s1 : Same H (L2.upd H p (.lst ((Txt.split a " ").map V.str))) := Same.new hp
    have u1 : (L2.upd H p (.lst ((Txt.split a " ").map V.str))) p = some (.lst ((Txt.split a " ").map V.str)) := upd_same
    show gName 1 (.ref p) _ (L2.upd H p (.lst ((Txt.split a " ").map V.str))) _
    generalize L2.upd H p (.lst ((Txt.split a " ").map V.str)) = H1 at s1 u1 ⊢
    generalize Txt.split a " " = ws at hN hD hw u1 ews
    subst ews
    have none : ∀ H', Same H H' → (¬ ∃ w' rest', w :: rest = w' :: rest' ∧ ((w' = "owe" ∧ rest'.length = 1) ∨ ((w' = "pay" ∨ w' = "rate") ∧ rest'.length = 2)) ∧ ∀ x ∈ rest', NumOk x) → Q .non H' := fun H' s n =>
      hN (fun y => n (note_words (.inl y))) (fun y => n (note_words (.inr y))) H' s
    refine ⟨fun σ H' => H' = H1 ∧ σ = [some (.str a), some (.ref p), some (.int (if w = "owe" then 2 else 3)), Option.none, Option.none], ?_, ?_⟩
    · refine ⟨_, rfl, p, _, _, _, rfl, rfl, SqL.of u1, at0 rfl, rfl, _, rfl, ifd (fun e => ?_) (fun e => ?_)⟩
      · refine ⟨rfl, ?_⟩
        rw [if_pos (V.str.inj e)]
        rfl
      · refine ⟨rfl, ?_⟩
        rw [if_neg fun y => e (by rw [y])]
        rfl
    rintro σ H' ⟨rfl, rfl⟩
    refine ⟨_, rfl, p, _, _, _, rfl, rfl, SqL.of u1, at0 rfl, szl 3, fun tq htq => ?_⟩
    have s2 : Same H' (L2.upd H' tq (.lst [.str "pay", .str "rate", .str "owe"])) := Same.new htq
    have u2 := s2 _ _ u1
    refine ⟨tq, _, rfl, .inl (SqL.of upd_same), rfl, rfl, _, rfl, ?_⟩
    generalize L2.upd H' tq (.lst [.str "pay", .str "rate", .str "owe"]) = H2 at s2 u2 ⊢
    have s12 := s1.trans s2
    by_cases hin : inV (.str w) [.str "pay", .str "rate", .str "owe"] = true
    · have hin2 := in_three.mp hin
      show if (!inV (.str w) [.str "pay", .str "rate", .str "owe"]) = true then _ else _
      rw [hin]
      refine ifnT ?_
      refine ⟨_, rfl, p, _, rfl, .inl (SqL.of u2), _, rfl, rfl, _, rfl, if_ne (fun n => ?_) (fun e => ?_)⟩
      · refine none _ s12 ?_
        rintro ⟨w', r', e', h, _⟩
        cases e'
        rw [List.length_map, List.length_cons] at n
        rcases h with ⟨h, hl2⟩ | ⟨h, hl2⟩
        · rw [if_pos h, hl2] at n
          exact n rfl
        · rw [if_neg (by rcases h with h | h <;> rw [h] <;> decide), hl2] at n
          exact n rfl
      rw [List.length_map, List.length_cons] at e
      have hw2 : (w = "owe" ∧ rest.length = 1) ∨ ((w = "pay" ∨ w = "rate") ∧ rest.length = 2) := by
        by_cases h : w = "owe"
        · rw [if_pos h] at e
          exact .inl ⟨h, by omega⟩
        · rw [if_neg h] at e
          refine .inr ⟨?_, by omega⟩
          rcases hin2 with h2 | h2 | h2
          · exact .inl h2
          · exact .inr h2
          · exact absurd h2 h
      have hr : 0 < rest.length := by rcases hw2 with h | h <;> omega
      refine ⟨_, rfl, _, rfl, p, _, rfl, SqL.of u2, fun p3 h3 => ?_⟩
      rw [show cutV ((w :: rest).map V.str) (some 1) Option.none = rest.map V.str from (cut_from (k := 1) (n := 1) rfl (by simp)).trans rfl]
      have s3 : Same H2 (L2.upd H2 p3 (.lst (rest.map V.str))) := Same.new h3
      have u3 : (L2.upd H2 p3 (.lst (rest.map V.str))) p3 = some (.lst (rest.map V.str)) := upd_same
      generalize L2.upd H2 p3 (.lst (rest.map V.str)) = H3 at s3 u3 ⊢
      refine ⟨p3, rfl, ⟨_, SqL.of u3⟩, fun D hD0 => lc_list (K := K) (a := p3) (xs := rest.map V.str)
        (fun i H' => Same H3 H' ∧ ∃ ns : List Int, H' D = some (.lst (ns.map V.int)) ∧ ns.length = i ∧ ∀ (j : Nat) b n, rest[j]? = some b → ns[j]? = some n → numOf b n)
        ⟨Same.new hD0, [], upd_same, rfl, fun j b n _ h => by cases h⟩ (fun i H' _ ⟨s, _⟩ => SqL.of (s _ _ u3)) ?_ ?_⟩
      · rintro i x H' hi ⟨s, ns, hns, hlen, hall⟩
        obtain ⟨b, hb, rfl⟩ := map_get hi
        have hbw : b.length ≤ 100000 := hw b (List.mem_cons_of_mem _ (List.mem_of_getElem? hb))
        have hil : i < rest.length := (List.getElem?_eq_some_iff.mp hb).1
        have hr3 : rest.length ≤ 2 := by rcases hw2 with h | h <;> omega
        refine ⟨rfl, ?_⟩
        refine ⟨_, rfl, b, rfl, hbw, fun n hn => ⟨_, hns, sz_lt (by rw [List.length_map]; omega), s.mut hD0, ns ++ [n], by rw [List.map_append]; exact upd_same, by rw [List.length_append, hlen]; rfl, fun j b2 n2 hj hn2 => ?_⟩⟩
        by_cases hji : j < i
        · rw [List.getElem?_append_left (by omega)] at hn2
          exact hall j b2 n2 hj hn2
        · by_cases hji2 : j = i
          · rw [List.getElem?_append_right (by omega), hji2, hlen, Nat.sub_self] at hn2
            rw [hji2, hb] at hj
            cases hj
            cases hn2
            exact hn
          · have := (List.getElem?_eq_some_iff.mp hn2).1
            rw [List.length_append, hlen] at this
            simp at this
            omega
      · rintro H' ⟨s, ns, hns, hlen, hall⟩
        rw [List.length_map] at hlen
        have sa := (s12.trans s3).trans s
        refine ⟨_, rfl, D, ns, rfl, SqL.of hns, by omega, fun m hm hle => ?_⟩
        refine ⟨_, _, rfl, rfl, _, rfl, ifd (fun c => ?_) (fun c => ?_)⟩
        · have c' : m < 0 := c
          refine none _ sa ?_
          rintro ⟨w', r', e', _, hx⟩
          cases e'
          obtain ⟨j, hj⟩ := List.mem_iff_getElem?.mp hm
          obtain ⟨b, hb⟩ := get_of (l := rest) (j := j) (by have := (List.getElem?_eq_some_iff.mp hj).1; omega)
          rcases hall j b m hb hj with ⟨_, _, h0⟩ | ⟨hno, _⟩
          · omega
          · exact hno (hx b (List.mem_of_getElem? hb))
        · have c' : ¬ m < 0 := c
          refine ⟨_, rfl, p, _, _, _, rfl, rfl, SqL.of (s _ _ (s3 _ _ u2)), at0 rfl, _, rfl, szl 2, fun q hq => ?_⟩
          refine hD w ns q D _ ⟨rest, rfl, hw2, hlen, fun j b n hj hn => ?_⟩ (sa.upd hq) upd_same ((Same.new hq) _ _ hns)
          rcases hall j b n hj hn with ⟨h1, h2, _⟩ | ⟨_, h0⟩
          · exact ⟨h1, h2⟩
          · have := hle n (List.mem_of_getElem? hn)
            omega
    · show if (!inV (.str w) [.str "pay", .str "rate", .str "owe"]) = true then _ else _
      rw [Bool.eq_false_iff.mpr hin]
      refine ifnF (iteT (none _ s12 ?_))
      rintro ⟨w', r', e', h, _⟩
      cases e'
      refine hin (in_three.mpr ?_)
      rcases h with ⟨h, _⟩ | ⟨h | h, _⟩
      · exact .inr (.inr h)
      · exact .inl h
      · exact .inr (.inl h)

theorem ok_law_alike {f : Addr} {fd : FuncData} (F : Fun K "_law_alike" "_law_alike" s_law_alike f fd) (T : Txt K mg) (D_law_whole : Df P w K mg base CX0 1 "_law_whole" ["_law_found"] (sp_law_whole T)) :
    FnOk P w K mg base CX0 2 f fd ["_law_found", "_law_due_here"] (sp_law_alike T) := by
  refine F.ok sc_law_alike (fun vs H Q E h => ?_) (fun cdv A outer s H vs Q E hr h => ?_)
  · obtain ⟨fp, dp, q, w, ns, rfl, _⟩ := h
    rfl
  · obtain ⟨fp, dp, q, w', ns, rfl, hf, hd, hq, hl, k⟩ := h
    refine ⟨_, (pss_cons (ps_if (PW.pt (pw_or (pt_not (pt_val (pe_callB call_isi (by rfl) T.b_isinstance (by decide +kernel) (pa_cons (pv 0) (pa_cons (pe_bltn (v := .ty "tuple") (u := .type "tuple") rfl T.b_tuple (by decide +kernel) rfl) pa_nil))))) (pw_or1 (pt_cmpR op_ne (pe_callB call_len_seq (by rfl) T.b_len PySem.boot_len (pa_cons (pv 0) pa_nil)) (pe_op op_add pe_int (pe_callB call_len_seq (by rfl) T.b_len PySem.boot_len (pa_cons (pe_ix ix_tup (pv 1) pe_int (fun _ _ => rfl)) pa_nil))) (nomark _))))) (pss_one (ps_ret pe_bl)) pss_nil)
            (pss_cons (ps_if (PW.pt (pw_or (pt_not (pt_val (pe_callB call_isi (by rfl) T.b_isinstance (by decide +kernel) (pa_cons (pe_ix ix_tup (pv 0) pe_int (fun _ _ => rfl)) (pa_cons (pe_bltn (v := .ty "str") (u := .type "str") rfl T.b_str (by decide +kernel) rfl) pa_nil))))) (pw_or1 (pt_cmpR op_ne (pe_ix ix_tup (pv 0) pe_int (fun _ _ => rfl)) (pe_ix ix_tup (pv 1) pe_int (fun _ _ => rfl)) (nomark _))))) (pss_one (ps_ret pe_bl)) pss_nil)
            (pss_cons (ps_for PassesOwn.never rfl (pi_range1 rfl T.b_range (pa_cons (pe_callB call_len_seq (by rfl) T.b_len PySem.boot_len (pa_cons (pe_ix ix_tup (pv 1) pe_int (fun _ _ => rfl)) pa_nil)) pa_nil)) (pg_name (i := 2) sc_law_alike.nd rfl (Or.inl rfl)) (pss_one (ps_if (PW.pt (pw_or (pt_not (pt_val (pc0 D_law_whole hr (pa_cons (pe_ix ix_tup (pv 0) (pe_op op_add (pv 2) pe_int) (fun _ _ => rfl)) pa_nil)))) (pw_or1 (pt_cmpR op_ne (pe_ix ix_tup (pv 0) (pe_op op_add (pv 2) pe_int) (fun _ _ => rfl)) (pe_ix ix_list (pe_ix ix_tup (pv 1) pe_int (fun _ _ => rfl)) (pv 2) (fun _ _ => rfl)) (nomark _))))) (pss_one (ps_ret pe_bl)) pss_nil)))
            (pss_one (ps_ret pe_bl))))), ?_⟩
    refine ⟨_, rfl, _, _, _, _, _, rfl, .ty "tuple", .base (.tup hf), kit_ty (r := true) (by decide +kernel), true, rfl, ifnT ?_⟩
    refine ⟨_, rfl, fp, _, rfl, .inr (SqT.of hf), _, rfl, dp, _, _, _, rfl, rfl, SqT.of hd, at_of (j := 1) rfl rfl, q, _, rfl, .inl (SqL.of hq), _, _, rfl, rfl, rfl, _, rfl, if_ne (fun n => absurd ?_ n) fun _ => ?_⟩
    · rw [List.length_cons, List.length_map]
      omega
    refine ⟨_, rfl, fp, _, _, _, rfl, rfl, SqT.of hf, at0 rfl, _, _, _, _, _, rfl, .ty "str", .base (.str _), kit_ty (r := true) (by decide +kernel), true, rfl, ifnT ?_⟩
    refine ⟨_, rfl, fp, _, _, _, rfl, rfl, SqT.of hf, at0 rfl, _, rfl, dp, _, _, _, rfl, rfl, SqT.of hd, at0 rfl, rfl, _, rfl, ifdn (fun n => absurd rfl n) fun _ => ?_⟩
    refine ⟨_, rfl, dp, _, _, _, rfl, rfl, SqT.of hd, at_of (j := 1) rfl rfl, q, _, rfl, .inl (SqL.of hq), _, rfl, by omega, by rw [List.length_map]; omega, for_range (lo := 0) (n := (((ns.map V.int).length : Int)).toNat)
      (fun i σ H' => H' = H ∧ ∃ v2 : Option V, σ = [some (.ref fp), some (.ref dp), v2]) ⟨rfl, none, rfl⟩ ?_ ?_⟩
    · rintro i σ H' hi ⟨rfl, v2, rfl⟩
      rw [List.length_map] at hi
      obtain ⟨n, hn⟩ := get_of (l := ns) (j := i) (by omega)
      have hf2 : (V.str w' :: ns.map V.int)[i + 1]? = some (.int n) := by rw [List.getElem?_cons_succ, List.getElem?_map, hn]; rfl
      refine ⟨_, rfl, _, rfl, _, _, rfl, rfl, fp, _, _, _, rfl, rfl, SqT.of hf, at_of (j := i + 1) (by omega) hf2, _, rfl, true, rfl, ifnT ?_⟩
      exact ⟨_, rfl, _, rfl, _, _, rfl, rfl, fp, _, _, _, rfl, rfl, SqT.of hf, at_of (j := i + 1) (by omega) hf2, _, rfl, dp, _, _, _, rfl, rfl, SqT.of hd, at_of (j := 1) rfl rfl, _, rfl, q, _, _, _, rfl, rfl, SqL.of hq, at_m (f := V.int) (by omega) hn, rfl, _, rfl, if_ne (fun m => absurd rfl m) fun _ => ⟨rfl, _, rfl⟩⟩
    · rintro σ H' ⟨rfl, v2, rfl⟩
      exact k

theorem ok_law_alone {f : Addr} {fd : FuncData} (F : Fun K "_law_alone" "_law_alone" s_law_alone f fd) (T : Txt K mg)  :
    FnE P w K mg base 1 f fd ["_law_e"] (sp_law_alone T) (.bl true) := by
  refine fnE_of F sc_law_alone rfl (fun cdv A outer s H p hr hok => ?_)
  obtain ⟨hd, D, b1, b2, b3, b4, b5, hc, hX, k1, k2, k3, k4, k5, kv, cnt⟩ := hok.1
  refine ⟨_, (pss_cons (ps_set (i := 1) sc_law_alone.nd rfl (Or.inl rfl) (pe_op op_add (pe_op op_add (pe_callTy call_int1 (by rfl) T.b_int (by decide +kernel) (pa_cons (pe_callB (call_isX (a := p.1) (oe := p.2) (cls := p.2.cls) (d := p.2.dict) ⟨rfl, rfl⟩ hok.2 (List.mem_singleton.mpr rfl)) (by rfl) T.b_isinstance (by decide +kernel) (pa_cons (pv 0) (pa_cons (pe_gref T.g_BadAmount) pa_nil))) pa_nil)) (pe_callTy call_int1 (by rfl) T.b_int (by decide +kernel) (pa_cons (pe_callB (call_isX (a := p.1) (oe := p.2) (cls := p.2.cls) (d := p.2.dict) ⟨rfl, rfl⟩ hok.2 (List.mem_singleton.mpr rfl)) (by rfl) T.b_isinstance (by decide +kernel) (pa_cons (pv 0) (pa_cons (pe_gref T.g_BadRate) pa_nil))) pa_nil))) (pe_callTy call_int1 (by rfl) T.b_int (by decide +kernel) (pa_cons (pe_callB (call_isX (a := p.1) (oe := p.2) (cls := p.2.cls) (d := p.2.dict) ⟨rfl, rfl⟩ hok.2 (List.mem_singleton.mpr rfl)) (by rfl) T.b_isinstance (by decide +kernel) (pa_cons (pv 0) (pa_cons (pe_gref T.g_BadDay) pa_nil))) pa_nil))))
            (pss_one (ps_ret (pe_and (pe_cmpR op_eq (pe_op op_add (pe_op op_add (pv 1) (pe_callTy call_int1 (by rfl) T.b_int (by decide +kernel) (pa_cons (pe_callB (call_isX (a := p.1) (oe := p.2) (cls := p.2.cls) (d := p.2.dict) ⟨rfl, rfl⟩ hok.2 (List.mem_singleton.mpr rfl)) (by rfl) T.b_isinstance (by decide +kernel) (pa_cons (pv 0) (pa_cons (pe_gref T.g_BadPay) pa_nil))) pa_nil))) (pe_callTy call_int1 (by rfl) T.b_int (by decide +kernel) (pa_cons (pe_callB (call_isX (a := p.1) (oe := p.2) (cls := p.2.cls) (d := p.2.dict) ⟨rfl, rfl⟩ hok.2 (List.mem_singleton.mpr rfl)) (by rfl) T.b_isinstance (by decide +kernel) (pa_cons (pv 0) (pa_cons (pe_gref T.g_NoNote) pa_nil))) pa_nil))) pe_int (nomark _)) (pe_one (pe_callB (call_isX (a := p.1) (oe := p.2) (cls := p.2.cls) (d := p.2.dict) ⟨rfl, rfl⟩ hok.2 (List.mem_singleton.mpr rfl)) (by rfl) T.b_isinstance (by decide +kernel) (pa_cons (pv 0) (pa_cons (pe_bltn (v := .ty "ValueError") (u := .type "ValueError") rfl T.b_ValueError (by decide +kernel) rfl) pa_nil)))))))), ?_⟩
  refine ⟨_, rfl, D, _, _, b1, hc, hd, hX, rfl, fun u r => r, k1, .inr ⟨b1, rfl, ?_⟩⟩
  refine ⟨_, rfl, D, _, _, b2, hc, hd, hX, rfl, fun u r => r, k2, .inr ⟨b2, rfl, _, _, rfl, rfl, ?_⟩⟩
  refine ⟨_, rfl, D, _, _, b3, hc, hd, hX, rfl, fun u r => r, k3, .inr ⟨b3, rfl, _, _, rfl, rfl, ?_⟩⟩
  refine ⟨_, rfl, _, rfl, D, _, _, b4, hc, hd, hX, rfl, fun u r => r, k4, .inr ⟨b4, rfl, _, _, rfl, rfl, ?_⟩⟩
  refine ⟨_, rfl, D, _, _, b5, hc, hd, hX, rfl, fun u r => r, k5, .inr ⟨b5, rfl, _, _, rfl, rfl, rfl, _, rfl, ?_⟩⟩
  rw [eqInt cnt]
  exact iteT ⟨_, rfl, D, _, _, true, hc, hd, hX, rfl, fun u r => r, kv, rfl, rfl⟩

theorem ok_law_refused {f : Addr} {fd : FuncData} (F : Fun K "_law_refused" "_law_refused" s_law_refused f fd) (T : Txt K mg) (D_read : Df P w K mg base (L2.CX P w) 2 "read" ["line"] (sp_read T)) (D_law_alone : De P w K mg base 1 "_law_alone" ["_law_e"] (sp_law_alone T) (.bl true)) :
    FnOk P w K mg base CX0 3 f fd ["_law_line"] (sp_law_refused T) := by
  refine F.ok sc_law_refused (fun vs H Q E h => ?_) (fun cdv A outer s H vs Q E hr h => ?_)
  · obtain ⟨a, rfl, _⟩ := h
    rfl
  · obtain ⟨a, rfl, hl, n3, n2, k⟩ := h
    refine ⟨_, (pss_cons (ps_set (i := 1) sc_law_refused.nd rfl (Or.inl rfl) pe_int)
            (Evl.pss_cut (ps_try_mix rfl rfl takes0 (fun W pn xe tk po => (pss_one (ps_expr (by exact (pe_callS D_read.G (hr.mono (by decide)) rfl D_read.m D_read.kp D_read.b (fun σ => passAt tk σ) (by exact (pa_cons (pv 0) pa_nil))))))) (.plain ⟨rfl, by decide, .inl T.g_NoNote⟩ (fun a oe cls d pn hz hf => (pss_one (ps_set (i := 1) sc_law_refused.nd rfl (Or.inl rfl) (pe_op op_add (pv 1) pe_int)))) .nil))
            (Evl.pss_cut (ps_try_mix rfl rfl takes0 (fun W pn xe tk po => (pss_one (ps_expr (by exact (pe_callS D_read.G (hr.mono (by decide)) rfl D_read.m D_read.kp D_read.b (fun σ => passAt tk σ) (by exact (pa_cons (pv 0) pa_nil))))))) (.named (i := 2) sc_law_refused.nd rfl rfl ⟨rfl, by decide, .inl T.g_LoanError⟩ (fun a oe cls d pn hz hf => (pss_one (ps_set (i := 1) sc_law_refused.nd rfl (Or.inl rfl) (pe_op op_add (pv 1) (pe_callTy call_int1 (by rfl) T.b_int (by decide +kernel) (pa_cons (pe_callE D_law_alone (roomH_mark hr _) List.mem_cons_self rfl (pv 2) (fun h => ⟨by rw [hz.1, hz.2]; exact h, hf⟩)) pa_nil)))))) .nil))
            (pss_one (ps_ret (pe_cmpR op_eq (pv 1) pe_int (nomark _))))))), ?_⟩
    refine ⟨fun σ H' => Same H H' ∧ σ = [some (.str a), some (.int 1), none], ?_, ?_⟩
    · exact ⟨_, rfl, a, rfl, hl, fun _ _ H1 s1 => ⟨true, T.m_NoNote_NoNote, fun _ x hx => ⟨_, rfl, _, _, rfl, rfl, s1, rfl⟩, fun z => Bool.noConfusion z⟩,
        fun w x y _ _ _ _ e h ox oy => absurd ⟨w, x, y, e, h, ox, oy⟩ n3, fun x _ _ _ e ox => absurd ⟨x, e, ox⟩ n2⟩
    rintro σ H1 ⟨s1, rfl⟩
    refine ⟨fun σ H' => Same H H' ∧ ∃ v2, σ = [some (.str a), some (.int 2), v2], ?_, ?_⟩
    · refine ⟨_, rfl, a, rfl, hl, fun _ _ H2 s2 => ⟨true, T.m_NoNote_LoanError, fun _ x hx => ?_, fun z => Bool.noConfusion z⟩,
        fun w x y _ _ _ _ e h ox oy => absurd ⟨w, x, y, e, h, ox, oy⟩ n3, fun x _ _ _ e ox => absurd ⟨x, e, ox⟩ n2⟩
      refine ⟨_, rfl, _, rfl, rfl, ⟨rfl, _, false, false, false, false, true, rfl, T.i_NoNote, T.ki_NoNote_BadAmount, T.ki_NoNote_BadRate, T.ki_NoNote_BadDay, T.ki_NoNote_BadPay, T.ki_NoNote_NoNote, T.ki_NoNote_ValueError, rfl⟩, .inr ⟨true, rfl, _, _, rfl, rfl, s1.trans s2, _, rfl⟩⟩
    · rintro σ H2 ⟨s2, v2, rfl⟩
      refine ⟨_, rfl, rfl, ?_⟩
      rw [eqInt rfl]
      exact k _ s2

theorem ok_law {f : Addr} {fd : FuncData} (F : Fun K "law" "law" s_law f fd) (T : Txt K mg) (D_law_cell_at : Df P w K mg base CX0 1 "_law_cell_at" ["_law_script", "_law_k"] (sp_law_cell_at T)) (D_law_number_by : Df P w K mg base CX0 1 "_law_number_by" ["_law_cell"] (sp_law_number_by T)) (D_shown : Df P w K mg base CX0 1 "shown" ["note"] (sp_shown T)) (D_law_altered : Df P w K mg base CX0 2 "_law_altered" ["_law_line", "_law_cell"] (sp_law_altered T)) (D_law_due : Df P w K mg base CX0 2 "_law_due" ["_law_line"] (sp_law_due T)) (D_law_refused : Df P w K mg base CX0 3 "_law_refused" ["_law_line"] (sp_law_refused T)) (D_law_alike : Df P w K mg base CX0 2 "_law_alike" ["_law_found", "_law_due_here"] (sp_law_alike T)) (D_read : Df P w K mg base (L2.CX P w) 2 "read" ["line"] (sp_read T)) :
    FnOk P w K mg base CX0 4 f fd ["_law_script"] (sp_law K) := by
  refine F.ok sc_law (fun vs H Q E h => ?_) (fun cdv A outer s H vs Q E hr h => ?_)
  · obtain ⟨a, ns, rfl, _⟩ := h
    rfl
  · obtain ⟨a, ns, rfl, hS, hlen, hbits, k⟩ := h
    refine ⟨_, (pss_cons (ps_set (i := 1) sc_law.nd rfl (Or.inl rfl) (pe_op op_mod (pc0 D_law_cell_at hr (pa_cons (pv 0) (pa_cons pe_int pa_nil))) pe_int))
            (pss_cons (ps_set (i := 2) sc_law.nd rfl (Or.inl rfl) (pe_lst (pa_cons (pc0 D_law_number_by hr (pa_cons (pc0 D_law_cell_at hr (pa_cons (pv 0) (pa_cons pe_int pa_nil))) pa_nil)) (pa_cons (pc0 D_law_number_by hr (pa_cons (pc0 D_law_cell_at hr (pa_cons (pv 0) (pa_cons pe_int pa_nil))) pa_nil)) pa_nil))))
            (pss_cons (ps_set (i := 3) sc_law.nd rfl (Or.inl rfl) (pe_tup (pa_cons pe_str (pa_cons (pe_ix ix_list (pv 2) pe_int (fun _ _ => rfl)) pa_nil))))
            (pss_cons (ps_set (i := 4) sc_law.nd rfl (Or.inl rfl) (pe_op op_add_str pe_str (pe_callTy call_str_int (by rfl) T.b_str (by decide +kernel) (pa_cons (pe_ix ix_list (pv 2) pe_int (fun _ _ => rfl)) pa_nil))))
            (Evl.pss_cut (ps_if (pt_cmpR op_gt (pv 1) pe_int (nomark _)) (pss_cons (ps_set (i := 5) sc_law.nd rfl (Or.inl rfl) (pe_ix ix_list (pe_lst (pa_cons pe_str (pa_cons pe_str pa_nil))) (pe_op op_sub (pv 1) pe_int) (fun _ _ => rfl)))
            (pss_cons (ps_set (i := 3) sc_law.nd rfl (Or.inl rfl) (pe_tup (pa_cons (pv 5) (pa_cons (pe_ix ix_list (pv 2) pe_int (fun _ _ => rfl)) (pa_cons (pe_ix ix_list (pv 2) pe_int (fun _ _ => rfl)) pa_nil)))))
            (pss_one (ps_set (i := 4) sc_law.nd rfl (Or.inl rfl) (pe_op op_add_str (pe_op op_add_str (pe_op op_add_str (pe_op op_add_str (pv 5) pe_str) (pe_callTy call_str_int (by rfl) T.b_str (by decide +kernel) (pa_cons (pe_ix ix_list (pv 2) pe_int (fun _ _ => rfl)) pa_nil))) pe_str) (pe_callTy call_str_int (by rfl) T.b_str (by decide +kernel) (pa_cons (pe_ix ix_list (pv 2) pe_int (fun _ _ => rfl)) pa_nil))))))) pss_nil)
            (pss_cons (ps_set (i := 6) sc_law.nd rfl (Or.inl rfl) (pc0 D_shown hr (pa_cons (pv 3) pa_nil)))
            (pss_cons (ps_if (PW.pt (pw_or (pt_not (pt_val (pe_callB call_isi (by rfl) T.b_isinstance (by decide +kernel) (pa_cons (pv 6) (pa_cons (pe_bltn (v := .ty "str") (u := .type "str") rfl T.b_str (by decide +kernel) rfl) pa_nil))))) (pw_or1 (pt_cmpR op_ne (pv 6) (pv 4) (nomark _))))) (pss_one (ps_ret pe_bl)) pss_nil)
            (Evl.pss_cut (ps_if (pt_cmpR op_eq (pe_op op_mod (pc0 D_law_cell_at hr (pa_cons (pv 0) (pa_cons pe_int pa_nil))) pe_int) pe_int (nomark _)) (pss_one (ps_set (i := 4) sc_law.nd rfl (Or.inl rfl) (pc0 D_law_altered hr (pa_cons (pv 4) (pa_cons (pe_op op_fdiv (pc0 D_law_cell_at hr (pa_cons (pv 0) (pa_cons pe_int pa_nil))) pe_int) pa_nil))))) pss_nil)
            (pss_cons (ps_set (i := 7) sc_law.nd rfl (Or.inl rfl) (pc0 D_law_due hr (pa_cons (pv 4) pa_nil)))
            (pss_cons (ps_if (pt_cmpR op_isN (pv 7) pe_non (nomark _)) (pss_one (ps_ret (pc0 D_law_refused hr (pa_cons (pv 4) pa_nil)))) pss_nil)
            (pss_one (ps_ret (pc0 D_law_alike hr (pa_cons (pcL D_read hr (pa_cons (pv 4) pa_nil)) (pa_cons (pv 7) pa_nil))))))))))))))), ?_⟩
    refine ⟨_, rfl, a, ns, _, rfl, hS, by decide, _, _, rfl, rfl, md, ?_⟩
    refine ⟨_, rfl, a, ns, _, rfl, hS, by decide, _, rfl, cellAt_bits hbits 1, fun x x0 x1 => ⟨_, rfl, a, ns, _, rfl, hS, by decide, _, rfl, cellAt_bits hbits 2, fun y y0 y1 => ⟨szl 2, fun nl hnl => ?_⟩⟩⟩
    have s1 : Same H (L2.upd H nl (.lst [.int x, .int y])) := Same.new hnl
    have u1 : (L2.upd H nl (.lst [.int x, .int y])) nl = some (.lst [.int x, .int y]) := upd_same
    show gName 2 (.ref nl) _ (L2.upd H nl (.lst [.int x, .int y])) _
    generalize L2.upd H nl (.lst [.int x, .int y]) = H1 at s1 u1 ⊢
    have hlg : ∀ n : Int, 0 ≤ n → n < 10 ^ 30 → n.natAbs.log2 < 1920 := fun n n0 n1 => by
      have h1 : n.natAbs < 2 ^ 1920 := by
        have h2 : n.natAbs < 10 ^ 30 := by omega
        exact Nat.lt_of_lt_of_le h2 (by decide +kernel)
      by_cases h0 : n.natAbs = 0
      · rw [h0]; decide
      · exact (Nat.log2_lt h0).mpr h1
    have tl : ∀ n : Int, 0 ≤ n → n < 10 ^ 30 → (txt n).length ≤ 30 := fun n n0 n1 => PyProof.Rows.toString_length_le n0 (by decide) n1
    refine ⟨_, rfl, nl, _, _, _, rfl, rfl, SqL.of u1, at0 rfl, szl 2, fun np hnp => ?_⟩
    have s2 : Same H1 (L2.upd H1 np (.tup [.str "owe", .int x])) := Same.new hnp
    have u2 : (L2.upd H1 np (.tup [.str "owe", .int x])) np = some (.tup [.str "owe", .int x]) := upd_same
    show gName 3 (.ref np) _ (L2.upd H1 np (.tup [.str "owe", .int x])) _
    generalize L2.upd H1 np (.tup [.str "owe", .int x]) = H2 at s2 u2 ⊢
    have u1b := s2 _ _ u1
    have tx := tl x x0 x1
    have ty := tl y y0 y1
    refine ⟨_, rfl, nl, _, _, _, rfl, rfl, SqL.of u1b, at0 rfl, _, rfl, hlg x x0 x1, _, _, rfl, rfl, sz_small (by show 4 + (txt x).length ≤ 100000; omega), ?_⟩
    refine ⟨fun σ H' => Same H H' ∧ ∃ (np : Addr) (w : Str) (ks : List Int) (v5 : Option V), H' np = some (.tup (.str w :: ks.map V.int)) ∧ (∀ n ∈ ks, 0 ≤ n ∧ n < 10 ^ 30) ∧ 1 ≤ ks.length ∧ ks.length ≤ 2 ∧ (w = "owe" ∨ w = "pay" ∨ w = "rate") ∧
      σ = [some (.ref a), some (.int (cellAt ns 0 % 3)), some (.ref nl), some (.ref np), some (.str (Txt.join " " (w :: ks.map txt))), v5, none, none], ?_, ?_⟩
    · refine ⟨_, rfl, _, _, rfl, rfl, _, rfl, ifd (fun c => ?_) (fun c => ?_)⟩
      · have c' : cellAt ns 0 % 3 > 0 := c
        obtain ⟨j, ej⟩ : ∃ j : Nat, cellAt ns 0 % 3 - 1 = (j : Int) := ⟨(cellAt ns 0 % 3 - 1).toNat, by omega⟩
        have hj : j < 2 := by omega
        obtain ⟨w, hw, hw2⟩ : ∃ w : Str, ([.str "pay", .str "rate"] : List V)[j]? = some (.str w) ∧ (w = "pay" ∨ w = "rate") := by
          match j, hj with
          | 0, _ => exact ⟨_, rfl, .inl rfl⟩
          | 1, _ => exact ⟨_, rfl, .inr rfl⟩
        have hwl : w.length ≤ 4 := by rcases hw2 with h | h <;> rw [h] <;> decide
        have hsl : (" " : Str).length = 1 := by decide +kernel
        refine ⟨szl 2, fun wl hwl2 => ?_⟩
        have s3 : Same H2 (L2.upd H2 wl (.lst [.str "pay", .str "rate"])) := Same.new hwl2
        have u3 := s3 _ _ u1b
        refine ⟨_, rfl, _, _, rfl, rfl, wl, _, _, _, rfl, rfl, SqL.of upd_same, at_of ej hw, ?_⟩
        show gName 5 (.str w) _ (L2.upd H2 wl (.lst [.str "pay", .str "rate"])) _
        generalize L2.upd H2 wl (.lst [.str "pay", .str "rate"]) = H3 at s3 u3 ⊢
        refine ⟨_, rfl, _, rfl, nl, _, _, _, rfl, rfl, SqL.of u3, at0 rfl, _, rfl, nl, _, _, _, rfl, rfl, SqL.of u3, at_of (j := 1) rfl rfl, szl 3, fun nq hnq => ?_⟩
        have s4 : Same H3 (L2.upd H3 nq (.tup [.str w, .int x, .int y])) := Same.new hnq
        have u4 : (L2.upd H3 nq (.tup [.str w, .int x, .int y])) nq = some (.tup [.str w, .int x, .int y]) := upd_same
        have u3b := s4 _ _ u3
        refine ⟨_, rfl, _, _, rfl, rfl, sz_small (by rw [hsl]; omega), _, rfl, nl, _, _, _, rfl, rfl, SqL.of u3b, at0 rfl, _, rfl, hlg x x0 x1, _, _, rfl, rfl, sz_small (by rw [app_len, hsl]; show w.length + 1 + (txt x).length ≤ 100000; omega), _, _, rfl, rfl, sz_small (by rw [app_len, app_len, hsl]; show w.length + 1 + (txt x).length + 1 ≤ 100000; omega), _, rfl, nl, _, _, _, rfl, rfl, SqL.of u3b, at_of (j := 1) rfl rfl, _, rfl, hlg y y0 y1, _, _, rfl, rfl, sz_small (by rw [app_len, app_len, app_len, hsl]; show w.length + 1 + (txt x).length + 1 + (txt y).length ≤ 100000; omega), ?_⟩
        refine ⟨((s1.trans s2).trans s3).trans s4, nq, w, [x, y], some (.str w), u4, fun n hn => ?_, (by show 1 ≤ 2; decide), (by show 2 ≤ 2; decide), .inr hw2, ?_⟩
        · rcases List.mem_cons.mp hn with e | e
          · rw [e]; exact ⟨x0, x1⟩
          · obtain rfl : n = y := by simpa using e
            exact ⟨y0, y1⟩
        · rw [show (w :: ([x, y] : List Int).map txt) = [w, txt x, txt y] from rfl, join3]
          rfl
      · refine ⟨s1.trans s2, np, "owe", [x], none, u2, fun n hn => ?_, (by show 1 ≤ 1; decide), (by show 1 ≤ 2; decide), .inl rfl, ?_⟩
        · obtain rfl : n = x := by simpa using hn
          exact ⟨x0, x1⟩
        · rw [show (("owe" : Str) :: ([x] : List Int).map txt) = [("owe" : Str), txt x] from rfl, join2, show (("owe" : Str) ++ " ") = "owe " by decide +kernel]
          rfl
    rintro σ H3 ⟨s3, np2, w, ks, v5, hnp2, hks, l1, l2, hw, rfl⟩
    have hwl : w.length ≤ 4 := by rcases hw with h | h | h <;> rw [h] <;> decide
    refine ⟨_, rfl, np2, w, ks, rfl, hnp2, hks, l1, l2, by omega, fun H4 s4 => ?_⟩
    have s34 := s3.trans s4
    have hS4 := s34.seq hS
    refine ⟨_, rfl, _, _, _, _, _, rfl, .ty "str", .base (.str _), kit_ty (r := true) (by decide +kernel), true, rfl, ifnT ?_⟩
    refine ⟨_, rfl, _, rfl, rfl, _, rfl, ifdn (fun n => absurd rfl n) fun _ => ?_⟩
    have hfree : ∀ p ∈ w :: ks.map txt, 32 ∉ TL.tl p := by
      intro p hp
      rcases List.mem_cons.mp hp with e | e
      · rw [e]
        rcases hw with h | h | h <;> rw [h] <;> decide +kernel
      · obtain ⟨n, hn, rfl⟩ := List.mem_map.mp e
        have h0 := (hks n hn).1
        obtain ⟨m, rfl⟩ : ∃ m : Nat, n = (m : Int) := ⟨n.toNat, by omega⟩
        have e2 : TL.tl (txt (m : Int)) = TL.numL m := TL.tl_num m
        rw [e2]
        exact TL.numL_free (.inl (by decide))
    have hsp : Txt.split (Txt.join " " (w :: ks.map txt)) " " = w :: ks.map txt := TL.split_join (s := 32) (S := []) (by decide +kernel) (by decide +kernel) (by simp) hfree
    have hjl : 1 ≤ (Txt.join " " (w :: ks.map txt)).length ∧ (Txt.join " " (w :: ks.map txt)).length ≤ 200 := by
      have hsl : (" " : Str).length = 1 := by decide +kernel
      match ks, l1, l2, hks with
      | [n1], _, _, hks =>
        have h1 := tl n1 (hks n1 (by simp)).1 (hks n1 (by simp)).2
        rw [show (w :: ([n1] : List Int).map txt) = [w, txt n1] from rfl, join2, app_len, app_len, hsl]
        omega
      | [n1, n2], _, _, hks =>
        have h1 := tl n1 (hks n1 (by simp)).1 (hks n1 (by simp)).2
        have h2 := tl n2 (hks n2 (by simp)).1 (hks n2 (by simp)).2
        rw [show (w :: ([n1, n2] : List Int).map txt) = [w, txt n1, txt n2] from rfl, join3, app_len, app_len, app_len, app_len, hsl]
        omega
    refine ⟨fun σ H' => Same H H' ∧ ∃ line : Str, line.length ≤ 100000 ∧ σ = [some (.ref a), some (.int (cellAt ns 0 % 3)), some (.ref nl), some (.ref np2), some (.str line), v5, some (.str (Txt.join " " (w :: ks.map txt))), none], ?_, ?_⟩
    · refine ⟨_, rfl, a, ns, _, rfl, hS4, by decide, _, _, rfl, rfl, md, rfl, _, rfl, if_eq (fun _ => ?_) (fun _ => ⟨s34, _, by omega, rfl⟩)⟩
      exact ⟨_, rfl, _, rfl, a, ns, _, rfl, hS4, by decide, _, _, rfl, rfl, dv, _, _, rfl, hjl.1, hjl.2, by rw [hsp, List.length_cons, List.length_map]; omega, fun r H5 hr s5 => ⟨s34.trans s5, r, by omega, rfl⟩⟩
    rintro σ H5 ⟨s5, line, hl, rfl⟩
    refine ⟨_, rfl, line, rfl, hl, fun n3 n2 H6 s6 => ?_, fun w2 ks2 p q H6 hdue s6 hp hq => ?_⟩
    · refine ⟨_, rfl, rfl, _, rfl, ifd (fun _ => ?_) (fun n => absurd rfl n)⟩
      exact ⟨_, rfl, line, rfl, hl, n3, n2, fun H7 s7 => k _⟩
    · refine ⟨_, rfl, rfl, _, rfl, ifd (fun n => absurd n (by intro y; cases y)) (fun _ => ?_)⟩
      obtain ⟨rest, ews, hw2, hln, hall⟩ := hdue
      rcases hw2 with ⟨hw2, hl2⟩ | ⟨hw2, hl2⟩
      · obtain ⟨x1, rfl⟩ : ∃ x1, rest = [x1] := by
          match rest, hl2 with
          | [x1], _ => exact ⟨x1, rfl⟩
        obtain ⟨m1, rfl⟩ : ∃ m1, ks2 = [m1] := by
          match ks2, hln with
          | [m1], _ => exact ⟨m1, rfl⟩
        have h1 := hall 0 x1 m1 rfl rfl
        refine ⟨_, rfl, line, rfl, hl, fun _ n2 => absurd ⟨x1, by rw [ews, hw2], h1.1⟩ n2, fun w' x' y' m n p' H' e => ?_, fun x' m p' H' e ox em m0 s hp' => ?_⟩
        · rw [ews] at e
          cases e
        · rw [ews] at e
          cases e
          rw [h1.2] at em
          cases em
          exact ⟨_, rfl, p', p, q, _, [m1], rfl, hp', s _ _ hp, s _ _ hq, by simp, k _⟩
      · obtain ⟨x1, x2, rfl⟩ : ∃ x1 x2, rest = [x1, x2] := by
          match rest, hl2 with
          | [x1, x2], _ => exact ⟨x1, x2, rfl⟩
        obtain ⟨m1, m2, rfl⟩ : ∃ m1 m2, ks2 = [m1, m2] := by
          match ks2, hln with
          | [m1, m2], _ => exact ⟨m1, m2, rfl⟩
        have h1 := hall 0 x1 m1 rfl rfl
        have h2 := hall 1 x2 m2 rfl rfl
        refine ⟨_, rfl, line, rfl, hl, fun n3 _ => absurd ⟨w2, x1, x2, ews, hw2, h1.1, h2.1⟩ n3, fun w' x' y' m n p' H' e hw' ox oy em en m0 n0 s hp' => ?_, fun x' m p' H' e => ?_⟩
        · rw [ews] at e
          cases e
          rw [h1.2] at em
          cases em
          rw [h2.2] at en
          cases en
          exact ⟨_, rfl, p', p, q, _, [m1, m2], rfl, hp', s _ _ hp, s _ _ hq, by simp, k _⟩
        · rw [ews] at e
          cases e

end
theorem all_mk {l : PySem.W.OpenLaw} {w : World} {K : PySem.W.Frag} {h : Heap} {mg : Str → Option Value} (X : K.In h) (G : h.Ns mainGlobals mg) {fa a_LoanError a_BadAmount a_BadRate a_BadDay a_BadPay a_NoNote f_number_of f_read f_shown f_law_cell_at f_law_whole f_law_number_by f_law_one_sign f_law_altered f_law_number f_law_due f_law_alike f_law_alone f_law_refused f_law : Addr}
    {od_number_of an_number_of : Option Addr} {sl_number_of : Array (Option Value)} {oc_number_of kV_number_of dc_number_of pm_number_of cd_number_of ct_number_of : Value}
    {od_read an_read : Option Addr} {sl_read : Array (Option Value)} {oc_read kV_read dc_read pm_read cd_read ct_read : Value}
    {od_shown an_shown : Option Addr} {sl_shown : Array (Option Value)} {oc_shown kV_shown dc_shown pm_shown cd_shown ct_shown : Value}
    {od_law_cell_at an_law_cell_at : Option Addr} {sl_law_cell_at : Array (Option Value)} {oc_law_cell_at kV_law_cell_at dc_law_cell_at pm_law_cell_at cd_law_cell_at ct_law_cell_at : Value}
    {od_law_whole an_law_whole : Option Addr} {sl_law_whole : Array (Option Value)} {oc_law_whole kV_law_whole dc_law_whole pm_law_whole cd_law_whole ct_law_whole : Value}
    {od_law_number_by an_law_number_by : Option Addr} {sl_law_number_by : Array (Option Value)} {oc_law_number_by kV_law_number_by dc_law_number_by pm_law_number_by cd_law_number_by ct_law_number_by : Value}
    {od_law_one_sign an_law_one_sign : Option Addr} {sl_law_one_sign : Array (Option Value)} {oc_law_one_sign kV_law_one_sign dc_law_one_sign pm_law_one_sign cd_law_one_sign ct_law_one_sign : Value}
    {od_law_altered an_law_altered : Option Addr} {sl_law_altered : Array (Option Value)} {oc_law_altered kV_law_altered dc_law_altered pm_law_altered cd_law_altered ct_law_altered : Value}
    {od_law_number an_law_number : Option Addr} {sl_law_number : Array (Option Value)} {oc_law_number kV_law_number dc_law_number pm_law_number cd_law_number ct_law_number : Value}
    {od_law_due an_law_due : Option Addr} {sl_law_due : Array (Option Value)} {oc_law_due kV_law_due dc_law_due pm_law_due cd_law_due ct_law_due : Value}
    {od_law_alike an_law_alike : Option Addr} {sl_law_alike : Array (Option Value)} {oc_law_alike kV_law_alike dc_law_alike pm_law_alike cd_law_alike ct_law_alike : Value}
    {od_law_alone an_law_alone : Option Addr} {sl_law_alone : Array (Option Value)} {oc_law_alone kV_law_alone dc_law_alone pm_law_alone cd_law_alone ct_law_alone : Value}
    {od_law_refused an_law_refused : Option Addr} {sl_law_refused : Array (Option Value)} {oc_law_refused kV_law_refused dc_law_refused pm_law_refused cd_law_refused ct_law_refused : Value}
    {od_law an_law : Option Addr} {sl_law : Array (Option Value)} {oc_law kV_law dc_law pm_law cd_law ct_law : Value}
    {tk_FIGURES : Tok}
    {tk_MOST_FIGURES : Tok} (hfa : mg "law" = some (.ref fa))
    (z_tuple : PySem.W.nsIn K mainGlobals "tuple" = some none)
    (z_len : PySem.W.nsIn K mainGlobals "len" = some none)
    (z_min : PySem.W.nsIn K mainGlobals "min" = some none)
    (z_int : PySem.W.nsIn K mainGlobals "int" = some none)
    (z_str : PySem.W.nsIn K mainGlobals "str" = some none)
    (z_bool : PySem.W.nsIn K mainGlobals "bool" = some none)
    (z_range : PySem.W.nsIn K mainGlobals "range" = some none)
    (z_isinstance : PySem.W.nsIn K mainGlobals "isinstance" = some none)
    (z_ValueError : PySem.W.nsIn K mainGlobals "ValueError" = some none)
    (q_FIGURES : PySem.W.nsIn K mainGlobals "FIGURES" = some (some (.str "0123456789" tk_FIGURES)))
    (q_MOST_FIGURES : PySem.W.nsIn K mainGlobals "MOST_FIGURES" = some (some (.int 30 tk_MOST_FIGURES)))
    (ac_LoanError : PySem.W.nsIn K mainGlobals "LoanError" = some (some (.ref a_LoanError)))
    (xc_LoanError : PySem.W.excIn K a_LoanError [.type "ValueError", .type "Exception", .type "BaseException", .type "object"] "ValueError.__new__" = true)
    (xk_LoanError : PySem.W.keepIn K (.ref a_LoanError) = true)
    (xs_LoanError : PySem.W.subIn K (.ref a_LoanError) (.type "BaseException") = some true)
    (xt_LoanError : PySem.W.typeIn K (.ref a_LoanError) = some (.type "type"))
    (ac_BadAmount : PySem.W.nsIn K mainGlobals "BadAmount" = some (some (.ref a_BadAmount)))
    (xc_BadAmount : PySem.W.excIn K a_BadAmount [.type "ValueError", .type "Exception", .type "BaseException", .type "object"] "ValueError.__new__" = true)
    (xk_BadAmount : PySem.W.keepIn K (.ref a_BadAmount) = true)
    (xs_BadAmount : PySem.W.subIn K (.ref a_BadAmount) (.type "BaseException") = some true)
    (xt_BadAmount : PySem.W.typeIn K (.ref a_BadAmount) = some (.type "type"))
    (ac_BadRate : PySem.W.nsIn K mainGlobals "BadRate" = some (some (.ref a_BadRate)))
    (xc_BadRate : PySem.W.excIn K a_BadRate [.type "ValueError", .type "Exception", .type "BaseException", .type "object"] "ValueError.__new__" = true)
    (xk_BadRate : PySem.W.keepIn K (.ref a_BadRate) = true)
    (xs_BadRate : PySem.W.subIn K (.ref a_BadRate) (.type "BaseException") = some true)
    (xt_BadRate : PySem.W.typeIn K (.ref a_BadRate) = some (.type "type"))
    (ac_BadDay : PySem.W.nsIn K mainGlobals "BadDay" = some (some (.ref a_BadDay)))
    (xc_BadDay : PySem.W.excIn K a_BadDay [.type "ValueError", .type "Exception", .type "BaseException", .type "object"] "ValueError.__new__" = true)
    (xk_BadDay : PySem.W.keepIn K (.ref a_BadDay) = true)
    (xs_BadDay : PySem.W.subIn K (.ref a_BadDay) (.type "BaseException") = some true)
    (xt_BadDay : PySem.W.typeIn K (.ref a_BadDay) = some (.type "type"))
    (ac_BadPay : PySem.W.nsIn K mainGlobals "BadPay" = some (some (.ref a_BadPay)))
    (xc_BadPay : PySem.W.excIn K a_BadPay [.type "ValueError", .type "Exception", .type "BaseException", .type "object"] "ValueError.__new__" = true)
    (xk_BadPay : PySem.W.keepIn K (.ref a_BadPay) = true)
    (xs_BadPay : PySem.W.subIn K (.ref a_BadPay) (.type "BaseException") = some true)
    (xt_BadPay : PySem.W.typeIn K (.ref a_BadPay) = some (.type "type"))
    (ac_NoNote : PySem.W.nsIn K mainGlobals "NoNote" = some (some (.ref a_NoNote)))
    (xc_NoNote : PySem.W.excIn K a_NoNote [.type "ValueError", .type "Exception", .type "BaseException", .type "object"] "ValueError.__new__" = true)
    (xk_NoNote : PySem.W.keepIn K (.ref a_NoNote) = true)
    (xs_NoNote : PySem.W.subIn K (.ref a_NoNote) (.type "BaseException") = some true)
    (xt_NoNote : PySem.W.typeIn K (.ref a_NoNote) = some (.type "type"))
    (xg_NoNote : PySem.W.findIn K (.ref a_NoNote) "__getattribute__" = some (some (.builtin "BaseException.__getattribute__")))
    (xq_NoNote : PySem.W.findIn K (.ref a_NoNote) "__getattr__" = some none)
    (xb_NoNote : PySem.W.subIn K (.ref a_NoNote) (.type "BaseException") = some true)
    (xd_NoNote : PySem.W.hasDictIn K a_NoNote = true)
    (xa_NoNote : PySem.W.findIn K (.ref a_NoNote) "__class__" = some (some (.builtin "object.__class__")))
    (xn_NoNote : PySem.W.specialIn K (.builtin "object.__class__") "__get__" = some (some (.builtin "getset_descriptor.__get__")))
    (xp_NoNote : PySem.W.takesIn K (.builtin "object.__class__") = some true)
    (xm_NoNote : PySem.W.mroIn K a_NoNote (.type "object") = some true)
    (sv_NoNote : PySem.W.subIn K (.ref a_NoNote) (.type "ValueError") = some true)
    (sb_NoNote_BadDay : PySem.W.subIn K (.ref a_NoNote) (.ref a_BadDay) = some false)
    (sb_BadDay_BadDay : PySem.W.subIn K (.ref a_BadDay) (.ref a_BadDay) = some true)
    (sb_NoNote_BadAmount : PySem.W.subIn K (.ref a_NoNote) (.ref a_BadAmount) = some false)
    (sb_BadAmount_BadAmount : PySem.W.subIn K (.ref a_BadAmount) (.ref a_BadAmount) = some true)
    (sb_NoNote_BadRate : PySem.W.subIn K (.ref a_NoNote) (.ref a_BadRate) = some false)
    (sb_BadRate_BadRate : PySem.W.subIn K (.ref a_BadRate) (.ref a_BadRate) = some true)
    (sb_NoNote_NoNote : PySem.W.subIn K (.ref a_NoNote) (.ref a_NoNote) = some true)
    (sb_NoNote_BadPay : PySem.W.subIn K (.ref a_NoNote) (.ref a_BadPay) = some false)
    (sb_BadPay_BadPay : PySem.W.subIn K (.ref a_BadPay) (.ref a_BadPay) = some true)
    (sb_NoNote_LoanError : PySem.W.subIn K (.ref a_NoNote) (.ref a_LoanError) = some true)
    (dd_BadAmount : PySem.W.hasDictIn K a_BadAmount = true)
    (dd_BadDay : PySem.W.hasDictIn K a_BadDay = true)
    (dd_BadPay : PySem.W.hasDictIn K a_BadPay = true)
    (dd_BadRate : PySem.W.hasDictIn K a_BadRate = true)
    (dd_LoanError : PySem.W.hasDictIn K a_LoanError = true)
    (dd_NoNote : PySem.W.hasDictIn K a_NoNote = true)
    (at_number_of : PySem.W.nsIn K mainGlobals "number_of" = some (some (.ref f_number_of)))
    (lk_number_of : K.lookup f_number_of = some ⟨oc_number_of, od_number_of, .func (PySem.W.fnOf "number_of" "number_of" (defArgs s_number_of) (defBody s_number_of) (defScope s_number_of) .none kV_number_of dc_number_of pm_number_of an_number_of cd_number_of ct_number_of), sl_number_of⟩)
    (cd_number_of_in : PySem.W.codeIn K cd_number_of "number_of" = true)
    (kp_number_of : PySem.W.keepIn K (.ref f_number_of) = true)
    (at_read : PySem.W.nsIn K mainGlobals "read" = some (some (.ref f_read)))
    (lk_read : K.lookup f_read = some ⟨oc_read, od_read, .func (PySem.W.fnOf "read" "read" (defArgs s_read) (defBody s_read) (defScope s_read) .none kV_read dc_read pm_read an_read cd_read ct_read), sl_read⟩)
    (cd_read_in : PySem.W.codeIn K cd_read "read" = true)
    (kp_read : PySem.W.keepIn K (.ref f_read) = true)
    (at_shown : PySem.W.nsIn K mainGlobals "shown" = some (some (.ref f_shown)))
    (lk_shown : K.lookup f_shown = some ⟨oc_shown, od_shown, .func (PySem.W.fnOf "shown" "shown" (defArgs s_shown) (defBody s_shown) (defScope s_shown) .none kV_shown dc_shown pm_shown an_shown cd_shown ct_shown), sl_shown⟩)
    (cd_shown_in : PySem.W.codeIn K cd_shown "shown" = true)
    (kp_shown : PySem.W.keepIn K (.ref f_shown) = true)
    (at_law_cell_at : PySem.W.nsIn K mainGlobals "_law_cell_at" = some (some (.ref f_law_cell_at)))
    (lk_law_cell_at : K.lookup f_law_cell_at = some ⟨oc_law_cell_at, od_law_cell_at, .func (PySem.W.fnOf "_law_cell_at" "_law_cell_at" (defArgs s_law_cell_at) (defBody s_law_cell_at) (defScope s_law_cell_at) .none kV_law_cell_at dc_law_cell_at pm_law_cell_at an_law_cell_at cd_law_cell_at ct_law_cell_at), sl_law_cell_at⟩)
    (cd_law_cell_at_in : PySem.W.codeIn K cd_law_cell_at "_law_cell_at" = true)
    (kp_law_cell_at : PySem.W.keepIn K (.ref f_law_cell_at) = true)
    (at_law_whole : PySem.W.nsIn K mainGlobals "_law_whole" = some (some (.ref f_law_whole)))
    (lk_law_whole : K.lookup f_law_whole = some ⟨oc_law_whole, od_law_whole, .func (PySem.W.fnOf "_law_whole" "_law_whole" (defArgs s_law_whole) (defBody s_law_whole) (defScope s_law_whole) .none kV_law_whole dc_law_whole pm_law_whole an_law_whole cd_law_whole ct_law_whole), sl_law_whole⟩)
    (cd_law_whole_in : PySem.W.codeIn K cd_law_whole "_law_whole" = true)
    (kp_law_whole : PySem.W.keepIn K (.ref f_law_whole) = true)
    (at_law_number_by : PySem.W.nsIn K mainGlobals "_law_number_by" = some (some (.ref f_law_number_by)))
    (lk_law_number_by : K.lookup f_law_number_by = some ⟨oc_law_number_by, od_law_number_by, .func (PySem.W.fnOf "_law_number_by" "_law_number_by" (defArgs s_law_number_by) (defBody s_law_number_by) (defScope s_law_number_by) .none kV_law_number_by dc_law_number_by pm_law_number_by an_law_number_by cd_law_number_by ct_law_number_by), sl_law_number_by⟩)
    (cd_law_number_by_in : PySem.W.codeIn K cd_law_number_by "_law_number_by" = true)
    (kp_law_number_by : PySem.W.keepIn K (.ref f_law_number_by) = true)
    (at_law_one_sign : PySem.W.nsIn K mainGlobals "_law_one_sign" = some (some (.ref f_law_one_sign)))
    (lk_law_one_sign : K.lookup f_law_one_sign = some ⟨oc_law_one_sign, od_law_one_sign, .func (PySem.W.fnOf "_law_one_sign" "_law_one_sign" (defArgs s_law_one_sign) (defBody s_law_one_sign) (defScope s_law_one_sign) .none kV_law_one_sign dc_law_one_sign pm_law_one_sign an_law_one_sign cd_law_one_sign ct_law_one_sign), sl_law_one_sign⟩)
    (cd_law_one_sign_in : PySem.W.codeIn K cd_law_one_sign "_law_one_sign" = true)
    (kp_law_one_sign : PySem.W.keepIn K (.ref f_law_one_sign) = true)
    (at_law_altered : PySem.W.nsIn K mainGlobals "_law_altered" = some (some (.ref f_law_altered)))
    (lk_law_altered : K.lookup f_law_altered = some ⟨oc_law_altered, od_law_altered, .func (PySem.W.fnOf "_law_altered" "_law_altered" (defArgs s_law_altered) (defBody s_law_altered) (defScope s_law_altered) .none kV_law_altered dc_law_altered pm_law_altered an_law_altered cd_law_altered ct_law_altered), sl_law_altered⟩)
    (cd_law_altered_in : PySem.W.codeIn K cd_law_altered "_law_altered" = true)
    (kp_law_altered : PySem.W.keepIn K (.ref f_law_altered) = true)
    (at_law_number : PySem.W.nsIn K mainGlobals "_law_number" = some (some (.ref f_law_number)))
    (lk_law_number : K.lookup f_law_number = some ⟨oc_law_number, od_law_number, .func (PySem.W.fnOf "_law_number" "_law_number" (defArgs s_law_number) (defBody s_law_number) (defScope s_law_number) .none kV_law_number dc_law_number pm_law_number an_law_number cd_law_number ct_law_number), sl_law_number⟩)
    (cd_law_number_in : PySem.W.codeIn K cd_law_number "_law_number" = true)
    (kp_law_number : PySem.W.keepIn K (.ref f_law_number) = true)
    (at_law_due : PySem.W.nsIn K mainGlobals "_law_due" = some (some (.ref f_law_due)))
    (lk_law_due : K.lookup f_law_due = some ⟨oc_law_due, od_law_due, .func (PySem.W.fnOf "_law_due" "_law_due" (defArgs s_law_due) (defBody s_law_due) (defScope s_law_due) .none kV_law_due dc_law_due pm_law_due an_law_due cd_law_due ct_law_due), sl_law_due⟩)
    (cd_law_due_in : PySem.W.codeIn K cd_law_due "_law_due" = true)
    (kp_law_due : PySem.W.keepIn K (.ref f_law_due) = true)
    (at_law_alike : PySem.W.nsIn K mainGlobals "_law_alike" = some (some (.ref f_law_alike)))
    (lk_law_alike : K.lookup f_law_alike = some ⟨oc_law_alike, od_law_alike, .func (PySem.W.fnOf "_law_alike" "_law_alike" (defArgs s_law_alike) (defBody s_law_alike) (defScope s_law_alike) .none kV_law_alike dc_law_alike pm_law_alike an_law_alike cd_law_alike ct_law_alike), sl_law_alike⟩)
    (cd_law_alike_in : PySem.W.codeIn K cd_law_alike "_law_alike" = true)
    (kp_law_alike : PySem.W.keepIn K (.ref f_law_alike) = true)
    (at_law_alone : PySem.W.nsIn K mainGlobals "_law_alone" = some (some (.ref f_law_alone)))
    (lk_law_alone : K.lookup f_law_alone = some ⟨oc_law_alone, od_law_alone, .func (PySem.W.fnOf "_law_alone" "_law_alone" (defArgs s_law_alone) (defBody s_law_alone) (defScope s_law_alone) .none kV_law_alone dc_law_alone pm_law_alone an_law_alone cd_law_alone ct_law_alone), sl_law_alone⟩)
    (cd_law_alone_in : PySem.W.codeIn K cd_law_alone "_law_alone" = true)
    (kp_law_alone : PySem.W.keepIn K (.ref f_law_alone) = true)
    (at_law_refused : PySem.W.nsIn K mainGlobals "_law_refused" = some (some (.ref f_law_refused)))
    (lk_law_refused : K.lookup f_law_refused = some ⟨oc_law_refused, od_law_refused, .func (PySem.W.fnOf "_law_refused" "_law_refused" (defArgs s_law_refused) (defBody s_law_refused) (defScope s_law_refused) .none kV_law_refused dc_law_refused pm_law_refused an_law_refused cd_law_refused ct_law_refused), sl_law_refused⟩)
    (cd_law_refused_in : PySem.W.codeIn K cd_law_refused "_law_refused" = true)
    (kp_law_refused : PySem.W.keepIn K (.ref f_law_refused) = true)
    (at_law : PySem.W.nsIn K mainGlobals "law" = some (some (.ref f_law)))
    (lk_law : K.lookup f_law = some ⟨oc_law, od_law, .func (PySem.W.fnOf "law" "law" (defArgs s_law) (defBody s_law) (defScope s_law) .none kV_law dc_law pm_law an_law cd_law ct_law), sl_law⟩)
    (cd_law_in : PySem.W.codeIn K cd_law "law" = true)
    (kp_law : PySem.W.keepIn K (.ref f_law) = true) :
    ∃ fd : FuncData, (∀ (s : Shared) (v : Value), BindsTo s fd ⟨[v], []⟩ [("_law_script", v)]) ∧ ∀ base : Heap, K.In base → base.Ns mainGlobals mg → FnOk l.prog w K mg base CX0 4 fa fd ["_law_script"] (sp_law K) := by
  have e := hfa.symm.trans (PySem.W.mg_of X G at_law)
  cases e
  let T : Txt K mg := ⟨PySem.W.mg_none_of X G z_tuple, PySem.W.mg_none_of X G z_len, PySem.W.mg_none_of X G z_min, PySem.W.mg_none_of X G z_int, PySem.W.mg_none_of X G z_str, PySem.W.mg_none_of X G z_bool, PySem.W.mg_none_of X G z_range, PySem.W.mg_none_of X G z_isinstance, PySem.W.mg_none_of X G z_ValueError, ⟨_, PySem.W.mg_of X G q_FIGURES⟩, ⟨_, PySem.W.mg_of X G q_MOST_FIGURES⟩, a_LoanError, PySem.W.mg_of X G ac_LoanError, ⟨xc_LoanError, xk_LoanError, xs_LoanError, xt_LoanError⟩, a_BadAmount, PySem.W.mg_of X G ac_BadAmount, ⟨xc_BadAmount, xk_BadAmount, xs_BadAmount, xt_BadAmount⟩, a_BadRate, PySem.W.mg_of X G ac_BadRate, ⟨xc_BadRate, xk_BadRate, xs_BadRate, xt_BadRate⟩, a_BadDay, PySem.W.mg_of X G ac_BadDay, ⟨xc_BadDay, xk_BadDay, xs_BadDay, xt_BadDay⟩, a_BadPay, PySem.W.mg_of X G ac_BadPay, ⟨xc_BadPay, xk_BadPay, xs_BadPay, xt_BadPay⟩, a_NoNote, PySem.W.mg_of X G ac_NoNote, ⟨xc_NoNote, xk_NoNote, xs_NoNote, xt_NoNote⟩, ⟨xg_NoNote, xq_NoNote, xb_NoNote, xd_NoNote, xa_NoNote, xn_NoNote, xp_NoNote, xm_NoNote⟩, kit_ve sv_NoNote, kit_sub dd_BadDay xt_BadDay sb_BadDay_BadDay sb_NoNote_BadDay, kit_sub dd_BadAmount xt_BadAmount sb_BadAmount_BadAmount sb_NoNote_BadAmount, kit_sub dd_BadRate xt_BadRate sb_BadRate_BadRate sb_NoNote_BadRate, kit_sub dd_NoNote xt_NoNote sb_NoNote_NoNote sb_NoNote_NoNote, kit_sub dd_BadPay xt_BadPay sb_BadPay_BadPay sb_NoNote_BadPay, PySem.W.exm_ref xs_LoanError dd_LoanError xt_LoanError sb_NoNote_LoanError, PySem.W.exm_ref xs_NoNote dd_NoNote xt_NoNote sb_NoNote_NoNote⟩
  have F_number_of := fun_mk (st := s_number_of) lk_number_of cd_number_of_in kp_number_of
  have B_number_of := F_number_of.binds (ps := ["word"]) fun _ _ _ _ _ _ us hl => match us, hl with | [_], _ => rfl
  have F_read := fun_mk (st := s_read) lk_read cd_read_in kp_read
  have B_read := F_read.binds (ps := ["line"]) fun _ _ _ _ _ _ us hl => match us, hl with | [_], _ => rfl
  have F_shown := fun_mk (st := s_shown) lk_shown cd_shown_in kp_shown
  have B_shown := F_shown.binds (ps := ["note"]) fun _ _ _ _ _ _ us hl => match us, hl with | [_], _ => rfl
  have F_law_cell_at := fun_mk (st := s_law_cell_at) lk_law_cell_at cd_law_cell_at_in kp_law_cell_at
  have B_law_cell_at := F_law_cell_at.binds (ps := ["_law_script", "_law_k"]) fun _ _ _ _ _ _ us hl => match us, hl with | [_, _], _ => rfl
  have F_law_whole := fun_mk (st := s_law_whole) lk_law_whole cd_law_whole_in kp_law_whole
  have B_law_whole := F_law_whole.binds (ps := ["_law_found"]) fun _ _ _ _ _ _ us hl => match us, hl with | [_], _ => rfl
  have F_law_number_by := fun_mk (st := s_law_number_by) lk_law_number_by cd_law_number_by_in kp_law_number_by
  have B_law_number_by := F_law_number_by.binds (ps := ["_law_cell"]) fun _ _ _ _ _ _ us hl => match us, hl with | [_], _ => rfl
  have F_law_one_sign := fun_mk (st := s_law_one_sign) lk_law_one_sign cd_law_one_sign_in kp_law_one_sign
  have B_law_one_sign := F_law_one_sign.binds (ps := ["_law_line", "_law_cell", "_law_changed"]) fun _ _ _ _ _ _ us hl => match us, hl with | [_, _, _], _ => rfl
  have F_law_altered := fun_mk (st := s_law_altered) lk_law_altered cd_law_altered_in kp_law_altered
  have B_law_altered := F_law_altered.binds (ps := ["_law_line", "_law_cell"]) fun _ _ _ _ _ _ us hl => match us, hl with | [_, _], _ => rfl
  have F_law_number := fun_mk (st := s_law_number) lk_law_number cd_law_number_in kp_law_number
  have B_law_number := F_law_number.binds (ps := ["_law_word"]) fun _ _ _ _ _ _ us hl => match us, hl with | [_], _ => rfl
  have F_law_due := fun_mk (st := s_law_due) lk_law_due cd_law_due_in kp_law_due
  have B_law_due := F_law_due.binds (ps := ["_law_line"]) fun _ _ _ _ _ _ us hl => match us, hl with | [_], _ => rfl
  have F_law_alike := fun_mk (st := s_law_alike) lk_law_alike cd_law_alike_in kp_law_alike
  have B_law_alike := F_law_alike.binds (ps := ["_law_found", "_law_due_here"]) fun _ _ _ _ _ _ us hl => match us, hl with | [_, _], _ => rfl
  have F_law_alone := fun_mk (st := s_law_alone) lk_law_alone cd_law_alone_in kp_law_alone
  have B_law_alone := F_law_alone.binds (ps := ["_law_e"]) fun _ _ _ _ _ _ us hl => match us, hl with | [_], _ => rfl
  have F_law_refused := fun_mk (st := s_law_refused) lk_law_refused cd_law_refused_in kp_law_refused
  have B_law_refused := F_law_refused.binds (ps := ["_law_line"]) fun _ _ _ _ _ _ us hl => match us, hl with | [_], _ => rfl
  have F_law := fun_mk (st := s_law) lk_law cd_law_in kp_law
  have B_law := F_law.binds (ps := ["_law_script"]) fun _ _ _ _ _ _ us hl => match us, hl with | [_], _ => rfl
  refine ⟨PySem.W.fnOf "law" "law" (defArgs s_law) (defBody s_law) (defScope s_law) .none kV_law dc_law pm_law an_law cd_law ct_law, fun s v => .of_eq rfl, fun base _ _ => ?_⟩
  let D_number_of : Df l.prog w K mg base (L2.CX l.prog w) 1 "number_of" ["word"] (sp_number_of T) := ⟨f_number_of, _, ok_number_of F_number_of T , PySem.W.mg_of X G at_number_of, kp_number_of, B_number_of⟩
  let D_read : Df l.prog w K mg base (L2.CX l.prog w) 2 "read" ["line"] (sp_read T) := ⟨f_read, _, ok_read F_read T D_number_of, PySem.W.mg_of X G at_read, kp_read, B_read⟩
  let D_shown : Df l.prog w K mg base CX0 1 "shown" ["note"] (sp_shown T) := ⟨f_shown, _, ok_shown F_shown T , PySem.W.mg_of X G at_shown, kp_shown, B_shown⟩
  let D_law_cell_at : Df l.prog w K mg base CX0 1 "_law_cell_at" ["_law_script", "_law_k"] (sp_law_cell_at T) := ⟨f_law_cell_at, _, ok_law_cell_at F_law_cell_at T , PySem.W.mg_of X G at_law_cell_at, kp_law_cell_at, B_law_cell_at⟩
  let D_law_whole : Df l.prog w K mg base CX0 1 "_law_whole" ["_law_found"] (sp_law_whole T) := ⟨f_law_whole, _, ok_law_whole F_law_whole T , PySem.W.mg_of X G at_law_whole, kp_law_whole, B_law_whole⟩
  let D_law_number_by : Df l.prog w K mg base CX0 1 "_law_number_by" ["_law_cell"] (sp_law_number_by T) := ⟨f_law_number_by, _, ok_law_number_by F_law_number_by T , PySem.W.mg_of X G at_law_number_by, kp_law_number_by, B_law_number_by⟩
  let D_law_one_sign : Df l.prog w K mg base CX0 1 "_law_one_sign" ["_law_line", "_law_cell", "_law_changed"] (sp_law_one_sign T) := ⟨f_law_one_sign, _, ok_law_one_sign F_law_one_sign T , PySem.W.mg_of X G at_law_one_sign, kp_law_one_sign, B_law_one_sign⟩
  let D_law_altered : Df l.prog w K mg base CX0 2 "_law_altered" ["_law_line", "_law_cell"] (sp_law_altered T) := ⟨f_law_altered, _, ok_law_altered F_law_altered T D_law_one_sign, PySem.W.mg_of X G at_law_altered, kp_law_altered, B_law_altered⟩
  let D_law_number : Df l.prog w K mg base CX0 1 "_law_number" ["_law_word"] (sp_law_number T) := ⟨f_law_number, _, ok_law_number F_law_number T , PySem.W.mg_of X G at_law_number, kp_law_number, B_law_number⟩
  let D_law_due : Df l.prog w K mg base CX0 2 "_law_due" ["_law_line"] (sp_law_due T) := ⟨f_law_due, _, ok_law_due F_law_due T D_law_number, PySem.W.mg_of X G at_law_due, kp_law_due, B_law_due⟩
  let D_law_alike : Df l.prog w K mg base CX0 2 "_law_alike" ["_law_found", "_law_due_here"] (sp_law_alike T) := ⟨f_law_alike, _, ok_law_alike F_law_alike T D_law_whole, PySem.W.mg_of X G at_law_alike, kp_law_alike, B_law_alike⟩
  let D_law_alone : De l.prog w K mg base 1 "_law_alone" ["_law_e"] (sp_law_alone T) (.bl true) := ⟨f_law_alone, _, ok_law_alone F_law_alone T , PySem.W.mg_of X G at_law_alone, kp_law_alone, B_law_alone⟩
  let D_law_refused : Df l.prog w K mg base CX0 3 "_law_refused" ["_law_line"] (sp_law_refused T) := ⟨f_law_refused, _, ok_law_refused F_law_refused T D_read D_law_alone, PySem.W.mg_of X G at_law_refused, kp_law_refused, B_law_refused⟩
  exact ok_law F_law T D_law_cell_at D_law_number_by D_shown D_law_altered D_law_due D_law_refused D_law_alike D_read
theorem walk {l : PySem.W.OpenLaw} {q : Program} {loose : List Str} {XP : (Str → Option Value) → Heap → Prop} {YP : World → Heap → Prop} {d : DefRec} {K : Params → PySem.W.Frag} (hn : l.most = some 63) (hdf : d.params.defaults = [])
    (hY : ∀ (w : World) (h : Heap), YP w h → (K w.params).In h)
    (F : ∀ (w : World) (mg : Str → Option Value) (fa : Addr) (h : Heap), (K w.params).In h → h.Ns mainGlobals mg → mg d.name = some (.ref fa) →
      ∃ fd : FuncData, (∀ (s : Shared) (u : Value), BindsTo s fd ⟨[u], []⟩ [("_law_script", u)]) ∧ ∀ base : Heap, (K w.params).In base → base.Ns mainGlobals mg → FnOk l.prog w (K w.params) mg base CX0 4 fa fd ["_law_script"] (sp_law (K w.params))) :
    PySem.W.WalkO q loose XP YP l.row.toRowW d [] (fun f vs => PySem.call f vs) :=
  L2.walk_ofB (n := 63) (k := 4) (x := "_law_script") (CX := fun _ => CX0) (sp := fun w => sp_law (K w.params)) hn (by decide) hdf ⟨rfl, by decide, by decide⟩ hY F (fun _ _ a ns hl hb _ hS => ⟨a, ns, rfl, hS, hl, hb, fun _ => rfl⟩) fun _ _ _ _ _ z => z
end Toy
open PySem PySem.W PyProof.Rows
set_option maxRecDepth 100000 in
set_option maxHeartbeats 0 in
theorem PySem.Challenge.cw_loanplan_k13_notes_holds : PySem.Challenge.rw_loanplan_k13_notes.Holds := by
  w_on; o_law; k_head; (case hw => w_witness2)
  k_fill
  refine Toy.walk (l := PySem.Challenge.rw_loanplan_k13_notes) rfl rfl (fun w h Y => PySem.W.kIn_of Y) ?F
  case F =>
    intro w mg fa h KX G hmg
    refine' Toy.all_mk KX G hmg ?z_tuple ?z_len ?z_min ?z_int ?z_str ?z_bool ?z_range ?z_isinstance ?z_ValueError ?q_FIGURES ?q_MOST_FIGURES ?ac_LoanError ?xc_LoanError ?xk_LoanError ?xs_LoanError ?xt_LoanError ?ac_BadAmount ?xc_BadAmount ?xk_BadAmount ?xs_BadAmount ?xt_BadAmount ?ac_BadRate ?xc_BadRate ?xk_BadRate ?xs_BadRate ?xt_BadRate ?ac_BadDay ?xc_BadDay ?xk_BadDay ?xs_BadDay ?xt_BadDay ?ac_BadPay ?xc_BadPay ?xk_BadPay ?xs_BadPay ?xt_BadPay ?ac_NoNote ?xc_NoNote ?xk_NoNote ?xs_NoNote ?xt_NoNote ?xg_NoNote ?xq_NoNote ?xb_NoNote ?xd_NoNote ?xa_NoNote ?xn_NoNote ?xp_NoNote ?xm_NoNote ?sv_NoNote ?sb_NoNote_BadDay ?sb_BadDay_BadDay ?sb_NoNote_BadAmount ?sb_BadAmount_BadAmount ?sb_NoNote_BadRate ?sb_BadRate_BadRate ?sb_NoNote_NoNote ?sb_NoNote_BadPay ?sb_BadPay_BadPay ?sb_NoNote_LoanError ?dd_BadAmount ?dd_BadDay ?dd_BadPay ?dd_BadRate ?dd_LoanError ?dd_NoNote ?at_number_of ?lk_number_of ?cd_number_of_in ?kp_number_of ?at_read ?lk_read ?cd_read_in ?kp_read ?at_shown ?lk_shown ?cd_shown_in ?kp_shown ?at_law_cell_at ?lk_law_cell_at ?cd_law_cell_at_in ?kp_law_cell_at ?at_law_whole ?lk_law_whole ?cd_law_whole_in ?kp_law_whole ?at_law_number_by ?lk_law_number_by ?cd_law_number_by_in ?kp_law_number_by ?at_law_one_sign ?lk_law_one_sign ?cd_law_one_sign_in ?kp_law_one_sign ?at_law_altered ?lk_law_altered ?cd_law_altered_in ?kp_law_altered ?at_law_number ?lk_law_number ?cd_law_number_in ?kp_law_number ?at_law_due ?lk_law_due ?cd_law_due_in ?kp_law_due ?at_law_alike ?lk_law_alike ?cd_law_alike_in ?kp_law_alike ?at_law_alone ?lk_law_alone ?cd_law_alone_in ?kp_law_alone ?at_law_refused ?lk_law_refused ?cd_law_refused_in ?kp_law_refused ?at_law ?lk_law ?cd_law_in ?kp_law
    (case z_tuple => k_is)
    (case z_len => k_is)
    (case z_min => k_is)
    (case z_int => k_is)
    (case z_str => k_is)
    (case z_bool => k_is)
    (case z_range => k_is)
    (case z_isinstance => k_is)
    (case z_ValueError => k_is)
    (case q_FIGURES => k_is)
    (case q_MOST_FIGURES => k_is)
    (case ac_LoanError => k_is)
    (case xc_LoanError => k_exc)
    (case xk_LoanError => k_is)
    (case xs_LoanError => k_is)
    (case xt_LoanError => k_is)
    (case ac_BadAmount => k_is)
    (case xc_BadAmount => k_exc)
    (case xk_BadAmount => k_is)
    (case xs_BadAmount => k_is)
    (case xt_BadAmount => k_is)
    (case ac_BadRate => k_is)
    (case xc_BadRate => k_exc)
    (case xk_BadRate => k_is)
    (case xs_BadRate => k_is)
    (case xt_BadRate => k_is)
    (case ac_BadDay => k_is)
    (case xc_BadDay => k_exc)
    (case xk_BadDay => k_is)
    (case xs_BadDay => k_is)
    (case xt_BadDay => k_is)
    (case ac_BadPay => k_is)
    (case xc_BadPay => k_exc)
    (case xk_BadPay => k_is)
    (case xs_BadPay => k_is)
    (case xt_BadPay => k_is)
    (case ac_NoNote => k_is)
    (case xc_NoNote => k_exc)
    (case xk_NoNote => k_is)
    (case xs_NoNote => k_is)
    (case xt_NoNote => k_is)
    (case xg_NoNote => k_is)
    (case xq_NoNote => k_is)
    (case xb_NoNote => k_is)
    (case xd_NoNote => k_is)
    (case xa_NoNote => k_is)
    (case xn_NoNote => k_is)
    (case xp_NoNote => k_is)
    (case xm_NoNote => k_is)
    (case sv_NoNote => k_is)
    (case sb_NoNote_BadDay => first | k_is | rfl)
    (case sb_BadDay_BadDay => first | k_is | rfl)
    (case sb_NoNote_BadAmount => first | k_is | rfl)
    (case sb_BadAmount_BadAmount => first | k_is | rfl)
    (case sb_NoNote_BadRate => first | k_is | rfl)
    (case sb_BadRate_BadRate => first | k_is | rfl)
    (case sb_NoNote_NoNote => first | k_is | rfl)
    (case sb_NoNote_BadPay => first | k_is | rfl)
    (case sb_BadPay_BadPay => first | k_is | rfl)
    (case sb_NoNote_LoanError => first | k_is | rfl)
    (case dd_BadAmount => k_is)
    (case dd_BadDay => k_is)
    (case dd_BadPay => k_is)
    (case dd_BadRate => k_is)
    (case dd_LoanError => k_is)
    (case dd_NoNote => k_is)
    (case at_number_of => k_is)
    (case lk_number_of => k_is)
    (case cd_number_of_in => k_is)
    (case kp_number_of => k_is)
    (case at_read => k_is)
    (case lk_read => k_is)
    (case cd_read_in => k_is)
    (case kp_read => k_is)
    (case at_shown => k_is)
    (case lk_shown => k_is)
    (case cd_shown_in => k_is)
    (case kp_shown => k_is)
    (case at_law_cell_at => k_is)
    (case lk_law_cell_at => k_is)
    (case cd_law_cell_at_in => k_is)
    (case kp_law_cell_at => k_is)
    (case at_law_whole => k_is)
    (case lk_law_whole => k_is)
    (case cd_law_whole_in => k_is)
    (case kp_law_whole => k_is)
    (case at_law_number_by => k_is)
    (case lk_law_number_by => k_is)
    (case cd_law_number_by_in => k_is)
    (case kp_law_number_by => k_is)
    (case at_law_one_sign => k_is)
    (case lk_law_one_sign => k_is)
    (case cd_law_one_sign_in => k_is)
    (case kp_law_one_sign => k_is)
    (case at_law_altered => k_is)
    (case lk_law_altered => k_is)
    (case cd_law_altered_in => k_is)
    (case kp_law_altered => k_is)
    (case at_law_number => k_is)
    (case lk_law_number => k_is)
    (case cd_law_number_in => k_is)
    (case kp_law_number => k_is)
    (case at_law_due => k_is)
    (case lk_law_due => k_is)
    (case cd_law_due_in => k_is)
    (case kp_law_due => k_is)
    (case at_law_alike => k_is)
    (case lk_law_alike => k_is)
    (case cd_law_alike_in => k_is)
    (case kp_law_alike => k_is)
    (case at_law_alone => k_is)
    (case lk_law_alone => k_is)
    (case cd_law_alone_in => k_is)
    (case kp_law_alone => k_is)
    (case at_law_refused => k_is)
    (case lk_law_refused => k_is)
    (case cd_law_refused_in => k_is)
    (case kp_law_refused => k_is)
    (case at_law => k_is)
    (case lk_law => k_is)
    (case cd_law_in => k_is)
    (case kp_law => k_is)
