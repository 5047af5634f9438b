import PyProof.Rows.All
import Wide.All
import OpenK.AllK
import Wide.FinOn
import HandS.ForMost
import HandS.ForExc
import HandS.Evl
import HandS.IsInst
import HandS.TryMany
import HandS.TryOnly
import HandS.Walk
import HandS.ReplaceLit
import HandS.Codes
import HandS.Style
import HandS.Conv
import HandS.FStr
import HandS.EndBits
import HandS.HotCalls
import HandS.ExcIs
import PySem.Challenge.RW_loanplan_k14_whole_desk
set_option Elab.async false
set_option linter.all false
set_option maxRecDepth 100000
set_option maxHeartbeats 4000000
/-! ### short words -/
namespace L2
open PySem PySem.Spec PyProof.Rows
section
variable {X : Cx}
/-- * of ints of any size that the machine takes -/
theorem op_mulX : OpR X (binaryOp .Mult) (rI IntMulOk fun i j => .int (i * j)) := opI fun _ _ _ _ _ _ _ hc q => mul_int q hc
end
/-- a def of the text with its promise, as its callers see it -/
structure Df (P : Program) (w : World) (K : PySem.W.Frag) (mg : Str → Option Value) (base : Heap) (CX : CXT) (k : Nat) (x : Str) (ps : List Str) (sp : Sp) where
  f : Addr
  fd : FuncData
  G : FnOk P w K mg base CX k f fd ps sp
  m : mg x = some (.ref f)
  kp : PySem.W.keepIn K (.ref f) = true
  b : Binds K fd ps []
/-- a method of the class at C -/
structure Dm (P : Program) (w : World) (K : PySem.W.Frag) (mg : Str → Option Value) (base : Heap) (CX : CXT) (k : Nat) (C : Addr) (x : Str) (ps : List Str) (sp : Sp) where
  f : Addr
  fd : FuncData
  G : FnOk P w K mg base CX k f fd ps sp
  me : Meth K C x f
  b : Binds K fd ps []
/-- the class's __init__ -/
structure Di (P : Program) (w : World) (K : PySem.W.Frag) (mg : Str → Option Value) (base : Heap) (CX : CXT) (k : Nat) (C : Addr) (x : Str) (ps : List Str) (sp : Sp) where
  f : Addr
  fd : FuncData
  G : FnOk P w K mg base CX k f fd ps sp
  mC : Mk K C f
  g : mg x = some (.ref C)
  b : Binds K fd ps []
section
variable {X : Cx} {k j : Nat} {x m : Str} {ps : List Str} {sp : Sp} {e o : Expr} {es : List Expr} {t : TA} {ta : TE} {p pos apos : Pos} {C : Addr}
/-- a call of a def that lets nothing out -/
theorem pc0 (D : Df X.prog X.w X.K X.mg X.base CX0 k x ps sp) (hr : Room j X.A) (ha : PA X (e :: es) t) (hle : k ≤ j := by decide) (hg : Gl X x := by rfl) (hdb : (x == ("__debug__" : Str)) = false := by decide) (he : starEach (e :: es) X.env = (false, eval e X.env) :: starEach es X.env := by rfl) (hpl : (backTo pos (starEach es X.env)).any (·.1) = false := by rfl) :
    PE X (.Call (.Name x p) (e :: es) [] pos) (tCall sp [] E0 t) := pe_call D.G (hr.mono hle) hg D.m D.kp D.b .nil pass0 ha hdb he hpl
/-- a call of a def that may raise, where nothing may be let out -/
theorem pcL (D : Df X.prog X.w X.K X.mg X.base (L2.CX X.prog X.w) k x ps sp) (hr : Room j X.A) (ha : PA X (e :: es) t) (hle : k ≤ j := by decide) (hg : Gl X x := by rfl) (hdb : (x == ("__debug__" : Str)) = false := by decide) (he : starEach (e :: es) X.env = (false, eval e X.env) :: starEach es X.env := by rfl) (hpl : (backTo pos (starEach es X.env)).any (·.1) = false := by rfl) :
    PE X (.Call (.Name x p) (e :: es) [] pos) (tCall sp [] E0 t) := pe_call D.G (hr.mono hle) hg D.m D.kp D.b .nil passL ha hdb he hpl
end
section
variable {X : Cx} {x : Str} {pos : Pos}
theorem pe_gint {i : Int} (hm : ∃ t, X.mg x = some (.int i t)) (hg : Gl X x := by rfl) (hd : (x == ("__debug__" : Str)) = false := by decide) : PE X (.Name x pos) (tC (.int i)) := by
  obtain ⟨t, hm⟩ := hm
  exact pe_glob hg hm ⟨t, rfl⟩ hd
theorem pe_gstr {z : Str} (hm : ∃ t, X.mg x = some (.str z t)) (hg : Gl X x := by rfl) (hd : (x == ("__debug__" : Str)) = false := by decide) : PE X (.Name x pos) (tC (.str z)) := by
  obtain ⟨t, hm⟩ := hm
  exact pe_glob hg hm ⟨t, rfl⟩ hd
end
theorem pe_gref {X : Cx} {x : Str} {pos : Pos} {a : Addr} (hm : X.mg x = some (.ref a)) (hg : Gl X x := by rfl) (hd : (x == ("__debug__" : Str)) = false := by decide) : PE X (.Name x pos) (tC (.ref a)) := pe_glob hg hm rfl hd
/-- what the top says of an own exception class -/
structure ExC (K : PySem.W.Frag) (C : Addr) : Prop where
  x : PySem.W.excIn K C [.type "ValueError", .type "Exception", .type "BaseException", .type "object"] "ValueError.__new__" = true
  k : PySem.W.keepIn K (.ref C) = true
  s : PySem.W.subIn K (.ref C) (.type "BaseException") = some true
  t : PySem.W.typeIn K (.ref C) = some (.type "type")
theorem md {j : Int} (h : 0 < j := by decide) : 0 < j := h
theorem dv {i j : Int} (h : 0 < j := by decide) (h2 : j < 1073741824 := by decide) : CDiv i j := ⟨h, h2⟩
theorem mulR {i j : Int} (h : Builtin.Int.intBits j ≤ 64 := by decide) : IntMulOk i j := IntMulOk.of_right h
theorem mulL {i j : Int} (h : Builtin.Int.intBits i ≤ 64 := by decide) : IntMulOk i j := IntMulOk.of_left h
/-! ### ifs -/
theorem ifd {c A B : Prop} [Decidable c] (h1 : c → A) (h2 : ¬ c → B) : if decide c = true then A else B := by
  by_cases h : c
  · rw [if_pos (decide_eq_true h)]
    exact h1 h
  · rw [if_neg (by rw [decide_eq_false h]; exact Bool.false_ne_true)]
    exact h2 h
theorem ifdn {c A B : Prop} [Decidable c] (h1 : ¬ c → A) (h2 : c → B) : if (!decide c) = true then A else B := by
  by_cases h : c
  · rw [if_neg (by rw [decide_eq_true h]; decide)]
    exact h2 h
  · rw [if_pos (by rw [decide_eq_false h]; rfl)]
    exact h1 h
theorem if_eq {i j : Int} {A B : Prop} (h1 : i = j → A) (h2 : i ≠ j → B) : if decide (V.int i = V.int j) = true then A else B := ifd (fun h => h1 (V.int.inj h)) (fun h => h2 fun e => h (by rw [e]))
theorem if_ne {i j : Int} {A B : Prop} (h1 : i ≠ j → A) (h2 : i = j → B) : if (!decide (V.int i = V.int j)) = true then A else B := ifdn (fun h => h1 fun e => h (by rw [e])) (fun h => h2 (V.int.inj h))
theorem ifb {b : Bool} {A B : Prop} (h1 : b = true → A) (h2 : b = false → B) : if b = true then A else B := by
  cases b with
  | true => rw [if_pos rfl]; exact h1 rfl
  | false => rw [if_neg Bool.false_ne_true]; exact h2 rfl
theorem ifnT {A B : Prop} (h : B) : if (!true) = true then A else B := h
theorem ifnF {A B : Prop} (h : A) : if (!false) = true then A else B := h
theorem decT {c : Prop} [Decidable c] (h : c) : decide c = true := decide_eq_true h
/-- what follows, of an equal value -/
theorem vq {Q : V → Hp → Prop} {v u : V} {H : Hp} (e : v = u) (q : Q u H) : Q v H := by
  rw [e]
  exact q
theorem eqInt {i j : Int} (h : i = j) : decide (V.int i = V.int j) = true := decide_eq_true (by rw [h])
/-! ### heaps -/
theorem Same.upd {H H' : Hp} (e : Same H H') {p : Addr} {o : HO} (h : H' p = none) : Same H (L2.upd H' p o) := fun b u q => by
  rw [upd_ne (ne_of_none (e b u q) h)]
  exact e b u q
theorem Same.new {H : Hp} {p : Addr} {o : HO} (h : H p = none) : Same H (L2.upd H p o) := Same.upd (Same.refl H) h
/-- an object that H does not know may change -/
theorem Same.mut {H H' : Hp} (e : Same H H') {p : Addr} {o : HO} (h : H p = none) : Same H (L2.upd H' p o) := fun b u q => by
  rw [upd_ne (ne_of_none q h)]
  exact e b u q
theorem Same.seqT {K : PySem.W.Frag} {H H' : Hp} {a : Addr} {xs : List V} (e : Same H H') (h : SqT K H a xs) : SqT K H' a xs := by
  rcases h with (h | ⟨o, h⟩) | h
  · exact .inl (.inl (e _ _ h))
  · exact .inl (.inr ⟨o, e _ _ h⟩)
  · exact .inr h
theorem pow62 {i : Int} (h0 : 0 ≤ i) (h1 : i ≤ 1000000) : -(2 ^ 62) ≤ i ∧ i < 2 ^ 62 := ⟨by omega, by omega⟩
theorem sz_small {n : Nat} (h : n ≤ 100000) : n ≤ sizeLine := Nat.le_trans h (by decide)
theorem szl {xs : List V} (n : Nat) (h : xs.length = n := by rfl) (h2 : n ≤ 100000 := by decide) : xs.length ≤ sizeLine := by rw [h]; exact sz_small h2
theorem sz_lt {n : Nat} (h : n < 100000) : n < sizeLine := Nat.lt_of_lt_of_le h (by decide)
theorem at0 {xs : List V} {v : V} (h : xs[0]? = some v) : atI xs 0 = some v := atI_nat (j := 0) h
theorem at_m {α : Type} {f : α → V} {l : List α} {z : Int} {j : Nat} {a : α} (e : z = (j : Int)) (h : l[j]? = some a) : atI (l.map f) z = some (f a) := at_of e (by rw [List.getElem?_map, h]; rfl)
theorem map_get {α : Type} {f : α → V} {l : List α} {j : Nat} {v : V} (h : (l.map f)[j]? = some v) : ∃ a, l[j]? = some a ∧ v = f a := by
  rw [List.getElem?_map] at h
  cases e : l[j]? with
  | none => rw [e] at h; cases h
  | some a => rw [e] at h; exact ⟨a, rfl, (Option.some.inj h).symm⟩
end L2

local macro_rules | `(tactic| walk_at "rd1") => `(tactic| first
  | refine ⟨_, rfl, ?_⟩
  | refine ⟨_, _, rfl, rfl, ?_⟩
  | refine ⟨L2.dv, ?_⟩
  | refine ⟨L2.md, ?_⟩
  | refine ⟨L2.mulL, ?_⟩
  | refine ⟨L2.mulR, ?_⟩
  | refine ⟨rfl, ?_⟩
  | refine ⟨_, _, _, rfl, by assumption, by decide, ?_⟩
  | refine ⟨_, _, rfl, ?_⟩)
local macro_rules | `(tactic| walk_at "rd") => `(tactic| repeat (walk_at "rd1"))
/-! ### the mathematics: what the program and the laws reckon, as plain functions -/
namespace Toy
/-- a cell of the script -/
def cellAt (ns : List Int) (k : Int) : Int := ns.getD k.toNat 0
def mixed (c m : Int) : Int := (c * 48271 + 12345) % 2147483647 % m
theorem mixed_ge {c m : Int} (h : 0 < m) : 0 ≤ mixed c m := Int.emod_nonneg _ (by omega)
theorem mixed_lt {c m : Int} (h : 0 < m) : mixed c m < m := Int.emod_lt_of_pos _ h
def rateBy (c : Int) : Int := if c % 5 = 0 then ([0, 1, 99999, 100000] : List Int).getD (c / 5 % 4).toNat 0 else if c % 5 = 1 then c / 5 % 400 else mixed c 100001
theorem rateBy_ok (c : Int) : 0 ≤ rateBy c ∧ rateBy c ≤ 100000 := by
  unfold rateBy
  split
  · have h0 : 0 ≤ c / 5 % 4 := by omega
    have h1 : c / 5 % 4 < 4 := by omega
    obtain ⟨j, ej⟩ : ∃ j : Nat, c / 5 % 4 = (j : Int) := ⟨(c / 5 % 4).toNat, by omega⟩
    rw [ej]
    have hj : j < 4 := by omega
    match j, hj with
    | 0, _ => decide
    | 1, _ => decide
    | 2, _ => decide
    | 3, _ => decide
  · split
    · omega
    · have h1 := mixed_ge (c := c) (m := 100001) (by decide)
      have h2 := mixed_lt (c := c) (m := 100001) (by decide)
      omega
abbrev Pr := Int × Int
/-- the last pair's day -/
def lastDay (ps : List Pr) : Int := (ps.getLastD (0, 0)).1
def rowUp (c wide : Int) : Nat → List Pr
  | 0 => [(0, rateBy c)]
  | n + 1 => rowUp c wide n ++ [(lastDay (rowUp c wide n) + 1 + mixed (c + 13 * ((n : Int) + 1)) wide, rateBy (c / 7 + 31 * ((n : Int) + 1)))]
def rowBy (c many wide : Int) : List Pr := rowUp c wide (many - 1).toNat
theorem rowUp_len (c wide : Int) : ∀ n, (rowUp c wide n).length = n + 1
  | 0 => rfl
  | n + 1 => by
    show (rowUp c wide n ++ [_]).length = _
    rw [List.length_append, rowUp_len c wide n]
    rfl
/-- the days go up, behind d -/
def Up : Int → List Pr → Prop
  | _, [] => True
  | d, p :: r => d < p.1 ∧ Up p.1 r
theorem Up.snoc : ∀ {d : Int} {ps : List Pr} {p : Pr}, Up d ps → (ps.getLastD (d, 0)).1 < p.1 → Up d (ps ++ [p])
  | d, [], p, _, h => ⟨h, trivial⟩
  | d, q :: r, p, h, h2 => by
    refine ⟨h.1, Up.snoc (d := q.1) (ps := r) h.2 ?_⟩
    cases r with
    | nil => exact h2
    | cons a b => exact h2
/-- a good row of rates -/
structure Good (ps : List Pr) : Prop where
  ne : ∃ r rest, ps = (0, r) :: rest
  up : Up (-1) ps
  rate : ∀ p ∈ ps, 0 ≤ p.2 ∧ p.2 ≤ 100000
theorem getLastD_append {α : Type} (l : List α) (a d : α) : (l ++ [a]).getLastD d = a := by
  rw [List.getLastD_eq_getLast?, List.getLast?_append]
  rfl
theorem lastDay_ge {ps : List Pr} (g : Good ps) : 0 ≤ lastDay ps := by
  obtain ⟨r, rest, rfl⟩ := g.ne
  have h2 : Up 0 rest := g.up.2
  clear g
  have go : ∀ (l : List Pr) (q : Pr), 0 ≤ q.1 → Up q.1 l → 0 ≤ ((q :: l).getLastD (0, 0)).1 := by
    intro l
    induction l with
    | nil => intro q h _; exact h
    | cons a b ih => intro q h u; exact ih a (by have := u.1; omega) u.2
  exact go rest (0, r) (by show (0 : Int) ≤ 0; decide) h2
theorem getLastD_ne {α : Type} : ∀ {l : List α} (_ : l ≠ []) (a b : α), l.getLastD a = l.getLastD b
  | [], h, _, _ => absurd rfl h
  | _ :: _, _, _, _ => rfl
theorem Good.snoc {ps : List Pr} {p : Pr} (g : Good ps) (h : lastDay ps < p.1) (h0 : 0 ≤ p.2) (h1 : p.2 ≤ 100000) : Good (ps ++ [p]) := by
  refine ⟨?_, g.up.snoc ?_, ?_⟩
  · obtain ⟨r, rest, rfl⟩ := g.ne
    exact ⟨r, rest ++ [p], rfl⟩
  · obtain ⟨r, rest, e⟩ := g.ne
    rw [getLastD_ne (by rw [e]; simp) _ (0, 0)]
    exact h
  · intro q hq
    rcases List.mem_append.mp hq with e | e
    · exact g.rate q e
    · have e2 : q = p := by simpa using e
      rw [e2]
      exact ⟨h0, h1⟩
theorem rowUp_good {c wide : Int} (hw : 0 < wide) : ∀ n, Good (rowUp c wide n) ∧ lastDay (rowUp c wide n) ≤ n * wide
  | 0 => ⟨⟨⟨_, _, rfl⟩, ⟨by show (-1 : Int) < 0; decide, trivial⟩, fun p hp => by
      have e : p = (0, rateBy c) := by simpa [rowUp] using hp
      rw [e]
      exact rateBy_ok c⟩, by show (0 : Int) ≤ _; simp⟩
  | n + 1 => by
    obtain ⟨g, l⟩ := rowUp_good (c := c) hw n
    have h1 := mixed_ge (c := c + 13 * ((n : Int) + 1)) hw
    have h2 := mixed_lt (c := c + 13 * ((n : Int) + 1)) hw
    have h3 := rateBy_ok (c / 7 + 31 * ((n : Int) + 1))
    refine ⟨g.snoc (by show lastDay _ < lastDay _ + 1 + _; omega) h3.1 h3.2, ?_⟩
    unfold lastDay at l ⊢
    show ((rowUp c wide n ++ [_]).getLastD (0, 0)).1 ≤ _
    rw [getLastD_append]
    show lastDay _ + 1 + _ ≤ _
    have e : ((n + 1 : Nat) : Int) * wide = n * wide + wide := by
      rw [Int.natCast_add, Int.add_mul]
      simp
    rw [e]
    unfold lastDay
    omega
/-- the rate of a day -/
def rateOn (ps : List Pr) (d : Int) : Int := ps.foldl (fun f p => if p.1 ≤ d then p.2 else f) 0
end Toy
namespace Toy
theorem rateOn_at {A B : List Pr} {p : Pr} {d : Int} (h : p.1 ≤ d) (hB : ∀ q ∈ B, d < q.1) : rateOn (A ++ p :: B) d = p.2 := by
  unfold rateOn
  rw [List.foldl_append, List.foldl_cons, if_pos h]
  generalize p.2 = x
  clear h
  induction B with
  | nil => rfl
  | cons q B ih =>
    rw [List.foldl_cons, if_neg (by have := hB q (by simp); omega)]
    exact ih fun u hu => hB u (by simp [hu])
/-- by the place in the row -/
theorem rateOn_place {ps : List Pr} {j : Nat} {p : Pr} {d : Int} (hj : ps[j]? = some p) (h : p.1 ≤ d) (hB : ∀ (i : Nat) q, j < i → ps[i]? = some q → d < q.1) : rateOn ps d = p.2 := by
  have hl := (List.getElem?_eq_some_iff.mp hj).1
  have e : ps = ps.take j ++ p :: ps.drop (j + 1) := by
    have h2 : ps[j] = p := (List.getElem?_eq_some_iff.mp hj).2
    rw [← h2, List.getElem_cons_drop, List.take_append_drop]
  rw [e]
  refine rateOn_at h fun q hq => ?_
  obtain ⟨i, hi⟩ := List.mem_iff_getElem?.mp hq
  rw [List.getElem?_drop] at hi
  exact hB (j + 1 + i) q (by omega) hi
theorem rowBy_len {c many wide : Int} (h : 1 ≤ many) : (rowBy c many wide).length = many.toNat := by
  unfold rowBy
  rw [rowUp_len]
  omega
theorem rowBy_good {c many wide : Int} (hw : 0 < wide) : Good (rowBy c many wide) := (rowUp_good hw _).1
theorem rowBy_last {c many wide : Int} (hw : 0 < wide) (h : 1 ≤ many) : lastDay (rowBy c many wide) ≤ (many - 1) * wide := by
  have := (rowUp_good (c := c) hw (many - 1).toNat).2
  have e : (((many - 1).toNat : Nat) : Int) = many - 1 := by omega
  rw [e] at this
  exact this
theorem Good.first {ps : List Pr} (g : Good ps) : ∃ r, ps[0]? = some (0, r) := by
  obtain ⟨r, rest, e⟩ := g.ne
  exact ⟨r, by rw [e]; rfl⟩
theorem get_of {α : Type} {l : List α} {j : Nat} (h : j < l.length) : ∃ a, l[j]? = some a := ⟨l[j], List.getElem?_eq_getElem h⟩
end Toy
namespace Toy
theorem cellAt_bits {ns : List Int} (hb : ∀ z ∈ ns, PySem.Builtin.Int.intBits z ≤ 1048576) (k : Int) : PySem.Builtin.Int.intBits (cellAt ns k) ≤ 1048576 := by
  unfold cellAt
  rw [List.getD_eq_getElem?_getD]
  cases e : ns[k.toNat]? with
  | none => decide
  | some z => exact hb z (List.mem_of_getElem? e)
end Toy
/-! ### rows of rates in the heap -/
namespace Toy
open PySem L2
/-- a pair's address, its day, its rate -/
abbrev Trp := Addr × Int × Int
def rowV (ts : List Trp) : List V := ts.map fun t => V.ref t.1
def vals (ts : List Trp) : List Pr := ts.map fun t => t.2
def tupV (p : Pr) : HO := .tup [.int p.1, .int p.2]
def Prs (H : Hp) (ts : List Trp) : Prop := ∀ t ∈ ts, H t.1 = some (tupV t.2)
structure Row (H : Hp) (l : Addr) (ts : List Trp) : Prop where
  lst : H l = some (.lst (rowV ts))
  prs : Prs H ts
theorem rowV_len (ts : List Trp) : (rowV ts).length = ts.length := by unfold rowV; rw [List.length_map]
theorem vals_len (ts : List Trp) : (vals ts).length = ts.length := by unfold vals; rw [List.length_map]
theorem rowV_append (a b : List Trp) : rowV (a ++ b) = rowV a ++ rowV b := by unfold rowV; rw [List.map_append]
theorem vals_append (a b : List Trp) : vals (a ++ b) = vals a ++ vals b := by unfold vals; rw [List.map_append]
theorem Prs.same {H H' : Hp} {ts : List Trp} (h : Prs H ts) (e : Same H H') : Prs H' ts := fun t ht => e _ _ (h t ht)
/-- a list may change, the pairs stay -/
theorem Prs.lst {H : Hp} {ts : List Trp} {l : Addr} {xs ys : List V} (h : Prs H ts) (hl : H l = some (.lst xs)) : Prs (L2.upd H l (.lst ys)) ts := fun t ht => by
  have q := h t ht
  rw [L2.upd_ne (ne_of q hl (by intro z; cases z))]
  exact q
theorem Row.same {H H' : Hp} {l : Addr} {ts : List Trp} (R : Row H l ts) (e : Same H H') : Row H' l ts := ⟨e _ _ R.lst, R.prs.same e⟩
theorem Row.seq {K : PySem.W.Frag} {H : Hp} {l : Addr} {ts : List Trp} (R : Row H l ts) : SqL K H l (rowV ts) := SqL.of R.lst
theorem Row.get {H : Hp} {l : Addr} {ts : List Trp} (R : Row H l ts) {j : Nat} {p : Pr} (h : (vals ts)[j]? = some p) : ∃ a, (rowV ts)[j]? = some (.ref a) ∧ H a = some (tupV p) ∧ (a, p) ∈ ts := by
  unfold vals at h
  rw [List.getElem?_map] at h
  cases e : ts[j]? with
  | none => rw [e] at h; cases h
  | some t =>
    rw [e] at h
    obtain rfl : t.2 = p := Option.some.inj h
    have m := List.mem_of_getElem? e
    exact ⟨t.1, by unfold rowV; rw [List.getElem?_map, e]; rfl, R.prs t m, m⟩
theorem Row.getV {H : Hp} {l : Addr} {ts : List Trp} (R : Row H l ts) {j : Nat} {v : V} (h : (rowV ts)[j]? = some v) : ∃ a p, v = .ref a ∧ (vals ts)[j]? = some p ∧ H a = some (tupV p) := by
  obtain ⟨t, e, rfl⟩ := map_get h
  exact ⟨t.1, t.2, rfl, by unfold vals; rw [List.getElem?_map, e]; rfl, R.prs t (List.mem_of_getElem? e)⟩
theorem Row.at {H : Hp} {l : Addr} {ts : List Trp} (R : Row H l ts) {z : Int} {j : Nat} {p : Pr} (e : z = (j : Int)) (h : (vals ts)[j]? = some p) : ∃ a, atI (rowV ts) z = some (.ref a) ∧ H a = some (tupV p) := by
  obtain ⟨a, h1, h2, _⟩ := R.get h
  exact ⟨a, at_of e h1, h2⟩
theorem snoc_of {α : Type} : ∀ {l : List α}, l ≠ [] → ∃ r a, l = r ++ [a]
  | [], h => absurd rfl h
  | [a], _ => ⟨[], a, rfl⟩
  | a :: b :: l, _ => by
    obtain ⟨r, c, e⟩ := snoc_of (l := b :: l) (by simp)
    exact ⟨a :: r, c, by rw [e]; rfl⟩
theorem Row.last {H : Hp} {l : Addr} {ts : List Trp} (R : Row H l ts) (h : ts ≠ []) : ∃ a r, atI (rowV ts) (-1) = some (.ref a) ∧ H a = some (tupV (lastDay (vals ts), r)) ∧ (vals ts).getLast? = some (lastDay (vals ts), r) := by
  obtain ⟨q, t, rfl⟩ := snoc_of h
  have e : lastDay (vals (q ++ [t])) = t.2.1 := by
    unfold lastDay
    rw [vals_append]
    exact congrArg Prod.fst (getLastD_append _ _ _)
  refine ⟨t.1, t.2.2, ?_, ?_, ?_⟩
  · rw [rowV_append]
    exact atI_last _ _
  · rw [e]
    exact R.prs t (by simp)
  · rw [e, vals_append, List.getLast?_append]
    rfl
theorem Row.snoc {H : Hp} {l p : Addr} {ts : List Trp} (R : Row H l ts) (d r : Int) (hp : H p = some (tupV (d, r))) : Row (L2.upd H l (.lst (rowV ts ++ [.ref p]))) l (ts ++ [(p, d, r)]) := by
  refine ⟨by rw [rowV_append]; exact upd_same, ?_⟩
  have q : Prs H (ts ++ [(p, d, r)]) := fun t ht => by
    rcases List.mem_append.mp ht with e | e
    · exact R.prs t e
    · obtain rfl : t = (p, d, r) := by simpa using e
      exact hp
  exact q.lst R.lst
theorem vals_ne {ts : List Trp} (h : vals ts ≠ []) : ts ≠ [] := fun e => h (by rw [e]; rfl)
theorem good_ne {ts : List Trp} (g : Good (vals ts)) : ts ≠ [] := by
  obtain ⟨r, rest, e⟩ := g.ne
  exact vals_ne (by rw [e]; simp)
/-- the data of a row -/
def prD (p : Pr) : PyData := .tuple [.int p.1, .int p.2]
def rowD (ps : List Pr) : PyData := .list (ps.map prD)
theorem prs_dp {K : PySem.W.Frag} {H : Hp} : ∀ {ts : List Trp}, Prs H ts → DpAll K H (rowV ts) ((vals ts).map prD)
  | [], _ => .nil
  | t :: r, h => .cons (.tup (SqT.of (h t (by simp))) (.cons (.int _) (.cons (.int _) .nil))) (prs_dp fun u hu => h u (by simp [hu]))
theorem Row.dp {K : PySem.W.Frag} {H : Hp} {l : Addr} {ts : List Trp} (R : Row H l ts) : Dp K H (.ref l) (rowD (vals ts)) := .lst R.seq (prs_dp R.prs)
theorem can_all {α : Type} {f : α → PyData} (h : ∀ a, (f a).canLay0 = true) : ∀ l : List α, PyData.canLayAll0 (l.map f) = true
  | [] => by simp only [List.map_nil, PyData.canLayAll0]
  | a :: l => by simp only [List.map_cons, PyData.canLayAll0, h a, can_all h l, Bool.and_self]
theorem dep_all {α : Type} {f : α → PyData} {n : Nat} (h : ∀ a, (f a).depth ≤ n) : ∀ l : List α, PyData.depthAll (l.map f) ≤ n
  | [] => by simp only [List.map_nil, PyData.depthAll, Nat.zero_le]
  | a :: l => by
    have h1 := h a
    have h2 := dep_all h l
    simp only [List.map_cons, PyData.depthAll]
    omega
theorem shaped_of {d : PyData} (h1 : d.canLay0 = true) (h2 : d.depth ≤ 64) : SeqAt.shaped d = true := by
  unfold SeqAt.shaped
  rw [h1, decide_eq_true h2]
  rfl
/-- a tuple of ints, a list of ints -/
def tupD (l : List Int) : PyData := .tuple (l.map .int)
def intsD (l : List Int) : PyData := .list (l.map .int)
theorem int_can (i : Int) : (PyData.int i).canLay0 = true := by simp only [PyData.canLay0]
theorem int_dep (i : Int) : (PyData.int i).depth ≤ 0 := by simp only [PyData.depth, Nat.le_refl]
theorem tupD_can (l : List Int) : (tupD l).canLay0 = true := by
  unfold tupD
  simp only [PyData.canLay0]
  exact can_all int_can l
theorem tupD_dep (l : List Int) : (tupD l).depth ≤ 1 := by
  unfold tupD
  simp only [PyData.depth]
  have := dep_all int_dep l
  omega
theorem intsD_can (l : List Int) : (intsD l).canLay0 = true := by
  unfold intsD
  simp only [PyData.canLay0]
  exact can_all int_can l
theorem intsD_dep (l : List Int) : (intsD l).depth ≤ 1 := by
  unfold intsD
  simp only [PyData.depth]
  have := dep_all int_dep l
  omega
theorem tupD_shaped (l : List Int) : SeqAt.shaped (tupD l) = true := shaped_of (tupD_can l) (Nat.le_trans (tupD_dep l) (by decide))
theorem intsD_shaped (l : List Int) : SeqAt.shaped (intsD l) = true := shaped_of (intsD_can l) (Nat.le_trans (intsD_dep l) (by decide))
theorem prD_eq (p : Pr) : prD p = tupD [p.1, p.2] := rfl
theorem rowD_can (ps : List Pr) : (rowD ps).canLay0 = true := by
  unfold rowD
  simp only [PyData.canLay0]
  exact can_all (fun p => tupD_can [p.1, p.2]) ps
theorem rowD_dep (ps : List Pr) : (rowD ps).depth ≤ 2 := by
  unfold rowD
  simp only [PyData.depth]
  have := dep_all (f := prD) (n := 1) (fun p => tupD_dep [p.1, p.2]) ps
  omega
theorem rowD_shaped (ps : List Pr) : SeqAt.shaped (rowD ps) = true := shaped_of (rowD_can ps) (Nat.le_trans (rowD_dep ps) (by decide))
theorem rowD_eqv (ps : List Pr) : PyData.eqv (rowD ps) (rowD ps) = true := SeqAt.eqv_refl _ (rowD_can ps)
theorem tupD_eqv (l : List Int) : PyData.eqv (tupD l) (tupD l) = true := SeqAt.eqv_refl _ (tupD_can l)
theorem intsD_eqv (l : List Int) : PyData.eqv (intsD l) (intsD l) = true := SeqAt.eqv_refl _ (intsD_can l)
theorem ints_dpAll {K : PySem.W.Frag} {H : Hp} : ∀ l : List Int, DpAll K H (l.map V.int) (l.map PyData.int)
  | [] => .nil
  | i :: l => .cons (.int i) (ints_dpAll l)
theorem tup_dp {K : PySem.W.Frag} {H : Hp} {a : Addr} {l : List Int} (h : SqT K H a (l.map V.int)) : Dp K H (.ref a) (tupD l) := .tup h (ints_dpAll l)
theorem ints_dp {K : PySem.W.Frag} {H : Hp} {a : Addr} {l : List Int} (h : SqL K H a (l.map V.int)) : Dp K H (.ref a) (intsD l) := .lst h (ints_dpAll l)
/-- two rows that say the same -/
theorem row_eq {K : PySem.W.Frag} {H : Hp} {a b : Addr} {ts us : List Trp} {Q : V → Hp → Prop} (R : Row H a ts) (S : Row H b us) (e : vals ts = vals us) (q : Q (.bl true) H) : rEqD K (.ref a) (.ref b) H Q :=
  ⟨_, _, R.dp, S.dp, rowD_shaped _, rowD_shaped _, by rw [e, rowD_eqv]; exact q⟩
theorem row_ne {K : PySem.W.Frag} {H : Hp} {a b : Addr} {ts us : List Trp} {Q : V → Hp → Prop} (R : Row H a ts) (S : Row H b us) (e : vals ts = vals us) (q : Q (.bl false) H) : rNeD K (.ref a) (.ref b) H Q :=
  ⟨_, _, R.dp, S.dp, rowD_shaped _, rowD_shaped _, by rw [e, rowD_eqv]; exact q⟩
theorem tups_eq {K : PySem.W.Frag} {H : Hp} {a b : Addr} {l : List Int} {Q : V → Hp → Prop} (h1 : SqT K H a (l.map V.int)) (h2 : SqT K H b (l.map V.int)) (q : Q (.bl true) H) : rEqD K (.ref a) (.ref b) H Q :=
  ⟨_, _, tup_dp h1, tup_dp h2, tupD_shaped _, tupD_shaped _, by rw [tupD_eqv]; exact q⟩
theorem tups_ne {K : PySem.W.Frag} {H : Hp} {a b : Addr} {l : List Int} {Q : V → Hp → Prop} (h1 : SqT K H a (l.map V.int)) (h2 : SqT K H b (l.map V.int)) (q : Q (.bl false) H) : rNeD K (.ref a) (.ref b) H Q :=
  ⟨_, _, tup_dp h1, tup_dp h2, tupD_shaped _, tupD_shaped _, by rw [tupD_eqv]; exact q⟩
theorem ints_eq {K : PySem.W.Frag} {H : Hp} {a b : Addr} {l : List Int} {Q : V → Hp → Prop} (h1 : SqL K H a (l.map V.int)) (h2 : SqL K H b (l.map V.int)) (q : Q (.bl true) H) : rEqD K (.ref a) (.ref b) H Q :=
  ⟨_, _, ints_dp h1, ints_dp h2, intsD_shaped _, intsD_shaped _, by rw [intsD_eqv]; exact q⟩
theorem ints_ne {K : PySem.W.Frag} {H : Hp} {a b : Addr} {l : List Int} {Q : V → Hp → Prop} (h1 : SqL K H a (l.map V.int)) (h2 : SqL K H b (l.map V.int)) (q : Q (.bl false) H) : rNeD K (.ref a) (.ref b) H Q :=
  ⟨_, _, ints_dp h1, ints_dp h2, intsD_shaped _, intsD_shaped _, by rw [intsD_eqv]; exact q⟩
end Toy
/-! ### sums over days -/
namespace Toy
def daySum (f : Int → Int) (s : Int) : Nat → Int
  | 0 => 0
  | n + 1 => daySum f s n + f (s + n + 1)
theorem daySum_congr {f g : Int → Int} {s : Int} : ∀ {n : Nat}, (∀ d, s < d → d ≤ s + n → f d = g d) → daySum f s n = daySum g s n
  | 0, _ => rfl
  | n + 1, h => by
    show daySum f s n + f (s + n + 1) = daySum g s n + g (s + n + 1)
    rw [daySum_congr (n := n) fun d h1 h2 => h d h1 (by omega), h (s + n + 1) (by omega) (by omega)]
theorem daySum_const {f : Int → Int} {s c : Int} : ∀ {n : Nat}, (∀ d, s < d → d ≤ s + n → f d = c) → daySum f s n = n * c
  | 0, _ => by simp [daySum]
  | n + 1, h => by
    show daySum f s n + f (s + n + 1) = _
    rw [daySum_const (n := n) fun d h1 h2 => h d h1 (by omega), h (s + n + 1) (by omega) (by omega), Int.natCast_add, Int.add_mul]
    simp
theorem daySum_add {f : Int → Int} {s : Int} (m : Nat) : ∀ n : Nat, daySum f s (m + n) = daySum f s m + daySum f (s + m) n
  | 0 => by simp [daySum]
  | n + 1 => by
    show daySum f s (m + n) + f (s + (m + n : Nat) + 1) = daySum f s m + (daySum f (s + m) n + f (s + m + n + 1))
    rw [daySum_add m n, Int.natCast_add, ← Int.add_assoc s m n]
    omega
/-- what a stretch of days brings -/
def gsum (ps : List Pr) (s e : Int) : Int := daySum (rateOn ps) s (e - s).toNat
theorem gsum_self (ps : List Pr) (s : Int) : gsum ps s s = 0 := by
  unfold gsum
  rw [Int.sub_self]
  rfl
theorem gsum_split {ps : List Pr} {s m e : Int} (h1 : s ≤ m) (h2 : m ≤ e) : gsum ps s e = gsum ps s m + gsum ps m e := by
  unfold gsum
  have e1 : (e - s).toNat = (m - s).toNat + (e - m).toNat := by omega
  have e2 : s + ((m - s).toNat : Int) = m := by omega
  rw [e1, daySum_add, e2]
theorem gsum_const {ps : List Pr} {s e c : Int} (h : s ≤ e) (hc : ∀ d, s < d → d ≤ e → rateOn ps d = c) : gsum ps s e = (e - s) * c := by
  unfold gsum
  have e1 : ((e - s).toNat : Int) = e - s := by omega
  rw [daySum_const (c := c) fun d h1 h2 => hc d h1 (by omega), e1]
theorem gsum_one {ps : List Pr} {s : Int} : gsum ps s (s + 1) = rateOn ps (s + 1) := by
  rw [gsum_const (c := rateOn ps (s + 1)) (by omega) fun d h1 h2 => by rw [show d = s + 1 by omega]]
  rw [show s + 1 - s = 1 by omega, Int.one_mul]
theorem Up.mem : ∀ {d : Int} {ps : List Pr}, Up d ps → ∀ q ∈ ps, d < q.1
  | _, [], _, q, hq => by cases hq
  | d, p :: r, h, q, hq => by
    rcases List.mem_cons.mp hq with e | e
    · rw [e]; exact h.1
    · have := Up.mem h.2 q e
      have := h.1
      omega
theorem Up.drop : ∀ {d : Int} {A B : List Pr} {p : Pr}, Up d (A ++ p :: B) → Up p.1 B
  | _, [], _, _, h => h.2
  | _, a :: A, _, _, h => Up.drop (A := A) h.2
/-- one turn of grown: behind the start s; what is summed, where it stops -/
def gStep (s : Int) (acc : Int × Int) (p : Pr) : Int × Int :=
  if (if p.1 - 1 > s then p.1 - 1 else s) < acc.2 then (acc.1 + (acc.2 - (if p.1 - 1 > s then p.1 - 1 else s)) * p.2, if p.1 - 1 > s then p.1 - 1 else s) else acc
def grown (ps : List Pr) (s e : Int) : Int := (ps.reverse.foldl (gStep s) (0, e)).1
theorem grown_go {ps : List Pr} {s e : Int} (hse : s ≤ e) (u : Up (-1) ps) : ∀ (B A : List Pr), ps = A ++ B →
    s ≤ (B.foldr (fun p acc => gStep s acc p) (0, e)).2 ∧ (B.foldr (fun p acc => gStep s acc p) (0, e)).2 ≤ e ∧
    (B.foldr (fun p acc => gStep s acc p) (0, e)).1 = gsum ps (B.foldr (fun p acc => gStep s acc p) (0, e)).2 e ∧
    ((B.foldr (fun p acc => gStep s acc p) (0, e)).2 = s ∨ ∀ q ∈ B, (B.foldr (fun p acc => gStep s acc p) (0, e)).2 < q.1)
  | [], A, h => ⟨hse, Int.le_refl _, (gsum_self _ _).symm, .inr fun q hq => by cases hq⟩
  | p :: B, A, h => by
    obtain ⟨h1, h2, h3, h4⟩ := grown_go hse u B (A ++ [p]) (by rw [h, List.append_assoc]; rfl)
    rw [List.foldr_cons]
    generalize B.foldr (fun p acc => gStep s acc p) (0, e) = r at h1 h2 h3 h4 ⊢
    obtain ⟨t, st⟩ := r
    simp only at h1 h2 h3 h4
    have hb : ∃ b, (if p.1 - 1 > s then p.1 - 1 else s) = b ∧ s ≤ b ∧ p.1 - 1 ≤ b ∧ (b = s ∨ b = p.1 - 1) := by
      refine ⟨_, rfl, ?_⟩
      split <;> omega
    obtain ⟨b, eb, b1, b2, b3⟩ := hb
    unfold gStep
    rw [eb]
    have hB : ∀ q ∈ B, p.1 < q.1 := by
      have u2 : Up (-1) (A ++ p :: B) := by rw [← h]; exact u
      exact u2.drop.mem
    by_cases c : b < st
    · rw [if_pos c]
      refine ⟨b1, by show b ≤ e; omega, ?_, ?_⟩
      · show t + (st - b) * p.2 = gsum ps b e
        rw [gsum_split (m := st) (by omega) h2, ← h3, gsum_const (c := p.2) (by omega) fun d d1 d2 => ?_]
        · omega
        · rw [h]
          refine rateOn_at (by omega) fun q hq => ?_
          rcases h4 with h4 | h4
          · omega
          · have := h4 q hq
            omega
      · show b = s ∨ ∀ q ∈ p :: B, b < q.1
        rcases b3 with b3 | b3
        · exact .inl b3
        · refine .inr fun q hq => ?_
          rcases List.mem_cons.mp hq with e1 | e1
          · rw [e1]; omega
          · have := hB q e1
            omega
    · rw [if_neg c]
      refine ⟨h1, h2, h3, ?_⟩
      show st = s ∨ ∀ q ∈ p :: B, st < q.1
      rcases h4 with h4 | h4
      · exact .inl h4
      · rcases b3 with b3 | b3
        · exact .inl (by omega)
        · refine .inr fun q hq => ?_
          rcases List.mem_cons.mp hq with e1 | e1
          · rw [e1]; omega
          · exact h4 q e1
theorem grown_eq {ps : List Pr} {s e : Int} (g : Good ps) (h0 : 0 ≤ s) (hse : s ≤ e) : grown ps s e = gsum ps s e := by
  unfold grown
  rw [List.foldl_reverse]
  obtain ⟨h1, h2, h3, h4⟩ := grown_go hse g.up ps [] rfl
  obtain ⟨r, rest, er⟩ := g.ne
  have hs : (ps.foldr (fun p acc => gStep s acc p) (0, e)).2 = s := by
    rcases h4 with h4 | h4
    · exact h4
    · have := h4 (0, r) (by rw [er]; simp)
      have : (ps.foldr (fun p acc => gStep s acc p) (0, e)).2 < 0 := this
      omega
  rw [h3, hs]
theorem rateOn_snoc {ps : List Pr} {p : Pr} {d : Int} : rateOn (ps ++ [p]) d = if p.1 ≤ d then p.2 else rateOn ps d := by
  unfold rateOn
  rw [List.foldl_append]
  rfl
theorem rateOn_ok {ps : List Pr} (hr : ∀ p ∈ ps, 0 ≤ p.2 ∧ p.2 ≤ 100000) (d : Int) : 0 ≤ rateOn ps d ∧ rateOn ps d ≤ 100000 := by
  have go : ∀ (l : List Pr) (x : Int), (∀ p ∈ l, 0 ≤ p.2 ∧ p.2 ≤ 100000) → 0 ≤ x ∧ x ≤ 100000 → 0 ≤ l.foldl (fun f p => if p.1 ≤ d then p.2 else f) x ∧ l.foldl (fun f p => if p.1 ≤ d then p.2 else f) x ≤ 100000 := by
    intro l
    induction l with
    | nil => intro x _ h; exact h
    | cons p l ih =>
      intro x hl h
      rw [List.foldl_cons]
      refine ih _ (fun q hq => hl q (by simp [hq])) ?_
      split
      · exact hl p (by simp)
      · exact h
  exact go ps 0 hr (by decide)
theorem daySum_ok {f : Int → Int} {s c : Int} (h : ∀ d, 0 ≤ f d ∧ f d ≤ c) : ∀ n : Nat, 0 ≤ daySum f s n ∧ daySum f s n ≤ n * c
  | 0 => by simp [daySum]
  | n + 1 => by
    have h1 := daySum_ok (s := s) h n
    have h2 := h (s + n + 1)
    show 0 ≤ daySum f s n + f (s + n + 1) ∧ daySum f s n + f (s + n + 1) ≤ _
    rw [Int.natCast_add, Int.add_mul]
    simp
    omega
theorem gsum_ok {ps : List Pr} (hr : ∀ p ∈ ps, 0 ≤ p.2 ∧ p.2 ≤ 100000) {s e : Int} (h : s ≤ e) : 0 ≤ gsum ps s e ∧ gsum ps s e ≤ (e - s) * 100000 := by
  have := daySum_ok (s := s) (rateOn_ok hr) (e - s).toNat
  have e1 : ((e - s).toNat : Int) = e - s := by omega
  rw [e1] at this
  exact this
end Toy
namespace Toy
theorem Good.le_last {ps : List Pr} (g : Good ps) {p : Pr} (h : p ∈ ps) : p.1 ≤ lastDay ps := by
  have go : ∀ (l : List Pr) (d : Int) (q : Pr), Up d l → q ∈ l → q.1 ≤ (l.getLastD (0, 0)).1 := by
    intro l
    induction l with
    | nil => intro d q _ h; cases h
    | cons a b ih =>
      intro d q u h
      cases b with
      | nil =>
        have e : q = a := by simpa using h
        rw [e]
        exact Int.le_refl _
      | cons c r =>
        have hl : ((a :: c :: r).getLastD (0, 0)).1 = ((c :: r).getLastD (0, 0)).1 := rfl
        rw [hl]
        rcases List.mem_cons.mp h with e | e
        · rw [e]
          have h1 := ih a.1 c u.2 (by simp)
          have := u.2.1
          omega
        · exact ih a.1 q u.2 e
  exact go ps (-1) p g.up h
theorem Up.to : ∀ {d : Int} {A : List Pr} {p : Pr} {B : List Pr}, Up d (A ++ p :: B) → ∀ q ∈ A, q.1 < p.1
  | _, [], _, _, _, _, hq => by cases hq
  | d, a :: A, p, B, u, q, hq => by
    rcases List.mem_cons.mp hq with e | e
    · rw [e]
      exact u.2.mem p (by simp)
    · exact Up.to (A := A) u.2 q e
end Toy
namespace Toy
theorem gsum_congr {ps qs : List Pr} {s e : Int} (h : ∀ d, s < d → d ≤ e → rateOn ps d = rateOn qs d) : gsum ps s e = gsum qs s e := by
  unfold gsum
  by_cases c : s ≤ e
  · exact daySum_congr fun d h1 h2 => h d h1 (by omega)
  · rw [show (e - s).toNat = 0 by omega]
    rfl
/-- the law's own way: how much each pair is more than the one ahead of it -/
def sumUp (ps : List Pr) (s e : Int) : Nat → Int
  | 0 => (ps.getD 0 (0, 0)).2 * (e - s)
  | k + 1 => if e - (if (ps.getD (k + 1) (0, 0)).1 - 1 > s then (ps.getD (k + 1) (0, 0)).1 - 1 else s) > 0 then sumUp ps s e k + ((ps.getD (k + 1) (0, 0)).2 - (ps.getD k (0, 0)).2) * (e - (if (ps.getD (k + 1) (0, 0)).1 - 1 > s then (ps.getD (k + 1) (0, 0)).1 - 1 else s)) else sumUp ps s e k
theorem getD_of {α : Type} {l : List α} {j : Nat} {a d : α} (h : l[j]? = some a) : l.getD j d = a := by
  rw [List.getD_eq_getElem?_getD, h]
  rfl
theorem sumUp_eq {ps : List Pr} {s e : Int} (g : Good ps) (h0 : 0 ≤ s) (hse : s ≤ e) : ∀ k, k < ps.length → sumUp ps s e k = gsum (ps.take (k + 1)) s e
  | 0, hk => by
    obtain ⟨r, rest, er⟩ := g.ne
    rw [er]
    show r * (e - s) = gsum [(0, r)] s e
    rw [gsum_const (c := r) hse fun d h1 h2 => ?_, Int.mul_comm]
    exact rateOn_at (A := []) (B := []) (p := (0, r)) (by show 0 ≤ d; omega) fun q hq => by cases hq
  | k + 1, hk => by
    have ih := sumUp_eq g h0 hse k (by omega)
    obtain ⟨p, hp⟩ := get_of (l := ps) (j := k + 1) hk
    obtain ⟨q, hq⟩ := get_of (l := ps) (j := k) (by omega)
    have et : ps.take (k + 1 + 1) = ps.take (k + 1) ++ [p] := by
      rw [List.take_add_one, hp]
      rfl
    have et2 : ps.take (k + 1) = ps.take k ++ [q] := by
      rw [List.take_add_one, hq]
      rfl
    have eall : ps = ps.take (k + 1) ++ p :: ps.drop (k + 2) := by
      have h2 : ps[k + 1] = p := (List.getElem?_eq_some_iff.mp hp).2
      rw [← h2, List.getElem_cons_drop, List.take_append_drop]
    have hA : ∀ u ∈ ps.take (k + 1), u.1 < p.1 := by
      have u2 : Up (-1) (ps.take (k + 1) ++ p :: ps.drop (k + 2)) := by rw [← eall]; exact g.up
      exact u2.to
    have hqp : q.1 < p.1 := hA q (by rw [et2]; simp)
    have hlo : ∀ d, d ≤ p.1 - 1 → rateOn (ps.take (k + 1) ++ [p]) d = rateOn (ps.take (k + 1)) d := fun d hd => by
      rw [rateOn_snoc, if_neg (by omega)]
    unfold sumUp
    rw [getD_of hp, getD_of hq, ih, et]
    have hb : ∃ b, (if p.1 - 1 > s then p.1 - 1 else s) = b ∧ s ≤ b ∧ p.1 - 1 ≤ b ∧ (b = s ∨ b = p.1 - 1) := by
      refine ⟨_, rfl, ?_⟩
      split <;> omega
    obtain ⟨b, eb, b1, b2, b3⟩ := hb
    rw [eb]
    by_cases c : e - b > 0
    · rw [if_pos c, gsum_split (ps := ps.take (k + 1) ++ [p]) (m := b) b1 (by omega), gsum_split (ps := ps.take (k + 1)) (m := b) b1 (by omega)]
      have e1 : gsum (ps.take (k + 1) ++ [p]) s b = gsum (ps.take (k + 1)) s b := gsum_congr fun d d1 d2 => by
        refine hlo d ?_
        omega
      have e2 : gsum (ps.take (k + 1) ++ [p]) b e = (e - b) * p.2 := gsum_const (by omega) fun d d1 d2 => by
        rw [rateOn_snoc, if_pos (by omega)]
      have e3 : gsum (ps.take (k + 1)) b e = (e - b) * q.2 := gsum_const (by omega) fun d d1 d2 => by
        rw [et2, rateOn_snoc, if_pos (by omega)]
      rw [e1, e2, e3, Int.sub_mul p.2 q.2, Int.mul_comm p.2, Int.mul_comm q.2]
      omega
    · rw [if_neg c]
      refine (gsum_congr fun d d1 d2 => hlo d ?_).symm
      omega
theorem sumUp_all {ps : List Pr} {s e : Int} (g : Good ps) (h0 : 0 ≤ s) (hse : s ≤ e) : sumUp ps s e (ps.length - 1) = gsum ps s e := by
  obtain ⟨r, rest, er⟩ := g.ne
  have hl : 0 < ps.length := by rw [er]; simp
  rw [sumUp_eq g h0 hse _ (by omega), List.take_of_length_le (by omega)]
theorem perm3 {ns : List Int} {a b c : Int} (p : ns.Perm [a, b, c]) (w : ns.Pairwise (· ≤ ·)) {lo hi : Int} (h1 : lo ≤ a ∧ a ≤ hi) (h2 : lo ≤ b ∧ b ≤ hi) (h3 : lo ≤ c ∧ c ≤ hi) :
    ∃ x y z, ns = [x, y, z] ∧ lo ≤ x ∧ x ≤ y ∧ y ≤ z ∧ z ≤ hi := by
  have hl := p.length_eq
  match ns, hl with
  | [x, y, z], _ =>
    have hb : ∀ u ∈ [x, y, z], lo ≤ u ∧ u ≤ hi := fun u hu => by
      have := p.mem_iff.mp hu
      simp only [List.mem_cons, List.not_mem_nil, or_false] at this
      rcases this with e | e | e <;> rw [e] <;> assumption
    have hx := hb x (by simp)
    have hz := hb z (by simp)
    simp only [List.pairwise_cons] at w
    exact ⟨x, y, z, rfl, hx.1, w.1 y (by simp), w.2.1 z (by simp), hz.2⟩
end Toy
/-! ### a loan: the mathematics, and how it stands in the heap -/
namespace Toy
open PySem L2
/-- what a row of rates is told -/
inductive Vd where | ok | day | rate
  deriving DecidableEq
def chk : Int → List Pr → Vd
  | a, [] => if a = -1 then .day else .ok
  | a, p :: r => if p.1 ≤ a ∨ p.1 > 100000 ∨ (a = -1 ∧ p.1 > 0) then .day else if 0 ≤ p.2 ∧ p.2 ≤ 100000 then chk p.1 r else .rate
theorem chk_nil (a : Int) : chk a [] = if a = -1 then .day else .ok := rfl
theorem chk_cons (a : Int) (p : Pr) (r : List Pr) : chk a (p :: r) = if p.1 ≤ a ∨ p.1 > 100000 ∨ (a = -1 ∧ p.1 > 0) then .day else if 0 ≤ p.2 ∧ p.2 ≤ 100000 then chk p.1 r else .rate := rfl
theorem chk_up : ∀ {ps : List Pr} {a : Int}, Up a ps → 0 ≤ a → (∀ p ∈ ps, 0 ≤ p.2 ∧ p.2 ≤ 100000) → (∀ p ∈ ps, p.1 ≤ 100000) → chk a ps = .ok
  | [], a, _, h, _, _ => by
    unfold chk
    rw [if_neg (by omega)]
  | p :: r, a, u, h, h1, h2 => by
    unfold chk
    have := u.1
    have := h2 p (by simp)
    rw [if_neg (by omega), if_pos (h1 p (by simp))]
    exact chk_up u.2 (by omega) (fun q hq => h1 q (by simp [hq])) fun q hq => h2 q (by simp [hq])
theorem chk_good {ps : List Pr} (g : Good ps) (h : lastDay ps ≤ 100000) : chk (-1) ps = .ok := by
  have h2 : ∀ p ∈ ps, p.1 ≤ 100000 := fun p hp => Int.le_trans (g.le_last hp) h
  obtain ⟨r, rest, e⟩ := g.ne
  have gu := g.up
  have gr := g.rate
  rw [e] at gu gr h2 ⊢
  unfold chk
  rw [if_neg (by simp), if_pos (gr (0, r) (by simp))]
  exact chk_up gu.2 (Int.le_refl 0) (fun q hq => gr q (by simp [hq])) fun q hq => h2 q (by simp [hq])
/-- the whole cents that settle it -/
def owedF (left begun : Int) : Int := left + (begun + 1000000 - 1) / 1000000
/-- a payment's interest, its part off the amount, what is left, what is begun -/
def payF (left begun cents : Int) : Int × Int × Int × Int :=
  if cents = owedF left begun then (owedF left begun - left, left, 0, 0)
  else ((if begun / 1000000 < cents then begun / 1000000 else cents), cents - (if begun / 1000000 < cents then begun / 1000000 else cents),
    left - (cents - (if begun / 1000000 < cents then begun / 1000000 else cents)), begun - (if begun / 1000000 < cents then begun / 1000000 else cents) * 1000000)
structure Ln where
  left : Int
  begun : Int
  day : Int
/-- a loan's numbers are in their bounds -/
structure LnOk (z : Ln) : Prop where
  l0 : 0 ≤ z.left
  l1 : z.left ≤ 1000000000000
  b0 : 0 ≤ z.begun
  d0 : 0 ≤ z.day
  d1 : z.day ≤ 100000
/-- a good row whose days are in bounds -/
structure Rok (ps : List Pr) : Prop where
  g : Good ps
  last : lastDay ps ≤ 100000
  len : ps.length ≤ 1000
/-- what is begun on a day -/
def begunAt (ps : List Pr) (z : Ln) (d : Int) : Int := z.begun + z.left * gsum ps z.day d
theorem begunAt_ge {ps : List Pr} {z : Ln} {d : Int} (h : LnOk z) (g : Good ps) (hd : z.day ≤ d) : 0 ≤ begunAt ps z d := by
  have h1 := (gsum_ok g.rate hd).1
  have h2 := Int.mul_nonneg h.l0 h1
  have := h.b0
  unfold begunAt
  omega
def payLn (ps : List Pr) (z : Ln) (d c : Int) : Ln := ⟨(payF z.left (begunAt ps z d) c).2.2.1, (payF z.left (begunAt ps z d) c).2.2.2, d⟩
theorem payF_ok {l b c : Int} (hl : 0 ≤ l) (hb : 0 ≤ b) (h1 : 1 ≤ c) (h2 : c ≤ owedF l b) : 0 ≤ (payF l b c).1 ∧ 0 ≤ (payF l b c).2.1 ∧ (payF l b c).1 + (payF l b c).2.1 = c ∧ 0 ≤ (payF l b c).2.2.1 ∧ (payF l b c).2.2.1 ≤ l ∧ 0 ≤ (payF l b c).2.2.2 ∧ (payF l b c).2.2.2 ≤ b := by
  unfold payF
  by_cases c1 : c = owedF l b
  · rw [if_pos c1]
    unfold owedF at *
    simp only
    omega
  · rw [if_neg c1]
    unfold owedF at *
    simp only
    have := Int.mul_comm (b / 1000000) 1000000
    split <;> omega
theorem payLn_ok {ps : List Pr} {z : Ln} {d c : Int} (h : LnOk z) (g : Good ps) (hd : z.day ≤ d) (hd2 : d ≤ 100000) (h1 : 1 ≤ c) (h2 : c ≤ owedF z.left (begunAt ps z d)) : LnOk (payLn ps z d c) := by
  have p := payF_ok h.l0 (begunAt_ge h g hd) h1 h2
  have := h.l1
  have := h.d0
  exact ⟨p.2.2.2.1, by show (payF z.left (begunAt ps z d) c).2.2.1 ≤ _; omega, p.2.2.2.2.2.1, by show 0 ≤ d; omega, hd2⟩
/-! ### in the heap -/
def lf (l : Addr) (z : Ln) : List (Str × V) := [("rates", .ref l), ("left", .int z.left), ("begun", .int z.begun), ("day", .int z.day)]
theorem str_ne {a b : Str} (h : decide (a = b) = false) : (a == b) = false := by
  have : ¬ a = b := of_decide_eq_false h
  exact beq_eq_false_iff_ne.mpr this
theorem lf_rates (l : Addr) (z : Ln) : (lf l z).lookup ("rates" : Str) = some (.ref l) := by simp [lf, List.lookup]
theorem lf_left (l : Addr) (z : Ln) : (lf l z).lookup ("left" : Str) = some (.int z.left) := by
  simp [lf, List.lookup, str_ne (a := "left") (b := "rates") (by decide +kernel)]
theorem lf_begun (l : Addr) (z : Ln) : (lf l z).lookup ("begun" : Str) = some (.int z.begun) := by
  simp [lf, List.lookup, str_ne (a := "begun") (b := "rates") (by decide +kernel), str_ne (a := "begun") (b := "left") (by decide +kernel)]
theorem lf_day (l : Addr) (z : Ln) : (lf l z).lookup ("day" : Str) = some (.int z.day) := by
  simp [lf, List.lookup, str_ne (a := "day") (b := "rates") (by decide +kernel), str_ne (a := "day") (b := "left") (by decide +kernel), str_ne (a := "day") (b := "begun") (by decide +kernel)]
theorem lf_no (l : Addr) (z : Ln) {m : Str} (h1 : decide (m = "rates") = false) (h2 : decide (m = "left") = false) (h3 : decide (m = "begun") = false) (h4 : decide (m = "day") = false) : (lf l z).lookup m = none := by
  simp [lf, List.lookup, str_ne h1, str_ne h2, str_ne h3, str_ne h4]
theorem putF_hit (f : Str) (v x : V) (r : List (Str × V)) : putF f v ((f, x) :: r) = (f, v) :: r := by
  show (if f = f then _ else _) = _
  rw [if_pos rfl]
theorem putF_miss {f g : Str} (h : decide (g = f) = false) (v x : V) (r : List (Str × V)) : putF f v ((g, x) :: r) = (g, x) :: putF f v r := by
  show (if g = f then _ else _) = _
  rw [if_neg (of_decide_eq_false h)]
theorem lf_putLeft (l : Addr) (z : Ln) (y : Int) : putF "left" (.int y) (lf l z) = lf l { z with left := y } := by
  unfold lf
  rw [putF_miss (by decide +kernel), putF_hit]
theorem lf_putBegun (l : Addr) (z : Ln) (y : Int) : putF "begun" (.int y) (lf l z) = lf l { z with begun := y } := by
  unfold lf
  rw [putF_miss (by decide +kernel), putF_miss (by decide +kernel), putF_hit]
theorem lf_putDay (l : Addr) (z : Ln) (y : Int) : putF "day" (.int y) (lf l z) = lf l { z with day := y } := by
  unfold lf
  rw [putF_miss (by decide +kernel), putF_miss (by decide +kernel), putF_miss (by decide +kernel), putF_hit]
theorem lf_len (l : Addr) (z : Ln) : (lf l z).length < 1000 := by show 4 < 1000; decide
theorem lf_made (l : Addr) (am : Int) : putF "day" (V.int 0) (putF "begun" (V.int 0) (putF "left" (V.int am) (putF "rates" (V.ref l) []))) = lf l ⟨am, 0, 0⟩ := by
  show putF "day" (V.int 0) (putF "begun" (V.int 0) (putF "left" (V.int am) [("rates", V.ref l)])) = _
  rw [putF_miss (by decide +kernel)]
  show putF "day" (V.int 0) (putF "begun" (V.int 0) [("rates", V.ref l), ("left", V.int am)]) = _
  rw [putF_miss (by decide +kernel), putF_miss (by decide +kernel)]
  show putF "day" (V.int 0) [("rates", V.ref l), ("left", V.int am), ("begun", V.int 0)] = _
  rw [putF_miss (by decide +kernel), putF_miss (by decide +kernel), putF_miss (by decide +kernel)]
  rfl
/-- a loan stands at x (its dict at dx), its row of rates at l -/
structure LoanAt (C : Addr) (H : Hp) (x dx l : Addr) (ts : List Trp) (z : Ln) : Prop where
  ob : H x = some (.ins C dx (lf l z))
  row : Row H l ts
theorem LoanAt.same {C : Addr} {H H' : Hp} {x dx l : Addr} {ts : List Trp} {z : Ln} (h : LoanAt C H x dx l ts z) (e : Same H H') : LoanAt C H' x dx l ts z := ⟨e _ _ h.ob, h.row.same e⟩
/-- all but what stands at x is as it was -/
def But (x : Addr) (H H' : Hp) : Prop := ∀ b o, H b = some o → b ≠ x → H' b = some o
theorem But.of {x : Addr} {H H' : Hp} (e : Same H H') : But x H H' := fun b o h _ => e b o h
theorem But.trans {x : Addr} {H H1 H2 : Hp} (a : But x H H1) (b : But x H1 H2) : But x H H2 := fun c o h n => b c o (a c o h n) n
theorem But.upd {x : Addr} {H H' : Hp} (a : But x H H') (o : HO) : But x H (L2.upd H' x o) := fun b u h n => by
  rw [L2.upd_ne n]
  exact a b u h n
theorem But.new {x p : Addr} {H H' : Hp} (a : But x H H') {o : HO} (hp : H' p = none) : But x H (L2.upd H' p o) := fun b u h n => by
  have q := a b u h n
  rw [L2.upd_ne (ne_of_none q hp)]
  exact q
theorem But.row {x l : Addr} {H H' : Hp} {ts : List Trp} {C dx : Addr} {fs : List (Str × V)} (a : But x H H') (hx : H x = some (.ins C dx fs)) (R : Row H l ts) : Row H' l ts :=
  ⟨a _ _ R.lst (ne_of R.lst hx (by intro q; cases q)), fun t ht => a _ _ (R.prs t ht) (ne_of (R.prs t ht) hx (by intro q; cases q))⟩
/-- another object that was not known before -/
theorem But.fresh {x : Addr} {H H' : Hp} (a : But x H H') (hx : H x = none) : Same H H' := fun b o h => a b o h (ne_of_none h hx)
end Toy
namespace Toy
open PySem L2
theorem cut_to {xs : List V} {k : Int} {n : Nat} (e : k = (n : Int)) (h : n ≤ xs.length) : cutV xs none (some k) = xs.take n := by
  subst e
  unfold cutV
  rw [HT.sIx_none, HT.sIx_nat, List.drop_zero, Nat.min_eq_left h, Nat.sub_zero]
theorem cut_from {xs : List V} {k : Int} {n : Nat} (e : k = (n : Int)) (h : n ≤ xs.length) : cutV xs (some k) none = xs.drop n := by
  subst e
  unfold cutV
  rw [HT.sIx_none, HT.sIx_nat, Nat.min_eq_left h]
  exact List.take_of_length_le (by rw [List.length_drop]; exact Nat.le_refl _)
theorem rowV_take (ts : List Trp) (n : Nat) : (rowV ts).take n = rowV (ts.take n) := by unfold rowV; rw [List.map_take]
theorem rowV_drop (ts : List Trp) (n : Nat) : (rowV ts).drop n = rowV (ts.drop n) := by unfold rowV; rw [List.map_drop]
theorem vals_take (ts : List Trp) (n : Nat) : vals (ts.take n) = (vals ts).take n := by unfold vals; rw [List.map_take]
theorem vals_drop (ts : List Trp) (n : Nat) : vals (ts.drop n) = (vals ts).drop n := by unfold vals; rw [List.map_drop]
theorem Up.take : ∀ {d : Int} {ps : List Pr}, Up d ps → ∀ n, Up d (ps.take n)
  | _, [], _, 0 => trivial
  | _, [], _, _ + 1 => trivial
  | _, _ :: _, _, 0 => trivial
  | _, p :: r, h, n + 1 => ⟨h.1, Up.take h.2 n⟩
theorem Good.take {ps : List Pr} (g : Good ps) (n : Nat) : Good (ps.take (n + 1)) := by
  obtain ⟨r, rest, e⟩ := g.ne
  refine ⟨⟨r, rest.take n, by rw [e]; rfl⟩, g.up.take _, fun p hp => g.rate p (List.mem_of_mem_take hp)⟩
/-- the last pair's day is that pair's -/
theorem lastDay_mem {ps : List Pr} (h : ps ≠ []) : ∃ p ∈ ps, p.1 = lastDay ps := by
  obtain ⟨r, a, e⟩ := snoc_of h
  refine ⟨a, by rw [e]; simp, ?_⟩
  rw [e]
  unfold lastDay
  rw [getLastD_append]
theorem Rok.take {ps : List Pr} (k : Rok ps) (n : Nat) : Rok (ps.take (n + 1)) := by
  have g := k.g.take n
  refine ⟨g, ?_, Nat.le_trans (List.length_take_le' _ _) k.len⟩
  obtain ⟨p, hp, e⟩ := lastDay_mem (ps := ps.take (n + 1)) (by obtain ⟨r, rest, e⟩ := g.ne; rw [e]; simp)
  rw [← e]
  exact Int.le_trans (k.g.le_last (List.mem_of_mem_take hp)) k.last
/-- the next pair's day lies behind those ahead of it -/
theorem next_day {ps : List Pr} (g : Good ps) {n : Nat} {p : Pr} (h : ps[n + 1]? = some p) : lastDay (ps.take (n + 1)) < p.1 := by
  have g2 := g.take n
  obtain ⟨q, hq, e⟩ := lastDay_mem (ps := ps.take (n + 1)) (by obtain ⟨r, rest, e⟩ := g2.ne; rw [e]; simp)
  rw [← e]
  have eall : ps = ps.take (n + 1) ++ p :: ps.drop (n + 2) := by
    have h2 : ps[n + 1]'(List.getElem?_eq_some_iff.mp h).1 = p := (List.getElem?_eq_some_iff.mp h).2
    rw [← h2, List.getElem_cons_drop, List.take_append_drop]
  have u2 : Up (-1) (ps.take (n + 1) ++ p :: ps.drop (n + 2)) := by rw [← eall]; exact g.up
  exact u2.to q hq
def amountBy (c : Int) : Int := if c % 4 = 0 then ([1, 2, 999999999999, 1000000000000] : List Int).getD (c / 4 % 4).toNat 0 else if c % 4 = 1 then 1 + c / 4 % 5000 else 1 + (mixed c 2147483647 * 467 + 5) % 1000000000000
theorem amountBy_ok (c : Int) : 1 ≤ amountBy c ∧ amountBy c ≤ 1000000000000 := by
  unfold amountBy
  split
  · obtain ⟨j, ej⟩ : ∃ j : Nat, c / 4 % 4 = (j : Int) := ⟨(c / 4 % 4).toNat, by omega⟩
    have hj : j < 4 := by omega
    rw [ej]
    match j, hj with
    | 0, _ => decide
    | 1, _ => decide
    | 2, _ => decide
    | 3, _ => decide
  · split <;> omega
theorem tup2 {a b : Int} {v : V} {j : Nat} (h : ([V.int a, V.int b] : List V)[j]? = some v) : ([V.int a, V.int b] : List V)[j]? = some v := h
end Toy
namespace Toy
open PySem L2
def vdS : Vd → Str
  | .ok => ""
  | .day => "day"
  | .rate => "rate"
end Toy
namespace Toy
open PySem L2
/-- a list that is read stays where an object changes -/
theorem seq_but {K : PySem.W.Frag} {H H' : Hp} {x C dx a : Addr} {fs : List (Str × V)} {xs : List V} (b : But x H H') (hx : H x = some (.ins C dx fs)) (h : SqL K H a xs) : SqL K H' a xs := by
  rcases h with (h | ⟨o, h⟩) | h
  · exact .inl (.inl (b _ _ h (ne_of h hx (by intro q; cases q))))
  · exact .inl (.inr ⟨o, b _ _ h (ne_of h hx (by intro q; cases q))⟩)
  · exact .inr h
end Toy
namespace Toy
open PySem L2
theorem But.rowl {q l : Addr} {H H' : Hp} {ts : List Trp} {xs : List V} (b : But q H H') (hq : H q = some (.lst xs)) (n : l ≠ q) (R : Row H l ts) : Row H' l ts :=
  ⟨b _ _ R.lst n, fun t ht => b _ _ (R.prs t ht) (ne_of (R.prs t ht) hq (by intro z; cases z))⟩
theorem But.loan {q x dx l C : Addr} {H H' : Hp} {ts : List Trp} {z : Ln} {xs : List V} (b : But q H H') (hq : H q = some (.lst xs)) (n : l ≠ q) (A : LoanAt C H x dx l ts z) : LoanAt C H' x dx l ts z :=
  ⟨b _ _ A.ob (ne_of A.ob hq (by intro z; cases z)), b.rowl hq n A.row⟩
theorem But.loanx {y dy x dx l C : Addr} {fs : List (Str × V)} {H H' : Hp} {ts : List Trp} {z : Ln} (b : But y H H') (hy : H y = some (.ins C dy fs)) (n : x ≠ y) (A : LoanAt C H x dx l ts z) : LoanAt C H' x dx l ts z :=
  ⟨b _ _ A.ob n, b.row hy A.row⟩
theorem seq_butl {K : PySem.W.Frag} {H H' : Hp} {q a : Addr} {xs ys : List V} (b : But q H H') (n : a ≠ q) (h : SqL K H a xs) : SqL K H' a xs := by
  rcases h with (h | ⟨o, h⟩) | h
  · exact .inl (.inl (b _ _ h n))
  · exact .inl (.inr ⟨o, b _ _ h n⟩)
  · exact .inr h
theorem Rok.snoc {ps : List Pr} (k : Rok ps) {d r : Int} (h1 : lastDay ps < d) (h2 : d ≤ 100000) (h3 : 0 ≤ r) (h4 : r ≤ 100000) (h5 : ps.length < 1000) : Rok (ps ++ [(d, r)]) := by
  refine ⟨k.g.snoc h1 h3 h4, ?_, by rw [List.length_append]; exact h5⟩
  unfold lastDay
  rw [getLastD_append]
  exact h2
theorem lastDay_snoc (ps : List Pr) (d r : Int) : lastDay (ps ++ [(d, r)]) = d := by
  unfold lastDay
  rw [getLastD_append]
/-- what a change of the rate is told -/
def dueC (ps : List Pr) (at1 d r : Int) : Vd := if d ≤ at1 ∨ d ≤ lastDay ps ∨ d > 100000 then .day else if 0 ≤ r ∧ r ≤ 100000 then .ok else .rate
theorem dueC_ok {ps : List Pr} {at1 d r : Int} (h : dueC ps at1 d r = .ok) : ¬ (d ≤ at1 ∨ d ≤ lastDay ps ∨ d > 100000) ∧ 0 ≤ r ∧ r ≤ 100000 := by
  unfold dueC at h
  split at h
  · cases h
  · rename_i c
    split at h
    · rename_i c2
      exact ⟨c, c2⟩
    · cases h
/-- what is owed does not fall by itself -/
theorem owedF_mono {l b b2 : Int} (h : b ≤ b2) : owedF l b ≤ owedF l b2 := by unfold owedF; omega
theorem begunAt_mono {ps : List Pr} {z : Ln} {d : Int} (h : LnOk z) (g : Good ps) (hd : z.day ≤ d) : z.begun ≤ begunAt ps z d := by
  have h1 := (gsum_ok g.rate hd).1
  have h2 := Int.mul_nonneg h.l0 h1
  unfold begunAt
  omega
theorem begunAt_self (ps : List Pr) (z : Ln) : begunAt ps z z.day = z.begun := by
  unfold begunAt
  rw [gsum_self, Int.mul_zero, Int.add_zero]
end Toy
/-! ### errors: calls in a try, clauses with and without a name, isinstance of the error in hand, a def asked about it -/
namespace L2
open PySem PySem.Spec PyProof.Rows
section
variable {X : Cx} {CX : CXT} {k : Nat} {f C : Addr} {fd : FuncData} {ps : List Str} {sp : Sp} {E : St → XK} {x m : Str} {p pos apos : Pos} {e o : Expr} {es : List Expr} {ta : TE} {t : TA}
/-- a method's call in a try: what it lets out is wished for at the slots -/
def tMethT (C : Addr) (m : Str) (sp : Sp) (E : St → XK) (ta : TE) (t : TA) : TE := fun σ H Q => ta σ H fun v H1 => ∃ a dx fs, v = .ref a ∧ H1 a = some (.ins C dx fs) ∧ fs.lookup m = none ∧ t σ H1 fun vs H2 => sp (v :: vs) H2 Q (E σ)
theorem pe_methT {pl : Sem Bool} (he : PE X o ta) (c : Cls X.K C) (hm : Meth X.K C m f) (F : FnOk X.prog X.w X.K X.mg X.base CX k f fd ps sp) (hr : Room k X.A) (hb : Binds X.K fd ps []) (hx : ∀ σ, PassesAt CX X σ (E σ)) (ha : PA X (e :: es) t)
    (hst : starEach (e :: es) X.env = (false, eval e X.env) :: starEach es X.env := by rfl) (hpl : (backTo pos (starEach es X.env)).any (·.1) = false := by rfl)
    (ht : eval (.Call (.Attribute o m apos) (e :: es) [] pos) X.env = (do
      let ov ← eval o X.env
      standAt apos.atName
      let (g, first) ← holding [ov] (getMethod ov m pl)
      callWith pos g first (backTo pos (starEach (e :: es) X.env)) (backToKw pos (keywordEach [] X.env))) := by rfl) :
    PE X (.Call (.Attribute o m apos) (e :: es) [] pos) (tMethT C m sp E ta t) := by
  refine ⟨fun pins s σ H Q I h => ?_⟩
  refine PySem.W.methodCall_KW (pl := pl) (thn (he.run pins s σ H _ I h) fun u s1 ⟨y, H1, I1, ry, a, dx, fs, ey, ea, l, q⟩ => ?_) ht
  subst ey
  obtain rfl : u = Value.ref a := ry
  refine getmeth_ok I1 ea c hm l ?_
  refine PySem.W.callWith_K (first := [.ref a]) (h₀ := X.base) I.ok.mod.kin hm.kp (thn (ha.run pos pins s1 σ H1 _ I1 q) fun us s2 ⟨vs, H2, I2, r, q2⟩ => ⟨I2.kIn, ?_⟩) hst hpl
  exact run_fnS (us := .ref a :: us) (vs := .ref a :: vs) F hr hb (hx σ) I2 (.cons rfl r) q2
/-- C(..) in a try -/
def tMakeT (C : Addr) (sp : Sp) (E : St → XK) (t : TA) : TE := fun σ H Q => t σ H fun vs H1 => ∀ x dx, H1 x = none → H1 dx = none → dx ≠ x →
  sp (.ref x :: vs) (upd (upd H1 dx (.own x)) x (.ins C dx [])) (fun v H2 => v = .non ∧ Q (.ref x) H2) (E σ)
theorem run_makeT {pins : List (Addr × Obj)} {σ : St} {H : Hp} {s : Shared} {Q : VK} {us : List Value} {vs : List V} (M : Mk X.K C f) (F : FnOk X.prog X.w X.K X.mg X.base CX k f fd ps sp) (hr : Room (k + 1) X.A) (hb : Binds X.K fd ps [])
    (hx : PassesAt CX X σ (E σ)) (I : Inv X pins σ H s) (r : Vals vs us)
    (h : ∀ x dx, H x = none → H dx = none → dx ≠ x → sp (.ref x :: vs) (upd (upd H dx (.own x)) x (.ins C dx [])) (fun v H2 => v = .non ∧ Q (.ref x) H2) (E σ)) :
    wpAny (model X.prog X.w) X.A (call (.ref C) us) (EP X pins σ Q) X.xe s := by
  have hq := h (s.heap.objs.size + 1) s.heap.objs.size (I.hok.fresh (Nat.le_succ _)) (I.hok.fresh (Nat.le_refl _)) (Nat.ne_of_lt (Nat.lt_succ_self _))
  have I2 := Inv.made (C := C) I
  have r2 : Vals (V.ref (s.heap.objs.size + 1) :: vs) (Value.ref (s.heap.objs.size + 1) :: us) := .cons rfl r
  have hl : ((Value.ref (s.heap.objs.size + 1) :: us) ++ []).length = ps.length := by
    rw [List.append_nil]
    have e1 := r2.length
    rw [F.len _ _ _ _ hq] at e1
    exact e1.symm
  have b := hb _ (Value.ref (s.heap.objs.size + 1) :: us) I2.kIn hl
  rw [List.append_nil] at b
  refine wpAny_call (make_map (f := f) I.kIn M.makes M.init (beq_iff_eq.mp M.fn) (codeAny_mono (F.run _ X.stack _ _ ⟨Value.ref (s.heap.objs.size + 1) :: us, []⟩ (Value.ref (s.heap.objs.size + 1) :: us) _ _ (E σ) (hr.make C us [])
    (I2.env0.make C us []) b r2 hq) fun r s' hq' => ?_))
  cases r with
  | error e => exact hx pins _ _ e s' I2 hq'
  | ok fl =>
    cases fl with
    | ret u =>
      obtain ⟨v, H', I3, rv, ev, q3⟩ := I2.after hq'
      subst ev
      exact ⟨rv, ⟨V.ref (s.heap.objs.size + 1), H', I3, rfl, q3⟩⟩
    | next => exact False.elim hq'
    | brk => exact False.elim hq'
    | cont => exact False.elim hq'
theorem pe_makeT (M : Mk X.K C f) (F : FnOk X.prog X.w X.K X.mg X.base CX k f fd ps sp) (hr : Room (k + 1) X.A) (hm : X.mg x = some (.ref C)) (hb : Binds X.K fd ps []) (hx : ∀ σ, PassesAt CX X σ (E σ))
    (ha : PA X (e :: es) t) (hg : Gl X x := by rfl) (hdb : (x == ("__debug__" : Str)) = false := by decide) (he : starEach (e :: es) X.env = (false, eval e X.env) :: starEach es X.env := by rfl) (hpl : (backTo pos (starEach es X.env)).any (·.1) = false := by rfl) :
    PE X (.Call (.Name x p) (e :: es) [] pos) (tMakeT C sp E t) := by
  refine ⟨fun pins s σ H Q I h => ?_⟩
  refine wpAny_Call_Name_kw (ld_glob I hg hm ?_ hdb)
  refine PySem.W.callWith_K (h₀ := X.base) I.ok.mod.kin M.kp (thn (ha.run pos pins s σ H _ I h) fun us s1 ⟨vs, H1, I1, r, q⟩ => ⟨I1.kIn, ?_⟩) he hpl
  exact run_makeT M F hr hb (hx σ) I1 r q
end

/-! #### isinstance(e, c), e the error in hand (a pinned object) -/
def rIsX (K : PySem.W.Frag) (cls : Value) (d : Option Addr) (a : Addr) : List V → Hp → VK → Prop := fun xs H Q => ∃ (D : Addr) (c : V) (cv : Value) (b : Bool), cls = .ref D ∧ d = none ∧ ExcC K D ∧ xs = [.ref a, c] ∧ (∀ u, RelV c u → u = cv) ∧ PySem.W.kitOne K (.ref D) cv = some b ∧ Q (.bl b) H
theorem call_isX {X : Cx} {a : Addr} {oe : Obj} {cls : Value} {d : Option Addr} (hz : Zc cls d oe) (hf : ∃ vs, oe.data = .fields vs) (hp : (a, oe) ∈ X.pn) : CallR X (.builtin "isinstance") (rIsX X.K cls d a) := by
  intro pins s σ H xs us Q I r h
  obtain ⟨D, c, cv, b, rfl, rfl, C, rfl, hcv, e, q⟩ := h
  obtain ⟨u1, u2, rfl, r1, r2⟩ := vals2 r
  obtain rfl : u1 = Value.ref a := r1
  obtain rfl := hcv _ r2
  have hget := (I.pin (a, oe) (List.mem_append_left _ hp)).1
  have J : PySem.W.InstAt s.heap a oe D none := by
    obtain ⟨oc, od, oda, osl⟩ := oe
    obtain ⟨h1, h2⟩ := hz
    obtain ⟨vs, hv⟩ := hf
    dsimp only at h1 h2 hv
    subst h1 h2 hv
    exact ⟨hget, rfl, rfl, trivial⟩
  exact PySem.W.kia_one (PySem.W.handS_kitx_exc C.hg C.hk C.hs C.hd C.ha C.hn C.ht C.hm) I.kIn J e (fun z => nomatch z) fun tk => ⟨.bl b, H, I.kept (t' := tk) fun _ _ z => z, rfl, q⟩

/-! #### a def that is asked about the error in hand: it answers v, all stays -/
def FnE (P : Program) (w : World) (K : PySem.W.Frag) (mg : Str → Option Value) (base : Heap) (k : Nat) (f : Addr) (fd : FuncData) (ps : List Str) (ok : Addr × Obj → Prop) (v : V) : Prop :=
  ∀ (A : Around) (outer : List Env) (s : Shared) (H : Hp) (args : Args) (p : Addr × Obj), L2H.RoomH k A → L2H.PinOk outer H s p → Env0 P w K mg base A outer s H → BindsTo s fd args (ps.zip [.ref p.1]) → ok p →
    codeAny (model P w) A (.call (.ref f) args) (CR CX0 outer P w H s (fun u H' => u = v ∧ H' = H) E0) s
theorem fnE_of {P : Program} {w : World} {K : PySem.W.Frag} {mg : Str → Option Value} {base : Heap} {k : Nat} {f : Addr} {fd : FuncData} {x : Str} {st : Stmt} {N ps : List Str} {ok : Addr × Obj → Prop} {v : V} (F : Fun K x x st f fd) (S : FnScope N ps (defScope st)) (one : ps.length = 1)
    (hbody : ∀ (cdv : Value) (A : Around) (outer : List Env) (s : Shared) (H : Hp) (p : Addr × Obj), L2H.RoomH k (A.deeper (envOfC x (defScope st) s.heap.objs.size f cdv)) → ok p →
      ∃ t, PSs (L2H.cxH CX0 P w K mg base N x (defScope st) f cdv A outer s H E0 p) (defBody st) t ∧ t { nx := fun _ H' => V.non = v ∧ H' = H, rt := fun u H' => u = v ∧ H' = H } (start N [.ref p.1]) H) :
    FnE P w K mg base (k + 1) f fd ps ok v := by
  obtain ⟨oc, od, kV, doc, pm, an, cdv, ct, osl, rfl, lk, hcd⟩ := F.ex
  intro A outer s H args p hr hpin e0 hb hok
  have KX : K.In s.heap := e0.mod.kin.keeps fun b o e => (e0.bs b o e).1
  have lim : s.heap.NoLimit := e0.mod.nolimit.keeps fun b o e => (e0.bs b o e).1
  have hkind : ∀ y ∈ ps.zip [Value.ref p.1], (defScope st).names.lookup y.1 = some .local ∨ ((defScope st).names.lookup y.1 = some .cell ∧ ((cellsFrom (s.heap.objs.size + 1) (defScope st).names []).lookup y.1).isSome = true) := fun ⟨n, u⟩ hy => by
    rcases S.par n (List.of_mem_zip hy).1 with q | q
    · exact .inl q
    · exact .inr ⟨q, PySem.W.cellsFrom_some _ _ _ (.inl q)⟩
  refine codeAny_call_function hr.depth (KX _ _ lk) rfl S.co S.gen rfl (PySem.W.codeRec_of KX hcd) (hb _ _ _ _ ?_)
  refine wpAny_newFunctionEnv_cells S.kind hkind fun env he s1 y => ?_
  subst he
  refine ⟨lim.keeps y.toInCall.keep, codeAny_func ?_⟩
  obtain ⟨t, ht, hq⟩ := hbody cdv A outer s H p (hr.deeper _) hok
  have I : Inv (L2H.cxH CX0 P w K mg base N x (defScope st) f cdv A outer s H E0 p) [] (start N [.ref p.1]) H s1 := L2H.inv_startH (vs := [.ref p.1]) S hpin e0 (by rw [one]; rfl) (.cons rfl .nil) y
  refine wpAny_mono (ht.run [] s1 (start N [.ref p.1]) H _ I hq) (fun fl s' hs => ?_) fun e s' hs => hs
  cases fl with
  | ret u =>
    obtain ⟨u', σ', H', J, rv, q⟩ := hs
    exact ⟨u', H', J.os, J.bare, J.base, J.hok, rv, q⟩
  | next =>
    obtain ⟨σ', H', J, q⟩ := hs
    exact ⟨V.non, H', J.os, J.bare, J.base, J.hok, rfl, q⟩
  | brk =>
    obtain ⟨_, _, _, q⟩ := hs
    exact False.elim q
  | cont =>
    obtain ⟨_, _, _, q⟩ := hs
    exact False.elim q
/-- such a def, as its callers see it -/
structure De (P : Program) (w : World) (K : PySem.W.Frag) (mg : Str → Option Value) (base : Heap) (k : Nat) (x : Str) (ps : List Str) (ok : Addr × Obj → Prop) (v : V) where
  f : Addr
  fd : FuncData
  G : FnE P w K mg base k f fd ps ok v
  m : mg x = some (.ref f)
  kp : PySem.W.keepIn K (.ref f) = true
  b : Binds K fd ps []
/-- its call in a suite -/
theorem pe_callE {X : Cx} {k : Nat} {x : Str} {ps : List Str} {ok : Addr × Obj → Prop} {v : V} {a : Addr} {oe : Obj} {e : Expr} {te : TE} {q pos : Pos} {okc : Prop} (D : De X.prog X.w X.K X.mg X.base k x ps ok v) (hr : L2H.RoomH k X.A) (hp : (a, oe) ∈ X.pn) (one : ps.length = 1) (he : PE X e te) (hok : okc → ok (a, oe))
    (hg : Gl X x := by rfl) (hdb : (x == ("__debug__" : Str)) = false := by decide) (hs : starEach (e :: []) X.env = (false, eval e X.env) :: starEach [] X.env := by rfl) (hpl : (backTo pos (starEach [] X.env)).any (·.1) = false := by rfl) :
    PE X (.Call (.Name x q) [e] [] pos) (fun σ H Q => te σ H fun y H1 => [y] = [.ref a] ∧ okc ∧ Q v H1) := by
  refine ⟨fun pins s σ H Q I h => ?_⟩
  have ha : PA X [e] (tCons te tNil) := pa_cons he pa_nil (hs := hs)
  refine wpAny_Call_Name_kw (ld_glob I hg D.m ?_ hdb)
  refine PySem.W.callWith_K (h₀ := X.base) I.ok.mod.kin D.kp (thn (ha.run pos pins s σ H (fun vs H1 => vs = [.ref a] ∧ okc ∧ Q v H1) I h) fun us s1 hh => ?_) hs hpl
  obtain ⟨vs, H1, I1, r, rfl, hc, q1⟩ := hh
  refine ⟨I1.kIn, ?_⟩
  cases r with
  | cons r1 r2 =>
    cases r2
    obtain rfl := r1
    have P1 := I1.pin (a, oe) (List.mem_append_left _ hp)
    have hpin : L2H.PinOk X.stack H1 s1 (a, oe) := ⟨P1.1, P1.2.1, fun hm => (List.mem_cons.mp (I1.stkSub a hm)).elim P1.2.2.1 P1.2.2.2.1, P1.2.2.2.2⟩
    have hb := D.b s1 [.ref a] I1.kIn (by rw [List.append_nil, one]; rfl)
    rw [List.append_nil] at hb
    refine wpAny_call (codeAny_mono (D.G X.A X.stack s1 H1 ⟨[.ref a], []⟩ (a, oe) hr hpin I1.env0 hb (hok hc)) fun r s' hq => ?_)
    cases r with
    | error e => exact False.elim hq
    | ok fl =>
      cases fl with
      | ret u =>
        obtain ⟨u', H', I3, rv, rfl, rfl⟩ := I1.after hq
        exact ⟨_, _, I3, rv, q1⟩
      | next => exact False.elim hq
      | brk => exact False.elim hq
      | cont => exact False.elim hq

/-! #### a try whose clauses may bear a name -/
/-- a suite's ways out; where its clause has a name, the name's slot is emptied behind it -/
def sOut (o : Option Nat) (ts : TS) (a : Addr) : TS := match o with
  | none => ts
  | some i => fun D σ H => ts { nx := fun σ' H' => D.nx (σ'.set i none) H', rt := D.rt, bk := fun σ' H' => D.bk (σ'.set i none) H', ct := fun σ' H' => D.ct (σ'.set i none) H' } (σ.set i (some (.ref a))) H
abbrev Cl := Value × Option Nat × (Addr → Value → Option Addr → TS)
def wMix (K : PySem.W.Frag) (Wout : WX) (D : Ends) : List Cl → WX
  | [] => Wout
  | (c, o, ts) :: r => fun cls d σ H => ∃ b, PySem.W.exmOne K cls c = some b ∧ (b = true → ∀ a, H a = none → sOut o (ts a cls d) a D σ H) ∧ (b = false → wMix K Wout D r cls d σ H)
inductive MixOk (X : Cx) : List ExceptHandler → List Cl → Prop
  | nil : MixOk X [] []
  | plain {x : Str} {c : Value} {ts : Addr → Value → Option Addr → TS} {b1 : Stmt} {suite : List Stmt} {np pos' : Pos} {hds : List ExceptHandler} {l : List Cl} (hc : Names X x c)
      (hsu : ∀ (a : Addr) (oe : Obj) (cls : Value) (d : Option Addr) (pn : List (Addr × Obj)), Zc cls d oe → (∃ vs, oe.data = .fields vs) → PSs (X.suite a ((a, oe) :: pn)) (b1 :: suite) (ts a cls d)) (r : MixOk X hds l) :
      MixOk X (.ExceptHandler (some (.Name x np)) none (b1 :: suite) pos' :: hds) ((c, none, ts) :: l)
  | named {x n : Str} {c : Value} {i : Nat} {ts : Addr → Value → Option Addr → TS} {b1 : Stmt} {suite : List Stmt} {np pos' : Pos} {hds : List ExceptHandler} {l : List Cl} (hN : X.N.Nodup) (hi : X.N[i]? = some n) (hln : X.env.kindOf n = some .local) (hc : Names X x c)
      (hsu : ∀ (a : Addr) (oe : Obj) (cls : Value) (d : Option Addr) (pn : List (Addr × Obj)), Zc cls d oe → (∃ vs, oe.data = .fields vs) → PSs (X.suite a ((a, oe) :: pn)) (b1 :: suite) (ts a cls d)) (r : MixOk X hds l) :
      MixOk X (.ExceptHandler (some (.Name x np)) (some n) (b1 :: suite) pos' :: hds) ((c, some i, ts) :: l)
section
variable {X : Cx} {body : List Stmt} {hd1 : ExceptHandler} {hds : List ExceptHandler} {l : List Cl} {pos : Pos} {tb : WX → TS} {Wout : WX}
theorem ps_try_mix (hs : X.stack = X.env :: X.outer) (hf : X.env.frame = some X.env.locals) (tk : Takes X Wout)
    (hb : ∀ (W : WX) (pn : List (Addr × Obj)) (xe : Value → Shared → Prop), Takes (X.tr pn xe) W → PassesOwn (model X.prog X.w) X.A X.env xe → PSs (X.tr pn xe) body (tb W))
    (hh : MixOk X (hd1 :: hds) l) : PS X (.Try body (hd1 :: hds) [] [] pos) (fun D σ H => tb (wMix X.K Wout D l) D σ H) := by
  refine ⟨fun pins s σ H D I h => ?_⟩
  have ok := I.ok
  have hfr : X.A.frames = some (X.env :: X.outer) := by rw [ok.frames, hs]
  refine wpAny_Try_except ?_
  refine wpAny_mono ((hb (wMix X.K Wout D l) (X.pn ++ pins) (fun e sa => wpAny (model X.prog X.w) X.A (noteFrame e X.env) (fun _ sb => wpAny (model X.prog X.w) X.A (setFlight e none) (fun _ sc =>
    wpAny (model X.prog X.w) X.A (handleBy e X.env (hd1 :: hds)) (SP X pins D) X.xe sc) X.xe sb) X.xe sa) (fun u s' xx => ?_) PassesOwn.looking).run [] s σ H D (I.toTry _) h) (fun f s1 hsp => ?_) (fun e s1 he => he)
  · obtain ⟨a, B, sI, pins', σ', H', cls, d, rfl, J', nb, up, sky, na, os, ag, w⟩ := xx
    have J : Inv X pins σ' H' sI := J'.ofTry ok
    have sky' : Sky B (X.env :: X.outer) a (Zc cls d) X.env.locals s'.heap := by rw [← hs]; exact sky
    show wpAny (model X.prog X.w) X.A (noteFrame (.ref a) X.env) _ _ _
    refine Sky.land Zc.steady hfr hf sky' fun h3 fl3 up3 => ?_
    have J3 : Inv X pins σ' H' { s' with heap := h3 } := J.landed nb fl3.1 (up.trans up3) os ag
    obtain ⟨oe3, vs3, he3, hz3, hd3⟩ := fl3.there
    have nfr : a ∉ frs (X.env :: X.outer) := fun hm => by
      obtain ⟨_, o', e', hnf⟩ := fl3.2.2.1.mem hm
      rw [he3] at e'
      cases e'
      exact hnf _ hd3
    have nL : a ≠ X.env.locals := fun z => nfr (List.mem_filterMap.mpr ⟨X.env, List.mem_cons_self, by rw [hf, z]⟩)
    have nF : a ∉ X.fs := fun hm => by
      obtain ⟨e, he, q⟩ := List.mem_filterMap.mp hm
      exact nfr (List.mem_filterMap.mpr ⟨e, List.mem_cons_of_mem _ he, q⟩)
    have S3 := J3.suite he3 hd3 na nL nF
    have test : ∀ {x : Str} {c : Value} {np : Pos} {Q : Value → Shared → Prop} {E : Value → Shared → Prop}, Names X x c → Q c { s' with heap := h3 } → wpAny (model X.prog X.w) (X.A.mark (some (.ref a))) (eval (.Name x np) X.env) Q E { s' with heap := h3 } := fun {x c np Q E} hc q => by
      obtain ⟨hg, hdbg, hm | ⟨hm, hv, hnn⟩⟩ := hc
      · exact ld_glob (X := X.suite a ((a, oe3) :: (X.pn ++ pins))) S3 hg hm q hdbg
      · exact ld_blt (X := X.suite a ((a, oe3) :: (X.pn ++ pins))) S3 hg hm hv q hnn hdbg
    have LT : PySem.W.Looks (model X.prog X.w) h3 (typeOf (.ref a)) cls := fun A Q E s k q => wpAny_typeOf_ref (k _ _ he3) (by rw [hz3.1]; exact q)
    have go : ∀ {hs2 : List ExceptHandler} {l2 : List Cl}, MixOk X hs2 l2 → wMix X.K Wout D l2 cls d σ' H' →
        wpAny (model X.prog X.w) X.A (handleBy (.ref a) X.env hs2) (SP X pins D) X.xe { s' with heap := h3 } := by
      intro hs2 l2 hk
      induction hk with
      | nil =>
        intro w
        refine wpAny_handleBy_nil ?_
        obtain ⟨k1, k2, k3, oe, vs, T, oT, ts', he, hz, hd, h1, hr⟩ := id fl3
        unfold PySem.passOn
        refine wpAny_bind (wpAny_field he hd h1 ?_)
        rw [if_neg (show ¬ ((Value.ref T == Value.none) = true) from by simp)]
        have fin : wpAny (model X.prog X.w) X.A (setFlight (.ref a) X.env.frame) (fun _ s4 => wpAny (model X.prog X.w) X.A (throw (.ref a) : Sem Flow) (SP X pins D) X.xe s4) X.xe { s' with heap := h3 } := by
          rw [hf]
          refine HandSPX.setFlight_upZ fl3 fun h4 hh4 up4 => wpAny_throw (tk _ _ ?_)
          exact ⟨a, B, sI, pins, σ', H', cls, d, rfl, J, nb, (up.trans up3).trans up4, .inr (.inr (by rw [hs]; exact hh4)), na, os, ag, w⟩
        first
          | exact wpAny_bind (wpAny_pure (wpAny_bind fin))
          | exact wpAny_bind fin
      | @plain x c ts b1 suite np pos' hds2 l3 hc hsu r ih =>
        intro w
        obtain ⟨b, hb1, hyes, hno⟩ := w
        refine wpAny_handleBy_cons (codeAny_handlers_test ?_) (by intro q; cases q)
        have LM := PySem.W.exm_one (M := model X.prog X.w) (J3.kIn) LT hb1
        refine test hc (LM.here ?_)
        cases b with
        | false =>
          show wpAny _ X.A (handleBy (.ref a) X.env hds2) _ _ _
          exact ih (hno rfl)
        | true =>
          refine codeAny_handlers_suite ?_
          refine HandSPX.lands_againZ fl3 fun h4 fl4 up4 => ?_
          have J4 : Inv X pins σ' H' { s' with heap := h4 } := J.landed nb fl4.1 ((up.trans up3).trans up4) os ag
          obtain ⟨oe4, vs4, he4, hz4, hd4⟩ := fl4.there
          have S4 := J4.suite he4 hd4 na nL nF
          refine wpAny_mono ((hsu a oe4 cls d (X.pn ++ pins) hz4 ⟨_, hd4⟩).run [] _ _ H' _ S4 (hyes rfl a na)) (fun fl s6 hsp => ?_) (fun _ _ z => False.elim z)
          cases fl with
          | ret u =>
            obtain ⟨v6, σ6, H6, S6, r6, q6⟩ := hsp
            exact ⟨_, _, _, S6.unsuite ok, r6, q6⟩
          | next => exact hsp.elim fun σ6 ⟨H6, S6, q6⟩ => ⟨_, _, S6.unsuite ok, q6⟩
          | brk => exact hsp.elim fun σ6 ⟨H6, S6, q6⟩ => ⟨_, _, S6.unsuite ok, q6⟩
          | cont => exact hsp.elim fun σ6 ⟨H6, S6, q6⟩ => ⟨_, _, S6.unsuite ok, q6⟩
      | @named x n c i ts b1 suite np pos' hds2 l3 hN hi hln hc hsu r ih =>
        intro w
        obtain ⟨b, hb1, hyes, hno⟩ := w
        refine wpAny_handleBy_cons (codeAny_handlers_test ?_) (by intro q; cases q)
        have LM := PySem.W.exm_one (M := model X.prog X.w) (J3.kIn) LT hb1
        refine test hc (LM.here ?_)
        cases b with
        | false =>
          show wpAny _ X.A (handleBy (.ref a) X.env hds2) _ _ _
          exact ih (hno rfl)
        | true =>
          refine codeAny_handlers_suite_as ?_
          refine HandSPX.lands_againZ fl3 fun h4 fl4 up4 => ?_
          have J4 : Inv X pins σ' H' { s' with heap := h4 } := J.landed nb fl4.1 ((up.trans up3).trans up4) os ag
          obtain ⟨oe4, vs4, he4, hz4, hd4⟩ := fl4.there
          have S4 := J4.suite he4 hd4 na nL nF
          refine store_ok (X := X.suite a ((a, oe4) :: (X.pn ++ pins))) (v := .ref a) S4 hN hi (.inl hln) rfl (fun s5 S5 => ?_) (.inr hln)
          refine wpAny_mono ((hsu a oe4 cls d (X.pn ++ pins) hz4 ⟨_, hd4⟩).run [] s5 _ H' _ S5 (hyes rfl a na)) (fun fl s6 hsp => ?_) (fun _ _ z => False.elim z)
          have gone : ∀ {σ6 : St} {H6 : Hp} {Q : Shared → Prop}, Inv (X.suite a ((a, oe4) :: (X.pn ++ pins))) [] σ6 H6 s6 → (∀ s7, Inv X pins (σ6.set i none) H6 s7 → Q s7) →
              wpAny (model X.prog X.w) X.A (do bindName X.env n .none; unbindBehindTheSuite X.env n pos') (fun _ s7 => Q s7) X.xe s6 := fun {σ6 H6 Q} S6 hq => gone_ok (S6.unsuite ok) hN hi hln hq
          cases fl with
          | ret u =>
            obtain ⟨v6, σ6, H6, S6, r6, q6⟩ := hsp
            exact gone S6 fun s7 J7 => ⟨_, _, _, J7, r6, q6⟩
          | next => exact hsp.elim fun σ6 ⟨H6, S6, q6⟩ => gone S6 fun s7 J7 => ⟨_, _, J7, q6⟩
          | brk => exact hsp.elim fun σ6 ⟨H6, S6, q6⟩ => gone S6 fun s7 J7 => ⟨_, _, J7, q6⟩
          | cont => exact hsp.elim fun σ6 ⟨H6, S6, q6⟩ => gone S6 fun s7 J7 => ⟨_, _, J7, q6⟩
    exact go hh w
  · cases f with
    | ret u =>
      obtain ⟨v, σ', H', J', r, q⟩ := hsp
      exact ⟨v, σ', H', J'.ofTry ok, r, q⟩
    | next =>
      obtain ⟨σ', H', J', q⟩ := hsp
      exact wpAny_execs_nil ⟨σ', H', J'.ofTry ok, q⟩
    | brk =>
      obtain ⟨σ', H', J', q⟩ := hsp
      exact ⟨σ', H', J'.ofTry ok, q⟩
    | cont =>
      obtain ⟨σ', H', J', q⟩ := hsp
      exact ⟨σ', H', J'.ofTry ok, q⟩
end
end L2
namespace L2
open PySem PySem.Spec PyProof.Rows
theorem roomH_mark {j k : Nat} {A : Around} (r : Room j A) (v : Option Value) (h : k ≤ j := by decide) : L2H.RoomH k (A.mark v) := ⟨(r.mono h).dp, (r.mono h).un⟩
/-- what a law asks of an error in hand: it is of one of the classes in l, in order amount, rate, day, pay, note: the places at which it answers -/
theorem kit_own {K : PySem.W.Frag} {C D : Addr} {b : Bool} (h : PySem.W.kitOne K (.ref C) (.ref D) = some b) : PySem.W.kitOne K (.ref C) (.ref D) = some b := h
end L2
namespace L2
open PySem PySem.Spec PyProof.Rows
theorem kit_sub {K : PySem.W.Frag} {C D : Addr} {b : Bool} (hd : PySem.W.hasDictIn K D = true) (ht : PySem.W.typeIn K (.ref D) = some (.type "type")) (hs : PySem.W.subIn K (.ref D) (.ref D) = some true) (h : PySem.W.subIn K (.ref C) (.ref D) = some b) : PySem.W.kitOne K (.ref C) (.ref D) = some b := by
  unfold PySem.W.kitOne
  by_cases e : (Value.ref C == Value.ref D) = true
  · rw [if_pos e]
    have e2 : C = D := Value.ref.inj (beq_iff_eq.mp e)
    rw [e2, hs] at h
    exact h
  · rw [if_neg e]
    obtain ⟨cd, hc, _⟩ := PySem.W.any_some hd
    have e2 : ((PySem.W.clsIn K D).isSome && PySem.W.typeIn K (.ref D) == some (.type "type")) = true := by rw [hc, ht] <;> rfl
    show (if ((PySem.W.clsIn K D).isSome && PySem.W.typeIn K (.ref D) == some (.type "type")) = true then PySem.W.subIn K (.ref C) (.ref D) else none) = some b
    rw [if_pos e2]
    exact h
theorem kit_ve {K : PySem.W.Frag} {C : Addr} (h : PySem.W.subIn K (.ref C) (.type "ValueError") = some true) : PySem.W.kitOne K (.ref C) (.type "ValueError") = some true := by
  unfold PySem.W.kitOne
  rw [if_neg (show ¬ (Value.ref C == Value.type "ValueError") = true from fun z => nomatch (beq_iff_eq.mp z))]
  show (if PySem.W.kitMeta "ValueError" = true then PySem.W.subIn K (.ref C) (.type "ValueError") else none) = some true
  rw [if_pos (by decide +kernel)]
  exact h
end L2
namespace L2
open PySem PySem.Spec PyProof.Rows
theorem pe_isS {X : Cx} {a : Addr} {oe : Obj} {cls : Value} {d : Option Addr} {pn : List (Addr × Obj)} {e1 e2 : Expr} {t1 t2 : TE} {p pos : Pos} (hz : Zc cls d oe) (hf : ∃ vs, oe.data = .fields vs) (hm : X.mg "isinstance" = none)
    (h1 : PE (X.suite a ((a, oe) :: pn)) e1 t1) (h2 : PE (X.suite a ((a, oe) :: pn)) e2 t2) (hg : Gl (X.suite a ((a, oe) :: pn)) "isinstance" := by rfl)
    (g1 : starEach (e1 :: [e2]) (X.suite a ((a, oe) :: pn)).env = (false, eval e1 (X.suite a ((a, oe) :: pn)).env) :: starEach [e2] (X.suite a ((a, oe) :: pn)).env := by rfl) (g2 : starEach (e2 :: []) (X.suite a ((a, oe) :: pn)).env = (false, eval e2 (X.suite a ((a, oe) :: pn)).env) :: starEach [] (X.suite a ((a, oe) :: pn)).env := by rfl)
    (g3 : (backTo pos (starEach [e2] (X.suite a ((a, oe) :: pn)).env)).any (·.1) = false := by rfl) :
    PE (X.suite a ((a, oe) :: pn)) (.Call (.Name "isinstance" p) [e1, e2] [] pos) (tCB (rIsX X.K cls d a) (tCons t1 (tCons t2 tNil))) :=
  pe_callB (X := X.suite a ((a, oe) :: pn)) (id := "isinstance") (call_isX hz hf List.mem_cons_self) hg hm (by decide +kernel) (pa_cons h1 (pa_cons h2 pa_nil (hs := g2)) (hs := g1)) (by decide) (by decide) g1 g3
end L2
namespace L2
open PySem PySem.Spec PyProof.Rows
theorem ix_listK {X : Cx} {K : PySem.W.Frag} (h : X.K = K := by rfl) : IxR X (rIxL K) := by
  subst h
  exact ix_list
end L2
/-! ### plans: due days, payments -/
namespace Toy
open PySem L2
/-- due days in their turn, behind a -/
def daysB : Int → List Int → Bool
  | _, [] => true
  | a, d :: r => decide (a < d ∧ d ≤ 100000) && daysB d r
theorem daysB_cons {a d : Int} {r : List Int} : daysB a (d :: r) = true ↔ (a < d ∧ d ≤ 100000) ∧ daysB d r = true := by
  show (decide (a < d ∧ d ≤ 100000) && daysB d r) = true ↔ _
  rw [Bool.and_eq_true, decide_eq_true_iff]
theorem daysB_snoc : ∀ {a d : Int} {ds : List Int}, daysB a ds = true → ds.getLastD a < d → d ≤ 100000 → daysB a (ds ++ [d]) = true
  | a, d, [], _, h1, h2 => daysB_cons.mpr ⟨⟨h1, h2⟩, rfl⟩
  | a, d, e :: r, h, h1, h2 => by
    have h3 := daysB_cons.mp h
    refine daysB_cons.mpr ⟨h3.1, daysB_snoc h3.2 ?_ h2⟩
    cases r with
    | nil => exact h1
    | cons x y => exact h1
theorem daysB_mem : ∀ {a : Int} {ds : List Int}, daysB a ds = true → ∀ d ∈ ds, a < d ∧ d ≤ 100000
  | _, [], _, d, hd => by cases hd
  | a, e :: r, h, d, hd => by
    have h3 := daysB_cons.mp h
    rcases List.mem_cons.mp hd with e1 | e1
    · rw [e1]; exact h3.1
    · have := daysB_mem h3.2 d e1
      omega
theorem daysB_drop : ∀ {a : Int} {ds : List Int} {i : Nat} {d : Int}, daysB a ds = true → ds[i]? = some d → daysB d (ds.drop (i + 1)) = true ∧ a < d ∧ d ≤ 100000
  | _, [], _, _, _, h => by cases h
  | a, e :: r, 0, d, h, hd => by
    have h3 := daysB_cons.mp h
    obtain rfl : e = d := Option.some.inj hd
    exact ⟨h3.2, h3.1⟩
  | a, e :: r, i + 1, d, h, hd => by
    have h3 := daysB_cons.mp h
    have h4 := daysB_drop (i := i) h3.2 hd
    exact ⟨h4.1, by omega, h4.2.2⟩
theorem drop_get {α : Type} {l : List α} {i : Nat} {a : α} (h : l[i]? = some a) : l.drop i = a :: l.drop (i + 1) := by
  have h2 : l[i]'(List.getElem?_eq_some_iff.mp h).1 = a := (List.getElem?_eq_some_iff.mp h).2
  rw [← h2]
  exact (List.getElem_cons_drop _).symm
/-- what is paid on a due day -/
def dueP (ps : List Pr) (part : Int) (z : Ln) (d : Int) : Int := if owedF z.left (begunAt ps z d) < part then owedF z.left (begunAt ps z d) else part
/-- a part on each due day: the payments told, the loan behind them -/
def payAll (ps : List Pr) (part : Int) : Ln → List Int → List (List Int) × Ln
  | z, [] => ([], z)
  | z, d :: r => if dueP ps part z d = 0 then ([], z) else
    ([d, dueP ps part z d, (payF z.left (begunAt ps z d) (dueP ps part z d)).1, (payF z.left (begunAt ps z d) (dueP ps part z d)).2.1, (payLn ps z d (dueP ps part z d)).left] :: (payAll ps part (payLn ps z d (dueP ps part z d)) r).1,
      (payAll ps part (payLn ps z d (dueP ps part z d)) r).2)
theorem payAll_nil (ps : List Pr) (part : Int) (z : Ln) : payAll ps part z [] = ([], z) := rfl
theorem payAll_stop {ps : List Pr} {part : Int} {z : Ln} {d : Int} {r : List Int} (h : dueP ps part z d = 0) : payAll ps part z (d :: r) = ([], z) := by
  rw [payAll, if_pos h]
theorem payAll_go {ps : List Pr} {part : Int} {z : Ln} {d : Int} {r : List Int} (h : dueP ps part z d ≠ 0) : payAll ps part z (d :: r) =
    ([d, dueP ps part z d, (payF z.left (begunAt ps z d) (dueP ps part z d)).1, (payF z.left (begunAt ps z d) (dueP ps part z d)).2.1, (payLn ps z d (dueP ps part z d)).left] :: (payAll ps part (payLn ps z d (dueP ps part z d)) r).1,
      (payAll ps part (payLn ps z d (dueP ps part z d)) r).2) := by
  rw [payAll, if_neg h]
theorem owedF_ge {ps : List Pr} {z : Ln} {d : Int} (h : LnOk z) (g : Good ps) (hd : z.day ≤ d) : 0 ≤ owedF z.left (begunAt ps z d) := by
  have := begunAt_ge h g hd
  have := h.l0
  unfold owedF
  omega
theorem dueP_ok {ps : List Pr} {part : Int} {z : Ln} {d : Int} (h : LnOk z) (g : Good ps) (hd : z.day ≤ d) (hp : 0 ≤ part) : 0 ≤ dueP ps part z d ∧ dueP ps part z d ≤ owedF z.left (begunAt ps z d) ∧ dueP ps part z d ≤ part := by
  have := owedF_ge h g hd
  unfold dueP
  split <;> omega
theorem payAll_ok {ps : List Pr} {part : Int} (g : Good ps) (hp : 0 ≤ part) : ∀ {ds : List Int} {z : Ln}, LnOk z → daysB (z.day - 1) ds = true → LnOk (payAll ps part z ds).2
  | [], z, h, _ => h
  | d :: r, z, h, hd => by
    have h3 := daysB_cons.mp hd
    by_cases c : dueP ps part z d = 0
    · rw [payAll_stop c]
      exact h
    · rw [payAll_go c]
      have dp := dueP_ok (part := part) (d := d) h g (by omega) hp
      refine payAll_ok g hp (ds := r) (payLn_ok h g (by omega) h3.1.2 (by omega) dp.2.1) ?_
      show daysB (d - 1) r = true
      cases r with
      | nil => rfl
      | cons e r =>
        have h4 := daysB_cons.mp h3.2
        exact daysB_cons.mpr ⟨⟨by omega, h4.1.2⟩, h4.2⟩
theorem daysB_weak {a b : Int} {r : List Int} (h : daysB a r = true) (hb : b ≤ a) : daysB b r = true := by
  cases r with
  | nil => rfl
  | cons e r =>
    have h4 := daysB_cons.mp h
    exact daysB_cons.mpr ⟨⟨by omega, h4.1.2⟩, h4.2⟩
theorem payAll_len (ps : List Pr) (part : Int) : ∀ (ds : List Int) (z : Ln), (payAll ps part z ds).1.length ≤ ds.length
  | [], _ => Nat.le_refl _
  | d :: r, z => by
    by_cases c : dueP ps part z d = 0
    · rw [payAll_stop c]
      exact Nat.zero_le _
    · rw [payAll_go c]
      have := payAll_len ps part r (payLn ps z d (dueP ps part z d))
      simp only [List.length_cons]
      omega
/-! ### payments in the heap -/
abbrev Ps := Addr × List Int
def psV (ts : List Ps) : List V := ts.map fun t => V.ref t.1
def psL (ts : List Ps) : List (List Int) := ts.map fun t => t.2
structure Rs (H : Hp) (l : Addr) (ts : List Ps) : Prop where
  lst : H l = some (.lst (psV ts))
  prs : ∀ t ∈ ts, H t.1 = some (.tup (t.2.map V.int))
theorem psV_len (ts : List Ps) : (psV ts).length = ts.length := by unfold psV; rw [List.length_map]
theorem psL_len (ts : List Ps) : (psL ts).length = ts.length := by unfold psL; rw [List.length_map]
theorem Rs.same {H H' : Hp} {l : Addr} {ts : List Ps} (R : Rs H l ts) (e : Same H H') : Rs H' l ts := ⟨e _ _ R.lst, fun t ht => e _ _ (R.prs t ht)⟩
theorem Rs.getV {H : Hp} {l : Addr} {ts : List Ps} (R : Rs H l ts) {j : Nat} {p : List Int} (h : (psL ts)[j]? = some p) : ∃ a, (psV ts)[j]? = some (.ref a) ∧ H a = some (.tup (p.map V.int)) := by
  obtain ⟨t, e, rfl⟩ : ∃ t, ts[j]? = some t ∧ p = t.2 := by
    unfold psL at h
    rw [List.getElem?_map] at h
    cases e : ts[j]? with
    | none => rw [e] at h; cases h
    | some t => rw [e] at h; exact ⟨t, rfl, (Option.some.inj h).symm⟩
  exact ⟨t.1, by unfold psV; rw [List.getElem?_map, e]; rfl, R.prs t (List.mem_of_getElem? e)⟩
theorem Rs.snoc {H : Hp} {l p : Addr} {ts : List Ps} (R : Rs H l ts) (v : List Int) (hp : H p = some (.tup (v.map V.int))) : Rs (L2.upd H l (.lst (psV ts ++ [.ref p]))) l (ts ++ [(p, v)]) := by
  have q : ∀ t ∈ ts ++ [(p, v)], H t.1 = some (.tup (t.2.map V.int)) := fun t ht => by
    rcases List.mem_append.mp ht with e | e
    · exact R.prs t e
    · obtain rfl : t = (p, v) := by simpa using e
      exact hp
  refine ⟨by unfold psV; rw [List.map_append]; exact upd_same, fun t ht => ?_⟩
  have h := q t ht
  rw [L2.upd_ne (ne_of h R.lst (by intro z; cases z))]
  exact h
theorem psL_snoc (ts : List Ps) (p : Addr) (v : List Int) : psL (ts ++ [(p, v)]) = psL ts ++ [v] := by unfold psL; rw [List.map_append]; rfl
theorem But.rs {x l : Addr} {H H' : Hp} {ts : List Ps} {C dx : Addr} {fs : List (Str × V)} (a : But x H H') (hx : H x = some (.ins C dx fs)) (R : Rs H l ts) : Rs H' l ts :=
  ⟨a _ _ R.lst (ne_of R.lst hx (by intro q; cases q)), fun t ht => a _ _ (R.prs t ht) (ne_of (R.prs t ht) hx (by intro q; cases q))⟩
def rsD (ls : List (List Int)) : PyData := .list (ls.map tupD)
theorem rs_dpAll {K : PySem.W.Frag} {H : Hp} : ∀ {ts : List Ps}, (∀ t ∈ ts, H t.1 = some (.tup (t.2.map V.int))) → DpAll K H (psV ts) ((psL ts).map tupD)
  | [], _ => .nil
  | t :: r, h => .cons (tup_dp (SqT.of (h t (by simp)))) (rs_dpAll fun u hu => h u (by simp [hu]))
theorem Rs.dp {K : PySem.W.Frag} {H : Hp} {l : Addr} {ts : List Ps} (R : Rs H l ts) : Dp K H (.ref l) (rsD (psL ts)) := .lst (SqL.of R.lst) (rs_dpAll R.prs)
theorem rsD_can (ls : List (List Int)) : (rsD ls).canLay0 = true := by
  unfold rsD
  simp only [PyData.canLay0]
  exact can_all tupD_can ls
theorem rsD_dep (ls : List (List Int)) : (rsD ls).depth ≤ 2 := by
  unfold rsD
  simp only [PyData.depth]
  have := dep_all (f := tupD) (n := 1) tupD_dep ls
  omega
theorem rsD_shaped (ls : List (List Int)) : SeqAt.shaped (rsD ls) = true := shaped_of (rsD_can ls) (Nat.le_trans (rsD_dep ls) (by decide))
theorem rs_ne {K : PySem.W.Frag} {H : Hp} {a b : Addr} {ts us : List Ps} {Q : V → Hp → Prop} (R : Rs H a ts) (S : Rs H b us) (e : psL ts = psL us) (q : Q (.bl false) H) : rNeD K (.ref a) (.ref b) H Q :=
  ⟨_, _, R.dp, S.dp, rsD_shaped _, rsD_shaped _, by rw [e]; rw [show PyData.eqv (rsD (psL us)) (rsD (psL us)) = true from SeqAt.eqv_refl _ (rsD_can _)]; exact q⟩
/-- an object that two changes leave -/
def But2 (x l : Addr) (H H' : Hp) : Prop := ∀ b o, H b = some o → b ≠ x → b ≠ l → H' b = some o
theorem But2.row {x l r dx C : Addr} {H H' : Hp} {ts us : List Trp} {fs : List (Str × V)} (b : But2 x l H H') (hx : H x = some (.ins C dx fs)) (hl : Row H l us) (n : r ≠ l) (R : Row H r ts) : Row H' r ts :=
  ⟨b _ _ R.lst (ne_of R.lst hx (by intro q; cases q)) n, fun t ht => b _ _ (R.prs t ht) (ne_of (R.prs t ht) hx (by intro q; cases q)) (ne_of (R.prs t ht) hl.lst (by intro q; cases q))⟩
theorem But2.tup {x l p dx C : Addr} {H H' : Hp} {us : List Trp} {fs : List (Str × V)} {xs : List V} (b : But2 x l H H') (hx : H x = some (.ins C dx fs)) (hl : Row H l us) (h : H p = some (.tup xs)) : H' p = some (.tup xs) :=
  b _ _ h (ne_of h hx (by intro q; cases q)) (ne_of h hl.lst (by intro q; cases q))
end Toy
/-! ### what is owed behind a plan -/
namespace Toy
/-- the loan, gone on to a day -/
def moveLn (ps : List Pr) (z : Ln) (d : Int) : Ln := ⟨z.left, begunAt ps z d, d⟩
theorem begunAt_move {ps : List Pr} {z : Ln} {d e : Int} (h1 : z.day ≤ d) (h2 : d ≤ e) : begunAt ps (moveLn ps z d) e = begunAt ps z e := by
  unfold begunAt moveLn
  simp only
  unfold begunAt
  rw [gsum_split (m := d) (e := e) h1 h2, Int.mul_add, Int.add_assoc]
theorem moveLn_ok {ps : List Pr} {z : Ln} {d : Int} (h : LnOk z) (g : Good ps) (h1 : z.day ≤ d) (h2 : d ≤ 100000) : LnOk (moveLn ps z d) :=
  ⟨h.l0, h.l1, begunAt_ge h g h1, Int.le_trans h.d0 h1, h2⟩
/-- as the laws walk it: the loan and what is paid -/
def behindS (ps : List Pr) (part : Int) : Ln → Int → List Int → Ln × Int
  | z, t, [] => (z, t)
  | z, t, d :: r => if dueP ps part z d > 0 then behindS ps part (payLn ps z d (dueP ps part z d)) (t + dueP ps part z d) r else behindS ps part (moveLn ps z d) t r
theorem behindS_go {ps : List Pr} {part t : Int} {z : Ln} {d : Int} {r : List Int} (h : dueP ps part z d > 0) : behindS ps part z t (d :: r) = behindS ps part (payLn ps z d (dueP ps part z d)) (t + dueP ps part z d) r := by
  rw [behindS, if_pos h]
theorem behindS_not {ps : List Pr} {part t : Int} {z : Ln} {d : Int} {r : List Int} (h : ¬ dueP ps part z d > 0) : behindS ps part z t (d :: r) = behindS ps part (moveLn ps z d) t r := by
  rw [behindS, if_neg h]
/-- all that the payments told come to -/
def paidSum : List (List Int) → Int
  | [] => 0
  | p :: r => p.getD 1 0 + paidSum r
/-- the last day -/
def endDay (z : Ln) (ds : List Int) : Int := ds.getLastD z.day
/-- what is owed on the last due day -/
def setl (ps : List Pr) (part : Int) (z : Ln) (ds : List Int) : Int := owedF (payAll ps part z ds).2.left (begunAt ps (payAll ps part z ds).2 (endDay z ds))
theorem owedF_zero {l b : Int} (hl : 0 ≤ l) (hb : 0 ≤ b) (h : owedF l b = 0) : l = 0 ∧ b = 0 := by
  unfold owedF at h
  omega
theorem begunAt_left0 {ps : List Pr} {z : Ln} {d : Int} (h : z.left = 0) : begunAt ps z d = z.begun := by
  unfold begunAt
  rw [h, Int.zero_mul, Int.add_zero]
theorem daysB_next {d : Int} {r : List Int} (h : daysB d r = true) : daysB (d - 1) r = true := daysB_weak h (by omega)
/-- nothing is paid: of a part of nothing -/
theorem behindS_none {ps : List Pr} {t : Int} (g : Good ps) : ∀ {ds : List Int} {z : Ln}, LnOk z → daysB (z.day - 1) ds = true →
    (behindS ps 0 z t ds).2 = t ∧ (behindS ps 0 z t ds).1.left = z.left ∧ (behindS ps 0 z t ds).1.begun = begunAt ps z (endDay z ds) ∧ z.day ≤ endDay z ds
  | [], z, h, _ => ⟨rfl, rfl, (begunAt_self ps z).symm, Int.le_refl _⟩
  | d :: r, z, h, hd => by
    have h3 := daysB_cons.mp hd
    have dp := dueP_ok (part := 0) (d := d) h g (by omega) (Int.le_refl 0)
    have h4 := behindS_none (t := t) g (ds := r) (moveLn_ok h g (by omega) h3.1.2) (daysB_next h3.2)
    rw [behindS_not (by omega)]
    have e : endDay (moveLn ps z d) r = endDay z (d :: r) := by
      cases r with
      | nil => rfl
      | cons a b => rfl
    rw [e] at h4
    have h5 : d ≤ endDay z (d :: r) := h4.2.2.2
    exact ⟨h4.1, h4.2.1, h4.2.2.1.trans (begunAt_move (by omega) h5), by omega⟩
/-- nothing is owed: nothing is paid -/
theorem behindS_zero {ps : List Pr} {part t : Int} (g : Good ps) (hp : 0 ≤ part) : ∀ {ds : List Int} {z : Ln}, LnOk z → daysB (z.day - 1) ds = true → z.left = 0 → z.begun = 0 →
    (behindS ps part z t ds).2 = t ∧ (behindS ps part z t ds).1.left = 0 ∧ (behindS ps part z t ds).1.begun = 0
  | [], z, h, _, e1, e2 => ⟨rfl, e1, e2⟩
  | d :: r, z, h, hd, e1, e2 => by
    have h3 := daysB_cons.mp hd
    have dp := dueP_ok (part := part) (d := d) h g (by omega) hp
    have eb : begunAt ps z d = 0 := (begunAt_left0 e1).trans e2
    have e3 : owedF z.left (begunAt ps z d) = 0 := by rw [e1, eb]; rfl
    rw [behindS_not (by omega)]
    exact behindS_zero g hp (ds := r) (moveLn_ok h g (by omega) h3.1.2) (daysB_next h3.2) e1 eb
theorem endDay_cons (z : Ln) (d : Int) (r : List Int) (y : Ln) (hy : y.day = d) : endDay z (d :: r) = endDay y r := by
  unfold endDay
  rw [hy]
  cases r with
  | nil => rfl
  | cons a b => rfl
theorem endDay_ge {z : Ln} {ds : List Int} (h : daysB (z.day - 1) ds = true) : z.day ≤ endDay z ds := by
  unfold endDay
  cases ds with
  | nil => exact Int.le_refl _
  | cons a b =>
    have hm : (a :: b).getLastD z.day ∈ (a :: b) := by
      rw [List.getLastD_eq_getLast?, List.getLast?_eq_some_getLast (List.cons_ne_nil a b)]
      exact List.getLast_mem _
    have := daysB_mem h _ hm
    omega
theorem behindS_eq {ps : List Pr} {part : Int} (g : Good ps) (hp : 0 ≤ part) : ∀ {ds : List Int} {z : Ln} {t : Int}, LnOk z → daysB (z.day - 1) ds = true →
    owedF (behindS ps part z t ds).1.left (behindS ps part z t ds).1.begun = setl ps part z ds ∧ (behindS ps part z t ds).2 = t + paidSum (payAll ps part z ds).1
  | [], z, t, h, _ => by
    unfold setl
    rw [payAll_nil]
    unfold endDay
    show owedF z.left z.begun = owedF z.left (begunAt ps z z.day) ∧ t = t + 0
    rw [begunAt_self]
    exact ⟨rfl, by omega⟩
  | d :: r, z, t, h, hd => by
    have h3 := daysB_cons.mp hd
    have dp := dueP_ok (part := part) (d := d) h g (by omega) hp
    unfold setl
    by_cases c : dueP ps part z d = 0
    · rw [payAll_stop c, behindS_not (by omega)]
      simp only
      have hz : part = 0 ∨ owedF z.left (begunAt ps z d) = 0 := by
        unfold dueP at c
        split at c
        · exact .inr c
        · exact .inl c
      rcases hz with hz | hz
      · subst hz
        have h4 := behindS_none (t := t) g (ds := r) (moveLn_ok h g (show z.day ≤ d by omega) h3.1.2) (daysB_next h3.2)
        rw [← endDay_cons z d r (moveLn ps z d) rfl] at h4
        have h5 : d ≤ endDay z (d :: r) := h4.2.2.2
        rw [h4.1, h4.2.1, h4.2.2.1, begunAt_move (by omega) h5]
        exact ⟨rfl, by simp [paidSum]⟩
      · have hz2 := owedF_zero h.l0 (begunAt_ge h g (by omega)) hz
        have e2 : z.begun = 0 := by rw [← hz2.2, begunAt_left0 hz2.1]
        have h4 := behindS_zero (t := t) g hp (ds := r) (moveLn_ok h g (show z.day ≤ d by omega) h3.1.2) (daysB_next h3.2) hz2.1 hz2.2
        rw [h4.1, h4.2.1, h4.2.2, begunAt_left0 hz2.1, hz2.1, e2]
        exact ⟨rfl, by simp [paidSum]⟩
    · rw [payAll_go c, behindS_go (by omega)]
      have h4 := behindS_eq g hp (ds := r) (t := t + dueP ps part z d) (payLn_ok (c := dueP ps part z d) h g (by omega) h3.1.2 (by omega) dp.2.1) (daysB_next h3.2)
      unfold setl at h4
      rw [← endDay_cons z d r (payLn ps z d (dueP ps part z d)) rfl] at h4
      refine ⟨h4.1, ?_⟩
      rw [h4.2]
      simp only [paidSum]
      show t + dueP ps part z d + _ = t + (dueP ps part z d + _)
      omega
theorem setl_ge {ps : List Pr} {part : Int} {z : Ln} {ds : List Int} (h : LnOk z) (g : Good ps) (hp : 0 ≤ part) (hd : daysB (z.day - 1) ds = true) (he : (payAll ps part z ds).2.day ≤ endDay z ds) : 0 ≤ setl ps part z ds :=
  owedF_ge (payAll_ok g hp h hd) g he
theorem payAll_day {ps : List Pr} {part : Int} : ∀ {ds : List Int} {z : Ln}, daysB (z.day - 1) ds = true → (payAll ps part z ds).2.day ≤ endDay z ds
  | [], z, _ => Int.le_refl _
  | d :: r, z, hd => by
    have h3 := daysB_cons.mp hd
    by_cases c : dueP ps part z d = 0
    · rw [payAll_stop c]
      exact endDay_ge hd
    · rw [payAll_go c, endDay_cons z d r (payLn ps z d (dueP ps part z d)) rfl]
      exact payAll_day (ds := r) (daysB_next h3.2)
/-- all that is owed on the first day settles it -/
theorem setl_all {ps : List Pr} {z : Ln} {d : Int} {r : List Int} (h : LnOk z) (g : Good ps) (hd : daysB (z.day - 1) (d :: r) = true) : setl ps (owedF z.left (begunAt ps z d)) z (d :: r) = 0 := by
  have h3 := daysB_cons.mp hd
  have og := owedF_ge (d := d) h g (by omega)
  have e : dueP ps (owedF z.left (begunAt ps z d)) z d = owedF z.left (begunAt ps z d) := by
    unfold dueP
    split <;> omega
  have b := behindS_eq (t := 0) g og h hd
  rw [← b.1]
  by_cases c : owedF z.left (begunAt ps z d) > 0
  · rw [behindS_go (by omega), e]
    have ez : payLn ps z d (owedF z.left (begunAt ps z d)) = ⟨0, 0, d⟩ := by
      unfold payLn payF
      rw [if_pos rfl]
    have h4 := behindS_zero (part := owedF z.left (begunAt ps z d)) (t := 0 + owedF z.left (begunAt ps z d)) g og (ds := r) (z := payLn ps z d (owedF z.left (begunAt ps z d))) (payLn_ok h g (by omega) h3.1.2 (by omega) (Int.le_refl _)) (by rw [ez]; exact daysB_next h3.2) (by rw [ez]) (by rw [ez])
    rw [h4.2.1, h4.2.2]
    rfl
  · have hz2 := owedF_zero h.l0 (begunAt_ge h g (by omega)) (show owedF z.left (begunAt ps z d) = 0 by omega)
    have e2 : z.begun = 0 := by rw [← hz2.2, begunAt_left0 hz2.1]
    have h4 := behindS_zero (part := owedF z.left (begunAt ps z d)) (t := 0) g og h hd hz2.1 e2
    rw [h4.2.1, h4.2.2]
    rfl
/-- a part of nothing does not settle what is owed -/
theorem setl_nothing {ps : List Pr} {z : Ln} {ds : List Int} (h : LnOk z) (g : Good ps) (hd : daysB (z.day - 1) ds = true) : owedF z.left z.begun ≤ setl ps 0 z ds := by
  have b := behindS_eq (part := 0) (t := 0) g (Int.le_refl 0) h hd
  have n := behindS_none (t := 0) g h hd
  rw [← b.1, n.2.1, n.2.2.1]
  exact owedF_mono (begunAt_mono h g n.2.2.2)
end Toy
/-! ### what a plan costs -/
namespace Toy
def costF (ps : List Pr) (part : Int) : Ln → List Int → Int
  | z, [] => owedF z.left z.begun
  | z, d :: r => if dueP ps part z d > 0 then dueP ps part z d + costF ps part (payLn ps z d (dueP ps part z d)) r else costF ps part (moveLn ps z d) r
theorem costF_go {ps : List Pr} {part : Int} {z : Ln} {d : Int} {r : List Int} (h : dueP ps part z d > 0) : costF ps part z (d :: r) = dueP ps part z d + costF ps part (payLn ps z d (dueP ps part z d)) r := by
  rw [costF, if_pos h]
theorem costF_not {ps : List Pr} {part : Int} {z : Ln} {d : Int} {r : List Int} (h : ¬ dueP ps part z d > 0) : costF ps part z (d :: r) = costF ps part (moveLn ps z d) r := by
  rw [costF, if_neg h]
theorem costF_behind {ps : List Pr} {part : Int} : ∀ {ds : List Int} {z : Ln} {t : Int}, (behindS ps part z t ds).2 + owedF (behindS ps part z t ds).1.left (behindS ps part z t ds).1.begun = t + costF ps part z ds
  | [], _, _ => rfl
  | d :: r, z, t => by
    by_cases c : dueP ps part z d > 0
    · rw [behindS_go c, costF_go c, costF_behind (ds := r)]
      omega
    · rw [behindS_not c, costF_not c, costF_behind (ds := r)]
theorem costF_paid {ps : List Pr} {part : Int} {ds : List Int} {z : Ln} (g : Good ps) (hp : 0 ≤ part) (h : LnOk z) (hd : daysB (z.day - 1) ds = true) : paidSum (payAll ps part z ds).1 + setl ps part z ds = costF ps part z ds := by
  have b := behindS_eq (t := 0) g hp h hd
  have c := costF_behind (ps := ps) (part := part) (ds := ds) (z := z) (t := 0)
  omega
theorem costF_zero {ps : List Pr} {part : Int} {ds : List Int} {z : Ln} (g : Good ps) (hp : 0 ≤ part) (h : LnOk z) (hd : daysB (z.day - 1) ds = true) (e1 : z.left = 0) (e2 : z.begun = 0) : costF ps part z ds = 0 := by
  have b := behindS_zero (part := part) (t := 0) g hp h hd e1 e2
  have c := costF_behind (ps := ps) (part := part) (ds := ds) (z := z) (t := 0)
  rw [b.1, b.2.1, b.2.2] at c
  have e : owedF 0 0 = 0 := rfl
  omega
theorem dueP_move {ps : List Pr} {part : Int} {z : Ln} {e d : Int} (h1 : z.day ≤ e) (h2 : e ≤ d) : dueP ps part (moveLn ps z e) d = dueP ps part z d := by
  unfold dueP
  rw [begunAt_move h1 h2]
  rfl
theorem costF_move {ps : List Pr} {part : Int} {z : Ln} {e d : Int} {r : List Int} (h1 : z.day ≤ e) (h2 : e ≤ d) : costF ps part (moveLn ps z e) (d :: r) = costF ps part z (d :: r) := by
  have e1 := dueP_move (ps := ps) (part := part) h1 h2
  have e2 : ∀ c, payLn ps (moveLn ps z e) d c = payLn ps z d c := fun c => by
    unfold payLn
    rw [begunAt_move h1 h2]
    rfl
  have e3 : moveLn ps (moveLn ps z e) d = moveLn ps z d := by
    show Ln.mk z.left (begunAt ps (moveLn ps z e) d) d = _
    rw [begunAt_move h1 h2]
    rfl
  by_cases c : dueP ps part z d > 0
  · rw [costF_go c, costF_go (by rw [e1]; exact c), e1, e2]
  · rw [costF_not c, costF_not (by rw [e1]; exact c), e3]
/-- a payment of less than all takes as much off what is owed -/
theorem owedF_part {l b c : Int} (hb : 0 ≤ b) (h1 : c ≤ owedF l b) (h0 : 1 ≤ c) : owedF (payF l b c).2.2.1 (payF l b c).2.2.2 = owedF l b - c := by
  unfold payF
  by_cases e : c = owedF l b
  · rw [if_pos e]
    show owedF 0 0 = _
    rw [e]
    show (0 : Int) + (0 + 1000000 - 1) / 1000000 = _
    omega
  · rw [if_neg e]
    unfold owedF at *
    simp only
    split <;> omega
theorem costF_ge {ps : List Pr} {part : Int} (g : Good ps) (hp : 0 ≤ part) : ∀ {ds : List Int} {z : Ln}, LnOk z → daysB (z.day - 1) ds = true → owedF z.left z.begun ≤ costF ps part z ds
  | [], _, _, _ => Int.le_refl _
  | d :: r, z, h, hd => by
    have h3 := daysB_cons.mp hd
    have dp := dueP_ok (part := part) (d := d) h g (by omega) hp
    have om := owedF_mono (l := z.left) (begunAt_mono h g (show z.day ≤ d by omega))
    by_cases c : dueP ps part z d > 0
    · rw [costF_go c]
      have h4 := costF_ge g hp (ds := r) (payLn_ok (c := dueP ps part z d) h g (by omega) h3.1.2 (by omega) dp.2.1) (daysB_next h3.2)
      have h5 := owedF_part (begunAt_ge h g (show z.day ≤ d by omega)) dp.2.1 (by omega)
      unfold payLn at h4
      simp only at h4
      unfold payLn
      omega
    · rw [costF_not c]
      have h4 := costF_ge g hp (ds := r) (moveLn_ok h g (by omega) h3.1.2) (daysB_next h3.2)
      have h5 : owedF (moveLn ps z d).left (moveLn ps z d).begun = owedF z.left (begunAt ps z d) := rfl
      omega
/-- what is owed, in millionths -/
def debt (l b : Int) : Int := l * 1000000 + b
theorem debt_owed {l b : Int} : owedF l b = (debt l b + 999999) / 1000000 := by
  unfold owedF debt
  omega
/-- less than all is paid of both: the one stays below the other -/
theorem pay_below {l b l2 b2 c k : Int} (hb : 0 ≤ b) (hb2 : 0 ≤ b2) (h1 : 1 ≤ c) (h2 : c < owedF l2 b2) (hl : l2 ≤ l) (hk : 0 ≤ k) (hd : debt l2 b2 + k * 1000000 ≤ debt l b) :
    (payF l2 b2 c).2.2.1 ≤ (payF l b c).2.2.1 ∧ debt (payF l2 b2 c).2.2.1 (payF l2 b2 c).2.2.2 + k * 1000000 ≤ debt (payF l b c).2.2.1 (payF l b c).2.2.2 := by
  have h3 : c < owedF l b := by
    rw [debt_owed] at h2 ⊢
    omega
  unfold payF
  rw [if_neg (show ¬ c = owedF l2 b2 by omega), if_neg (show ¬ c = owedF l b by omega)]
  unfold debt at *
  simp only
  split <;> split <;> omega
/-- an early payment does not make it dearer -/
theorem costF_below {ps : List Pr} {part : Int} (g : Good ps) (hp : 0 ≤ part) : ∀ {ds : List Int} {z y : Ln} {k : Int}, LnOk z → LnOk y → y.day = z.day → daysB (z.day - 1) ds = true → y.left ≤ z.left → 0 ≤ k → debt y.left y.begun + k * 1000000 ≤ debt z.left z.begun →
    costF ps part y ds + k ≤ costF ps part z ds
  | [], z, y, k, hz, hy, ed, hd, hl, hk, hb => by
    show owedF y.left y.begun + k ≤ owedF z.left z.begun
    rw [debt_owed, debt_owed]
    omega
  | d :: r, z, y, k, hz, hy, ed, hd, hl, hk, hb => by
    have h3 := daysB_cons.mp hd
    have zd : z.day ≤ d := by omega
    have yd : y.day ≤ d := by omega
    have dz := dueP_ok (part := part) (d := d) hz g zd hp
    have dy := dueP_ok (part := part) (d := d) hy g yd hp
    have bz := begunAt_ge hz g zd
    have bY := begunAt_ge hy g yd
    have gs := (gsum_ok g.rate zd).1
    have hb1 : debt y.left (begunAt ps y d) + k * 1000000 ≤ debt z.left (begunAt ps z d) := by
      have hm := Int.mul_le_mul_of_nonneg_right hl gs
      unfold debt begunAt at *
      rw [ed]
      omega
    have ow : owedF y.left (begunAt ps y d) + k ≤ owedF z.left (begunAt ps z d) := by
      rw [debt_owed, debt_owed]
      omega
    have cz : owedF z.left (begunAt ps z d) ≤ costF ps part z (d :: r) := by
      rw [← costF_move (e := d) zd (Int.le_refl d)]
      exact costF_ge g hp (moveLn_ok hz g zd h3.1.2) (daysB_cons.mpr ⟨⟨by show d - 1 < d; omega, h3.1.2⟩, h3.2⟩)
    by_cases c : owedF y.left (begunAt ps y d) ≤ part
    · -- y pays all
      have ey : dueP ps part y d = owedF y.left (begunAt ps y d) := by
        unfold dueP
        split <;> omega
      have ec : costF ps part y (d :: r) = owedF y.left (begunAt ps y d) := by
        by_cases c2 : dueP ps part y d > 0
        · rw [costF_go c2, ey]
          have ez : payLn ps y d (owedF y.left (begunAt ps y d)) = ⟨0, 0, d⟩ := by
            unfold payLn payF
            rw [if_pos rfl]
          rw [costF_zero g hp (payLn_ok hy g yd h3.1.2 (by omega) (Int.le_refl _)) (by rw [ez]; exact daysB_next h3.2) (by rw [ez]) (by rw [ez])]
          omega
        · rw [costF_not c2]
          have hz2 := owedF_zero hy.l0 bY (show owedF y.left (begunAt ps y d) = 0 by omega)
          rw [costF_zero g hp (moveLn_ok hy g yd h3.1.2) (daysB_next h3.2) hz2.1 hz2.2]
          omega
      omega
    · have ey : dueP ps part y d = part := by
        unfold dueP
        split <;> omega
      have ez : dueP ps part z d = part := by
        unfold dueP
        split <;> omega
      by_cases c2 : part > 0
      · rw [costF_go (by rw [ey]; exact c2), costF_go (by rw [ez]; exact c2), ey, ez]
        have pb := pay_below bz bY (show 1 ≤ part by omega) (by omega) hl hk hb1
        have h4 := costF_below g hp (ds := r) (k := k) (payLn_ok (c := part) hz g zd h3.1.2 (by omega) (by omega)) (payLn_ok (c := part) hy g yd h3.1.2 (by omega) (by omega)) rfl (daysB_next h3.2) pb.1 hk pb.2
        omega
      · rw [costF_not (by rw [ey]; exact c2), costF_not (by rw [ez]; exact c2)]
        exact costF_below g hp (ds := r) (k := k) (moveLn_ok hz g zd h3.1.2) (moveLn_ok hy g yd h3.1.2) rfl (daysB_next h3.2) hl hk hb1
/-- what an early payment saves is not below nothing -/
theorem saved_ge {ps : List Pr} {part : Int} {z : Ln} {e c d : Int} {r : List Int} (g : Good ps) (hp : 0 ≤ part) (h : LnOk z) (h1 : z.day ≤ e) (h2 : e ≤ d) (hd : daysB (z.day - 1) (d :: r) = true) (c1 : 1 ≤ c) (c2 : c ≤ owedF z.left (begunAt ps z e)) :
    0 ≤ costF ps part z (d :: r) - c - costF ps part (payLn ps z e c) (d :: r) := by
  have h3 := daysB_cons.mp hd
  have hde : daysB (e - 1) (d :: r) = true := daysB_cons.mpr ⟨⟨by omega, h3.1.2⟩, h3.2⟩
  have hm := moveLn_ok h g h1 (show e ≤ 100000 by omega)
  have hpay := payLn_ok h g h1 (show e ≤ 100000 by omega) c1 c2
  rw [← costF_move h1 h2]
  by_cases ec : c = owedF z.left (begunAt ps z e)
  · have ez : payLn ps z e c = ⟨0, 0, e⟩ := by
      unfold payLn payF
      rw [if_pos ec]
    rw [costF_zero (z := payLn ps z e c) g hp hpay (by rw [ez]; exact hde) (by rw [ez]) (by rw [ez])]
    have h4 := costF_ge g hp hm hde
    have h5 : owedF (moveLn ps z e).left (moveLn ps z e).begun = owedF z.left (begunAt ps z e) := rfl
    omega
  · have pk := payF_ok h.l0 (begunAt_ge h g h1) c1 c2
    have h4 := costF_below (part := part) g hp (z := moveLn ps z e) (y := payLn ps z e c) (k := c) hm hpay rfl hde pk.2.2.2.2.1 (by omega) (by
      show debt (payF z.left (begunAt ps z e) c).2.2.1 (payF z.left (begunAt ps z e) c).2.2.2 + c * 1000000 ≤ debt z.left (begunAt ps z e)
      unfold payF
      rw [if_neg ec]
      unfold debt
      simp only
      split <;> omega)
    omega
theorem payAll_five {ps : List Pr} {part : Int} : ∀ {ds : List Int} {z : Ln}, ∀ p ∈ (payAll ps part z ds).1, ∃ a b c d e, p = [a, b, c, d, e]
  | [], _, p, hp => by cases hp
  | d :: r, z, p, hp => by
    by_cases c : dueP ps part z d = 0
    · rw [payAll_stop c] at hp
      cases hp
    · rw [payAll_go c] at hp
      rcases List.mem_cons.mp hp with e | e
      · exact ⟨_, _, _, _, _, e⟩
      · exact payAll_five p e
end Toy
namespace Toy
open PySem L2
theorem end_atC {z : Ln} {ds : List Int} (h : ds ≠ []) : atI (ds.map V.int) (-1) = some (.int (endDay z ds)) := by
  obtain ⟨q, e, rfl⟩ := snoc_of h
  rw [List.map_append]
  unfold endDay
  rw [getLastD_append]
  exact atI_last _ _
theorem end_leC {z : Ln} {ds : List Int} (h : daysB (z.day - 1) ds = true) (ne : ds ≠ []) : endDay z ds ≤ 100000 := by
  obtain ⟨q, e, rfl⟩ := snoc_of ne
  unfold endDay
  rw [getLastD_append]
  exact (daysB_mem h e (by simp)).2
end Toy
/-! ### texts and words -/
namespace L2
open PySem PySem.Spec PyProof.Rows
section
variable {X : Cx}
/-- a text, none or one time -/
theorem op_repS : OpR X (binaryOp .Mult) (fun x y H Q => ∃ i k, x = .str i ∧ y = .int k ∧ (k = 0 ∨ k = 1) ∧ Q (.str (if k = 0 then Str.empty else i)) H) := by
  intro pins s σ H x y v u Q I rx ry h
  obtain ⟨i, k, rfl, rfl, hk, q⟩ := h
  obtain ⟨t, rfl⟩ := rx
  obtain ⟨t', rfl⟩ := ry
  rcases hk with rfl | rfl
  · rw [if_pos rfl] at q
    exact P.mul_str_none (by decide) (by decide) ⟨.str Str.empty, H, I.tok _, ⟨_, rfl⟩, q⟩
  · rw [if_neg (by decide)] at q
    refine P.mul_str (by decide) (fun _ h => by simp at h) (fun _ h => by simp at h) ?_
    rw [if_neg (by decide), if_pos (by simp)]
    exact ⟨.str i, H, I, ⟨_, rfl⟩, q⟩
theorem ix_tupK {K : PySem.W.Frag} (h : X.K = K := by rfl) : IxR X (rIxT K) := by
  subst h
  exact ix_tup
end
end L2
namespace Toy
open PySem L2
/-- the four words -/
inductive Wd where | pl | le | co | sa
def wdS : Wd → Str
  | .pl => "plan"
  | .le => "least"
  | .co => "cost"
  | .sa => "saved"
/-- what is told of a word -/
def dueK (w : Wd) (at1 : Int) (ds : List Int) (part e c o : Int) : Str :=
  if daysB (at1 - 1) ds = false then "day" else
  match w with
  | .pl => if part < 1 then "pay" else ""
  | .le => if ds = [] then "day" else ""
  | .co => if ds = [] then "day" else if part < 1 then "pay" else ""
  | .sa => if ds = [] then "day" else if part < 1 then "pay" else if ¬ (at1 ≤ e ∧ e ≤ ds.headD 0) then "day" else if ¬ (1 ≤ c ∧ c ≤ o) then "pay" else ""
end Toy
/-! ### notes: numbers in figures -/
namespace Toy
open PySem L2
/-- a number as told: figures alone, 1 to 30, no nought ahead -/
def NumOk (a : Str) : Prop := (∀ c ∈ a.cps.toList, 48 ≤ c ∧ c ≤ 57) ∧ a.cps.toList ≠ [] ∧ a.length ≤ 30 ∧ ¬ (a.cps.toList.head? = some 48 ∧ 1 < a.length)
theorem fig_mem (c : Nat) : c ∈ ("0123456789" : Str).cps.toList ↔ 48 ≤ c ∧ c ≤ 57 := by
  have e : ("0123456789" : Str).cps.toList = [48, 49, 50, 51, 52, 53, 54, 55, 56, 57] := by decide +kernel
  rw [e]
  simp
  omega
theorem NumOk.int {a : Str} (h : NumOk a) : ∃ n, PySem.intText? a = some n ∧ 0 ≤ n := by
  have hl := h.2.2.1
  exact ⟨_, PySem.intText_digits h.1 h.2.1 (by omega), Int.natCast_nonneg _⟩
theorem str_nil {a : Str} : V.str a = V.str "" ↔ a.cps.toList = [] := by
  constructor
  · intro h
    have e := V.str.inj h
    rw [e]
    rfl
  · intro h
    have e : a = "" := by
      cases a with
      | mk c =>
        have h2 : c = #[] := Array.toList_eq_nil_iff.mp h
        rw [h2]
        rfl
    rw [e]
theorem len_str (a : Str) : a.cps.toList.length = a.length := Array.length_toList
theorem one_eq {c d : Nat} : V.str ⟨#[c]⟩ = V.str ⟨#[d]⟩ ↔ c = d := by
  constructor
  · intro h
    have e := congrArg (fun z : Str => z.cps.toList) (V.str.inj h)
    simpa using e
  · intro h
    rw [h]
end Toy
/-! ### words altered: a text thirty-one times, replace behind a written text -/
namespace L2
open PySem PySem.Spec PyProof.Rows
def ones31 : Str := "1111111111111111111111111111111"
section
variable {X : Cx}
theorem op_rep31 : OpR X (binaryOp .Mult) (fun x y H Q => x = .str "1" ∧ y = .int 31 ∧ Q (.str ones31) H) := by
  intro pins s σ H x y v u Q I rx ry h
  obtain ⟨rfl, rfl, q⟩ := h
  obtain ⟨t, rfl⟩ := rx
  obtain ⟨t', rfl⟩ := ry
  refine P.mul_str (by decide) (fun _ _ => by decide +kernel) (fun _ _ => by decide +kernel) ?_
  rw [if_neg (by decide), if_neg (by decide +kernel)]
  have e : (⟨(List.replicate (31 : Int).toNat ("1" : Str).cps).foldl (· ++ ·) #[]⟩ : Str) = ones31 := by decide +kernel
  rw [e]
  exact ⟨by decide +kernel, .str ones31, H, I.tok _, ⟨_, rfl⟩, q⟩
end
section
variable {X : Cx} {o f : Expr} {tf : TE} {to : TE} {c y z : Str} {j j0 k : Nat} {cp bp c0 c1 apos pos : Pos} {op : Operator} {r : R2}
theorem pe_give (ho : OpR X (binaryOp op) r) (hb : PE X f tf) (pins : List (Addr × Obj)) (s : Shared) (σ : St) (H : Hp) (Q : VK) (I : Inv X pins σ H s) (h : tOp r (tC (.str c)) tf σ H Q) :
    wpAny (model X.prog X.w) X.A (eval (.BinOp (.Constant (.str c) j cp) op f bp) X.env) (fun v s1 => 1 ≤ s1.toks ∧ EP X pins σ Q v s1) X.xe s := by
  refine wpAny_BinOp (Calls.Constant_str ?_)
  refine wpAny_mono (PySem.wpAny_toks (hb.run pins { s with toks := s.toks + 1 } σ H _ (I.tok _) h)) (fun u s2 q => ?_) fun _ _ z => z.2
  obtain ⟨hk, y, H2, I2, r2, q2⟩ := q
  have hk' : s.toks + 1 ≤ s2.toks := hk
  refine wpAny_mono (PySem.wpAny_toks (ho pins s2 σ H2 (V.str c) y (.str c s.toks) u Q I2 ⟨_, rfl⟩ r2 q2)) (fun v s3 q => ?_) fun _ _ z => z.2
  exact ⟨by have := q.1; omega, q.2⟩
/-- [c + f, o.replace(y, z)] -/
theorem pa_giveRepl (ho : OpR X (binaryOp op) r) (hb : PE X f tf) (hx : PE X o to) (hyz : (y == z) = false := by decide)
    (hs1 : starEach [.BinOp (.Constant (.str c) j cp) op f bp, .Call (.Attribute o "replace" apos) [.Constant (.str y) j0 c0, .Constant (.str z) k c1] [] pos] X.env = (false, eval (.BinOp (.Constant (.str c) j cp) op f bp) X.env) :: starEach [.Call (.Attribute o "replace" apos) [.Constant (.str y) j0 c0, .Constant (.str z) k c1] [] pos] X.env := by rfl)
    (hs2 : starEach [.Call (.Attribute o "replace" apos) [.Constant (.str y) j0 c0, .Constant (.str z) k c1] [] pos] X.env = (false, eval (.Call (.Attribute o "replace" apos) [.Constant (.str y) j0 c0, .Constant (.str z) k c1] [] pos) X.env) :: starEach [] X.env := by rfl)
    (hst : starEach [.Constant (.str y) j0 c0, .Constant (.str z) k c1] X.env = [(false, eval (.Constant (.str y) j0 c0) X.env), (false, eval (.Constant (.str z) k c1) X.env)] := by rfl)
    (hbase : attributeBase o "replace" X.env (eval o X.env) = eval o X.env := by rfl) (hline : (apos.endLine == pos.line) = true := by rfl) :
    PA X [.BinOp (.Constant (.str c) j cp) op f bp, .Call (.Attribute o "replace" apos) [.Constant (.str y) j0 c0, .Constant (.str z) k c1] [] pos] (tCons (tOp r (tC (.str c)) tf) (tCons (CwR.tReplC to y z) tNil)) := by
  refine ⟨fun ppos pins s σ H Q I h => ?_⟩
  rw [hs1]
  show wpAny _ _ (spliced ((false, eval (.BinOp (.Constant (.str c) j cp) op f bp) X.env) :: backTo ppos (starEach [.Call (.Attribute o "replace" apos) [.Constant (.str y) j0 c0, .Constant (.str z) k c1] [] pos] X.env))) _ _ s
  refine Calls.spliced_cons (thn (pe_give ho hb pins s σ H _ I h) fun u s1 q => ?_)
  obtain ⟨hk, x, H1, I1, r1, q1⟩ := q
  rw [hs2]
  show wpAny _ _ (spliced ((false, eval (.Call (.Attribute o "replace" apos) [.Constant (.str y) j0 c0, .Constant (.str z) k c1] [] pos) X.env) :: backTo ppos (starEach [] X.env))) _ _ s1
  refine Calls.spliced_cons (thn (CwR.pet_replC hx hyz hst hbase hline pins s1 σ H1 _ hk I1 q1) fun u2 s2 q2 => ?_)
  obtain ⟨x2, H2, I2, r2, q2⟩ := q2
  exact Calls.spliced_nil ⟨[x, x2], H2, I2, .cons r1 (.cons r2 .nil), q2⟩
end
end L2
/-! ### a desk: rows of text, and what each gives -/
namespace Toy
open PySem L2
def txt (n : Int) : Str := Str.ofString (toString n)
theorem app_len (i j : Str) : (i ++ j).length = i.length + j.length := by
  show (i.cps ++ j.cps).size = _
  rw [Array.size_append]
  rfl
inductive Nt where
  | pay (d c : Int)
  | rate (d r : Int)
  | owe (d : Int)
/-- the note that a row of text tells -/
def IsNt (l : Str) : Nt → Prop
  | .pay d c => ∃ x y, Txt.split l " " = [("pay" : Str), x, y] ∧ NumOk x ∧ NumOk y ∧ PySem.intText? x = some d ∧ PySem.intText? y = some c ∧ 0 ≤ d ∧ 0 ≤ c
  | .rate d r => ∃ x y, Txt.split l " " = [("rate" : Str), x, y] ∧ NumOk x ∧ NumOk y ∧ PySem.intText? x = some d ∧ PySem.intText? y = some r ∧ 0 ≤ d ∧ 0 ≤ r
  | .owe d => ∃ x, Txt.split l " " = [("owe" : Str), x] ∧ NumOk x ∧ PySem.intText? x = some d ∧ 0 ≤ d
theorem some_inj2 {a b : Int} {o : Option Int} (h : o = some a) (k : o = some b) : a = b := Option.some.inj (h.symm.trans k)
theorem pay_rate : ("pay" : Str) ≠ "rate" := by decide
theorem IsNt.one {l : Str} {a b : Nt} (h : IsNt l a) (k : IsNt l b) : a = b := by
  cases a with
  | pay d c =>
    obtain ⟨x, y, e, _, _, h1, h2, _⟩ := h
    cases b with
    | pay d2 c2 =>
      obtain ⟨x2, y2, e2, _, _, k1, k2, _⟩ := k
      rw [e] at e2
      cases e2
      rw [some_inj2 h1 k1, some_inj2 h2 k2]
    | rate d2 c2 =>
      obtain ⟨x2, y2, e2, _⟩ := k
      rw [e] at e2
      exact absurd (List.cons.inj e2).1 pay_rate
    | owe d2 =>
      obtain ⟨x2, e2, _⟩ := k
      rw [e] at e2
      have := congrArg List.length e2
      simp at this
  | rate d c =>
    obtain ⟨x, y, e, _, _, h1, h2, _⟩ := h
    cases b with
    | pay d2 c2 =>
      obtain ⟨x2, y2, e2, _⟩ := k
      rw [e] at e2
      exact absurd (List.cons.inj e2).1.symm pay_rate
    | rate d2 c2 =>
      obtain ⟨x2, y2, e2, _, _, k1, k2, _⟩ := k
      rw [e] at e2
      cases e2
      rw [some_inj2 h1 k1, some_inj2 h2 k2]
    | owe d2 =>
      obtain ⟨x2, e2, _⟩ := k
      rw [e] at e2
      have := congrArg List.length e2
      simp at this
  | owe d =>
    obtain ⟨x, e, _, h1, _⟩ := h
    cases b with
    | pay d2 c2 =>
      obtain ⟨x2, y2, e2, _⟩ := k
      rw [e] at e2
      have := congrArg List.length e2
      simp at this
    | rate d2 c2 =>
      obtain ⟨x2, y2, e2, _⟩ := k
      rw [e] at e2
      have := congrArg List.length e2
      simp at this
    | owe d2 =>
      obtain ⟨x2, e2, _, k1, _⟩ := k
      rw [e] at e2
      cases e2
      rw [some_inj2 h1 k1]
open Classical in
noncomputable def ntOf (l : Str) : Option Nt := if h : ∃ n, IsNt l n then some (Classical.choose h) else none
theorem ntOf_some {l : Str} {n : Nt} (h : IsNt l n) : ntOf l = some n := by
  unfold ntOf
  have hx : ∃ n, IsNt l n := ⟨n, h⟩
  rw [dif_pos hx]
  exact congrArg some ((Classical.choose_spec hx).one h)
theorem ntOf_none {l : Str} (h : ∀ n, ¬ IsNt l n) : ntOf l = none := by
  unfold ntOf
  exact dif_neg fun ⟨n, hn⟩ => h n hn
/-- where a desk stands: its loan's numbers, its row of rates -/
structure Dsk where
  z : Ln
  ps : List Pr
/-- what a note gives, or how it is refused -/
inductive Rs2 where
  | ok (r : Str) (s : Dsk)
  | day
  | rate
  | pay
def resN (s : Dsk) : Nt → Rs2
  | .rate d r => if d ≤ s.z.day ∨ d ≤ lastDay s.ps ∨ d > 100000 then .day else if 0 ≤ r ∧ r ≤ 100000 then .ok "ok" ⟨s.z, s.ps ++ [(d, r)]⟩ else .rate
  | .owe d => if s.z.day ≤ d ∧ d ≤ 100000 then .ok (txt (owedF s.z.left (begunAt s.ps s.z d))) s else .day
  | .pay d c => if s.z.day ≤ d ∧ d ≤ 100000 then
      if 1 ≤ c ∧ c ≤ owedF s.z.left (begunAt s.ps s.z d) then
        .ok (txt (payF s.z.left (begunAt s.ps s.z d) c).1 ++ " " ++ txt (payF s.z.left (begunAt s.ps s.z d) c).2.1 ++ " " ++ txt (payF s.z.left (begunAt s.ps s.z d) c).2.2.1) ⟨payLn s.ps s.z d c, s.ps⟩
      else .pay
    else .day
def toldR (s : Dsk) : Rs2 → Str × Dsk
  | .ok r t => (r, t)
  | .day => ("bad day", s)
  | .rate => ("bad rate", s)
  | .pay => ("bad pay", s)
def ansN (s : Dsk) (n : Nt) : Str × Dsk := toldR s (resN s n)
def ansO (s : Dsk) : Option Nt → Str × Dsk
  | none => ("no note", s)
  | some n => ansN s n
noncomputable def runD (s : Dsk) (ls : List Str) : List Str × Dsk := ls.foldl (fun p l => (p.1 ++ [(ansO p.2 (ntOf l)).1], (ansO p.2 (ntOf l)).2)) ([], s)
theorem runD_nil (s : Dsk) : runD s [] = ([], s) := rfl
theorem runD_snoc (s : Dsk) (ls : List Str) (l : Str) : runD s (ls ++ [l]) = ((runD s ls).1 ++ [(ansO (runD s ls).2 (ntOf l)).1], (ansO (runD s ls).2 (ntOf l)).2) := by
  unfold runD
  rw [List.foldl_append]
  rfl
theorem runD_len (s : Dsk) (ls : List Str) : (runD s ls).1.length = ls.length := by
  have go : ∀ n, ∀ ls : List Str, ls.length = n → (runD s ls).1.length = ls.length := by
    intro n
    induction n with
    | zero =>
      intro ls h
      rw [List.length_eq_zero_iff.mp h]
      rfl
    | succ n ih =>
      intro ls h
      obtain ⟨r, a, e⟩ := snoc_of (l := ls) (by intro y; rw [y] at h; cases h)
      rw [e, List.length_append] at h
      have := ih r (by simpa using h)
      rw [e, runD_snoc, List.length_append, List.length_append, this]
      rfl
  exact go _ ls rfl
structure DOk (s : Dsk) (n : Nat) : Prop where
  rok : Rok s.ps
  lok : LnOk s.z
  b1 : s.z.begun ≤ 100000000000000000 * s.z.day
  len : s.ps.length ≤ n
theorem DOk.weak {s : Dsk} {n m : Nat} (h : DOk s n) (k : n ≤ m) : DOk s m := ⟨h.rok, h.lok, h.b1, Nat.le_trans h.len k⟩
/-- what is begun on a day is below 10 ** 17 for each day -/
theorem DOk.begun {s : Dsk} {n : Nat} {d : Int} (h : DOk s n) (hd : s.z.day ≤ d) : begunAt s.ps s.z d ≤ 100000000000000000 * d := by
  have h1 := gsum_ok h.rok.g.rate hd
  have h2 := h.lok.l1
  have h3 := h.lok.l0
  have h4 := h.b1
  have h5 : s.z.left * gsum s.ps s.z.day d ≤ 1000000000000 * ((d - s.z.day) * 100000) := Int.mul_le_mul h2 h1.2 h1.1 (by decide)
  unfold begunAt
  omega
theorem DOk.owed {s : Dsk} {n : Nat} {d : Int} (h : DOk s n) (hd : s.z.day ≤ d) (hd2 : d ≤ 100000) : 0 ≤ owedF s.z.left (begunAt s.ps s.z d) ∧ owedF s.z.left (begunAt s.ps s.z d) < 10 ^ 29 := by
  have h1 := h.begun hd
  have h2 := h.lok.l1
  have h3 := h.lok.l0
  have h4 := begunAt_ge h.lok h.rok.g hd
  unfold owedF
  omega
theorem DOk.pay {s : Dsk} {n : Nat} {d c : Int} (h : DOk s n) (hd : s.z.day ≤ d) (hd2 : d ≤ 100000) (h1 : 1 ≤ c) (h2 : c ≤ owedF s.z.left (begunAt s.ps s.z d)) : DOk ⟨payLn s.ps s.z d c, s.ps⟩ n := by
  refine ⟨h.rok, payLn_ok h.lok h.rok.g hd hd2 h1 h2, ?_, h.len⟩
  have p := payF_ok h.lok.l0 (begunAt_ge h.lok h.rok.g hd) h1 h2
  have := h.begun hd
  show (payF s.z.left (begunAt s.ps s.z d) c).2.2.2 ≤ 100000000000000000 * d
  omega
theorem DOk.next {s : Dsk} {n : Nat} (h : DOk s n) (hn : n < 1000) (o : Option Nt) : DOk (ansO s o).2 (n + 1) := by
  have w := h.weak (Nat.le_succ n)
  match o with
  | none => exact w
  | some (.owe d) =>
    show DOk (toldR s (if s.z.day ≤ d ∧ d ≤ 100000 then _ else _)).2 _
    split <;> exact w
  | some (.rate d r) =>
    show DOk (toldR s (if d ≤ s.z.day ∨ d ≤ lastDay s.ps ∨ d > 100000 then _ else _)).2 _
    split
    · exact w
    · rename_i c1
      split
      · rename_i c2
        have := h.len
        exact ⟨h.rok.snoc (by omega) (by omega) c2.1 c2.2 (by omega), h.lok, h.b1, by show (s.ps ++ [(d, r)]).length ≤ _; rw [List.length_append]; show s.ps.length + 1 ≤ n + 1; omega⟩
      · exact w
  | some (.pay d c) =>
    show DOk (toldR s (if s.z.day ≤ d ∧ d ≤ 100000 then _ else _)).2 _
    split
    · rename_i c1
      split
      · rename_i c2
        exact w.pay c1.1 c1.2 c2.1 c2.2
      · exact w
    · exact w
theorem DOk.first {am r : Int} (h1 : 1 ≤ am) (h2 : am ≤ 1000000000000) (r0 : 0 ≤ r) (r1 : r ≤ 100000) : DOk ⟨⟨am, 0, 0⟩, [(0, r)]⟩ 1 := by
  refine ⟨⟨⟨⟨r, [], rfl⟩, ⟨by show (-1 : Int) < 0; decide, trivial⟩, fun p hp => ?_⟩, by show (0 : Int) ≤ 100000; decide, by show 1 ≤ 1000; decide⟩, ⟨by show 0 ≤ am; omega, h2, Int.le_refl 0, Int.le_refl 0, by show (0 : Int) ≤ 100000; decide⟩, by show (0 : Int) ≤ 100000000000000000 * 0; decide, Nat.le_refl 1⟩
  obtain rfl : p = (0, r) := by simpa using hp
  exact ⟨r0, r1⟩
theorem runD_ok {s : Dsk} {n : Nat} (h : DOk s n) : ∀ (m : Nat) (ls : List Str), ls.length = m → n + m ≤ 1000 → DOk (runD s ls).2 (n + m)
  | 0, ls, e, _ => by
    rw [List.length_eq_zero_iff.mp e]
    exact h
  | m + 1, ls, e, k => by
    obtain ⟨r, a, el⟩ := snoc_of (l := ls) (by intro y; rw [y] at e; cases e)
    rw [el, List.length_append] at e
    have ih := runD_ok h m r (by simpa using e) (by omega)
    rw [el, runD_snoc]
    exact ih.next (by omega) _
/-- what the law keeps: a list of what is left, begun, the day, the row -/
structure Std (H : Hp) (st lq : Addr) (tq : List Trp) (z : Ln) : Prop where
  lst : H st = some (.lst [.int z.left, .int z.begun, .int z.day, .ref lq])
  row : Row H lq tq
theorem Std.same {H H' : Hp} {st lq : Addr} {tq : List Trp} {z : Ln} (S : Std H st lq tq z) (s : Same H H') : Std H' st lq tq z := ⟨s _ _ S.lst, S.row.same s⟩
theorem Std.ne {H : Hp} {st lq : Addr} {tq : List Trp} {z : Ln} (S : Std H st lq tq z) : st ≠ lq := by
  intro y
  have h1 := S.lst
  rw [y, S.row.lst] at h1
  cases tq with
  | nil => cases h1
  | cons a u => cases h1
theorem But2.of {x l : Addr} {H H' : Hp} (s : Same H H') : But2 x l H H' := fun b o h _ _ => s b o h
/-! ### numbers as texts -/
theorem log_ok {n : Int} (n0 : 0 ≤ n) (n1 : n < 10 ^ 30) : n.natAbs.log2 < 1920 := by
  have h1 : n.natAbs < 2 ^ 1920 := by
    have h2 : n.natAbs < 10 ^ 30 := by omega
    exact Nat.lt_of_lt_of_le h2 (by decide +kernel)
  by_cases h0 : n.natAbs = 0
  · rw [h0]; decide
  · exact (Nat.log2_lt h0).mpr h1
theorem txt_len {n : Int} (n0 : 0 ≤ n) (n1 : n < 10 ^ 30) : (txt n).length ≤ 30 := PyProof.Rows.toString_length_le n0 (by decide) n1
theorem txt_tl {n : Int} (n0 : 0 ≤ n) : TL.tl (txt n) = TL.numL n.toNat := by
  obtain ⟨m, rfl⟩ : ∃ m : Nat, n = (m : Int) := ⟨n.toNat, by omega⟩
  exact TL.tl_num m
theorem txt_free {n : Int} (n0 : 0 ≤ n) : 32 ∉ TL.tl (txt n) := by
  rw [txt_tl n0]
  exact TL.numL_free (.inl (by decide))
theorem numL_head : ∀ (k n : Nat), n < k → 1 ≤ n → (TL.numL n).head? ≠ some 48
  | 0, _, h, _ => absurd h (Nat.not_lt_zero _)
  | k + 1, n, h, h1 => by
    by_cases h2 : n < 10
    · rw [TL.numL_lt h2]
      intro y
      have : 48 + n = 48 := Option.some.inj y
      omega
    · rw [TL.numL_step (by omega), List.head?_append]
      have ih := numL_head k (n / 10) (by omega) (by omega)
      have hne := TL.numL_ne (n / 10)
      cases e : TL.numL (n / 10) with
      | nil => exact absurd e hne
      | cons a r =>
        rw [e] at ih
        exact ih
theorem txt_ok {n : Int} (n0 : 0 ≤ n) (n1 : n < 10 ^ 30) : NumOk (txt n) ∧ PySem.intText? (txt n) = some n := by
  have hl := txt_len n0 n1
  have et := txt_tl n0
  have hlt : (txt n).length = (TL.numL n.toNat).length := by rw [TL.len_tl, et]
  refine ⟨⟨fun c hc => ?_, ?_, hl, ?_⟩, ?_⟩
  · have hc' : c ∈ TL.tl (txt n) := hc
    rw [et] at hc'
    by_cases h1 : 48 ≤ c
    · by_cases h2 : c ≤ 57
      · exact ⟨h1, h2⟩
      · exact absurd hc' (TL.numL_free (.inr (by omega)))
    · exact absurd hc' (TL.numL_free (.inl (by omega)))
  · show TL.tl (txt n) ≠ []
    rw [et]
    exact TL.numL_ne _
  · show ¬ ((TL.tl (txt n)).head? = some 48 ∧ 1 < (txt n).length)
    rw [et]
    rintro ⟨h1, h2⟩
    by_cases h3 : n.toNat = 0
    · rw [hlt, h3, TL.numL_lt (by decide)] at h2
      exact absurd h2 (by decide)
    · exact numL_head (n.toNat + 1) n.toNat (by omega) (by omega) h1
  · obtain ⟨m, rfl⟩ : ∃ m : Nat, n = (m : Int) := ⟨n.toNat, by omega⟩
    exact TL.int_num (by rw [Int.toNat_natCast] at hlt; omega)
/-! ### the words of a row -/
theorem blank_tl : TL.tl " " = [32] := by decide +kernel
theorem split_l (l : Str) : (Txt.split l " ").map TL.tl = TL.spl [32] 0 [] (TL.tl l) := by
  rw [TL.split_spl l " " (by rw [blank_tl]; simp) (TL.kind_ok (by decide +kernel)), blank_tl]
theorem split2 {l a b : Str} (e : TL.tl l = TL.tl a ++ 32 :: TL.tl b) (ha : 32 ∉ TL.tl a) (hb : 32 ∉ TL.tl b) : Txt.split l " " = [a, b] := by
  refine TL.map_tl_inj ?_
  rw [split_l, e]
  show TL.spl [32] 0 [] (TL.tl a ++ ([32] ++ TL.tl b)) = [TL.tl a, TL.tl b]
  rw [TL.spl_part1 ha, TL.spl_last1 hb, List.nil_append, List.nil_append]
theorem split3 {l a b c : Str} (e : TL.tl l = TL.tl a ++ 32 :: (TL.tl b ++ 32 :: TL.tl c)) (ha : 32 ∉ TL.tl a) (hb : 32 ∉ TL.tl b) (hc : 32 ∉ TL.tl c) : Txt.split l " " = [a, b, c] := by
  refine TL.map_tl_inj ?_
  rw [split_l, e]
  show TL.spl [32] 0 [] (TL.tl a ++ ([32] ++ (TL.tl b ++ ([32] ++ TL.tl c)))) = [TL.tl a, TL.tl b, TL.tl c]
  rw [TL.spl_part1 ha, TL.spl_part1 hb, TL.spl_last1 hc, List.nil_append, List.nil_append, List.nil_append]
theorem split_first {l a : Str} {r : List Nat} (e : TL.tl l = TL.tl a ++ 32 :: r) (ha : 32 ∉ TL.tl a) : ∃ ws, Txt.split l " " = a :: ws := by
  have h := split_l l
  rw [e] at h
  have h2 : TL.spl [32] 0 [] (TL.tl a ++ 32 :: r) = TL.tl a :: TL.spl [32] 0 [] r := by
    show TL.spl [32] 0 [] (TL.tl a ++ ([32] ++ r)) = _
    rw [TL.spl_part1 ha, List.nil_append]
  rw [h2] at h
  cases ew : Txt.split l " " with
  | nil => rw [ew] at h; cases h
  | cons w ws =>
    rw [ew, List.map_cons] at h
    exact ⟨ws, by rw [TL.ext_tl (List.cons.inj h).1]⟩
theorem no_first {l a : Str} {ws : List Str} (e : Txt.split l " " = a :: ws) (h1 : a ≠ "pay") (h2 : a ≠ "rate") (h3 : a ≠ "owe") : ∀ n, ¬ IsNt l n := by
  intro n h
  cases n with
  | pay d c =>
    obtain ⟨x, y, e2, _⟩ := h
    rw [e] at e2
    exact h1 (List.cons.inj e2).1
  | rate d c =>
    obtain ⟨x, y, e2, _⟩ := h
    rw [e] at e2
    exact h2 (List.cons.inj e2).1
  | owe d =>
    obtain ⟨x, e2, _⟩ := h
    rw [e] at e2
    exact h3 (List.cons.inj e2).1
theorem no_len {l : Str} {ws : List Str} (e : Txt.split l " " = ws) (h1 : ws.length ≠ 2) (h2 : ws.length ≠ 3) : ∀ n, ¬ IsNt l n := by
  intro n h
  cases n with
  | pay d c =>
    obtain ⟨x, y, e2, _⟩ := h
    rw [e] at e2
    rw [e2] at h2
    exact h2 rfl
  | rate d c =>
    obtain ⟨x, y, e2, _⟩ := h
    rw [e] at e2
    rw [e2] at h2
    exact h2 rfl
  | owe d =>
    obtain ⟨x, e2, _⟩ := h
    rw [e] at e2
    rw [e2] at h1
    exact h1 rfl
theorem no_owe3 {l b c : Str} (e : Txt.split l " " = [("owe" : Str), b, c]) : ∀ n, ¬ IsNt l n := by
  intro n h
  cases n with
  | pay d c =>
    obtain ⟨x, y, e2, _⟩ := h
    rw [e] at e2
    exact absurd (List.cons.inj e2).1 (by decide)
  | rate d c =>
    obtain ⟨x, y, e2, _⟩ := h
    rw [e] at e2
    exact absurd (List.cons.inj e2).1 (by decide)
  | owe d =>
    obtain ⟨x, e2, _⟩ := h
    rw [e] at e2
    have := congrArg List.length e2
    simp at this
theorem no_two {l a b : Str} (e : Txt.split l " " = [a, b]) (h : ¬ NumOk b) : ∀ n, ¬ IsNt l n := by
  intro n h2
  cases n with
  | pay d c =>
    obtain ⟨x, y, e2, _⟩ := h2
    rw [e] at e2
    have := congrArg List.length e2
    simp at this
  | rate d c =>
    obtain ⟨x, y, e2, _⟩ := h2
    rw [e] at e2
    have := congrArg List.length e2
    simp at this
  | owe d =>
    obtain ⟨x, e2, o, _⟩ := h2
    rw [e] at e2
    cases e2
    exact h o
theorem no_three {l a b c : Str} (e : Txt.split l " " = [a, b, c]) (h : ¬ NumOk b ∨ ¬ NumOk c) : ∀ n, ¬ IsNt l n := by
  intro n h2
  cases n with
  | pay d c =>
    obtain ⟨x, y, e2, o1, o2, _⟩ := h2
    rw [e] at e2
    cases e2
    exact h.elim (fun h => h o1) fun h => h o2
  | rate d c =>
    obtain ⟨x, y, e2, o1, o2, _⟩ := h2
    rw [e] at e2
    cases e2
    exact h.elim (fun h => h o1) fun h => h o2
  | owe d =>
    obtain ⟨x, e2, _⟩ := h2
    rw [e] at e2
    have := congrArg List.length e2
    simp at this
theorem no_sign {b : Str} {c : Nat} (h : c ∈ TL.tl b) (hc : c < 48 ∨ 57 < c) : ¬ NumOk b := fun o => by
  have := o.1 c h
  omega
theorem no_long {b : Str} (h : 30 < b.length) : ¬ NumOk b := fun o => by
  have := o.2.2.1
  omega
theorem no_nought {b : Str} {r : List Nat} (h : TL.tl b = 48 :: r) (hr : r ≠ []) : ¬ NumOk b := fun o => by
  refine o.2.2.2 ⟨?_, ?_⟩
  · show (TL.tl b).head? = some 48
    rw [h]
    rfl
  · rw [TL.len_tl, h, List.length_cons]
    have := List.length_pos_iff.mpr hr
    omega
theorem no_empty {b : Str} (h : TL.tl b = []) : ¬ NumOk b := fun o => o.2.1 h
theorem tl_cut {l : Str} {k : Nat} (h : k ≤ l.length) : TL.tl (cutS l (some (k : Int)) none) = (TL.tl l).drop k := by
  show ((l.cps.toList.drop (HT.sIx l.length 0 (some (k : Int)))).take (HT.sIx l.length l.length none - HT.sIx l.length 0 (some (k : Int)))).toArray.toList = _
  rw [HT.sIx_none, HT.sIx_nat, Nat.min_eq_left h]
  show (l.cps.toList.drop k).take (l.length - k) = _
  refine List.take_of_length_le ?_
  rw [List.length_drop, Array.length_toList]
  exact Nat.le_refl _
theorem isnt_owe {d : Int} (d0 : 0 ≤ d) (d1 : d < 10 ^ 30) : IsNt ("owe " ++ txt d) (.owe d) := by
  obtain ⟨o, e⟩ := txt_ok d0 d1
  refine ⟨txt d, split2 ?_ (by decide +kernel) (txt_free d0), o, e, d0⟩
  have h : TL.tl "owe " = TL.tl "owe" ++ [32] := by decide +kernel
  rw [TL.tl_append, h, List.append_assoc]
  rfl
theorem isnt_rate {d c : Int} (d0 : 0 ≤ d) (d1 : d < 10 ^ 30) (c0 : 0 ≤ c) (c1 : c < 10 ^ 30) : IsNt ("rate " ++ txt d ++ " " ++ txt c) (.rate d c) := by
  obtain ⟨o, e⟩ := txt_ok d0 d1
  obtain ⟨o2, e2⟩ := txt_ok c0 c1
  refine ⟨txt d, txt c, split3 ?_ (by decide +kernel) (txt_free d0) (txt_free c0), o, o2, e, e2, d0, c0⟩
  have h : TL.tl "rate " = TL.tl "rate" ++ [32] := by decide +kernel
  rw [TL.tl_append, TL.tl_append, TL.tl_append, h, blank_tl, List.append_assoc, List.append_assoc, List.append_assoc]
  rfl
theorem isnt_pay {d c : Int} (d0 : 0 ≤ d) (d1 : d < 10 ^ 30) (c0 : 0 ≤ c) (c1 : c < 10 ^ 30) : IsNt ("pay " ++ txt d ++ " " ++ txt c) (.pay d c) := by
  obtain ⟨o, e⟩ := txt_ok d0 d1
  obtain ⟨o2, e2⟩ := txt_ok c0 c1
  refine ⟨txt d, txt c, split3 ?_ (by decide +kernel) (txt_free d0) (txt_free c0), o, o2, e, e2, d0, c0⟩
  have h : TL.tl "pay " = TL.tl "pay" ++ [32] := by decide +kernel
  rw [TL.tl_append, TL.tl_append, TL.tl_append, h, blank_tl, List.append_assoc, List.append_assoc, List.append_assoc]
  rfl
/-! ### code points -/
abbrev CpOk (r : Str) : Prop := ∀ c ∈ TL.tl r, c < 1114112
theorem cp_app {a b : Str} (ha : CpOk a) (hb : CpOk b) : CpOk (a ++ b) := fun c hc => by
  rw [TL.tl_append] at hc
  exact (List.mem_append.mp hc).elim (ha c) (hb c)
theorem txt_cp {n : Int} (n0 : 0 ≤ n) : CpOk (txt n) := fun c hc => by
  rw [txt_tl n0] at hc
  by_cases h2 : c ≤ 57
  · omega
  · exact absurd hc (TL.numL_free (.inr (by omega)))
theorem CpOk.ok {a : Str} (h : CpOk a) : PyData.strOk a = true := by
  unfold PyData.strOk
  rw [Array.all_eq_true]
  intro i hi
  exact decide_eq_true (h _ (by
    show a.cps[i] ∈ a.cps.toList
    exact Array.getElem_mem_toList hi))
theorem DOk.cp {s : Dsk} {n : Nat} (h : DOk s n) (o : Option Nt) : CpOk (ansO s o).1 := by
  match o with
  | none =>
    show CpOk "no note"
    decide +kernel
  | some (.owe d) =>
    show CpOk (toldR s (if s.z.day ≤ d ∧ d ≤ 100000 then _ else _)).1
    split
    · rename_i c1
      exact txt_cp (h.owed c1.1 c1.2).1
    · show CpOk "bad day"
      decide +kernel
  | some (.rate d r) =>
    show CpOk (toldR s (if d ≤ s.z.day ∨ d ≤ lastDay s.ps ∨ d > 100000 then _ else _)).1
    split
    · show CpOk "bad day"
      decide +kernel
    · split
      · show CpOk "ok"
        decide +kernel
      · show CpOk "bad rate"
        decide +kernel
  | some (.pay d c) =>
    show CpOk (toldR s (if s.z.day ≤ d ∧ d ≤ 100000 then _ else _)).1
    split
    · rename_i c1
      split
      · rename_i c2
        have p := payF_ok h.lok.l0 (begunAt_ge h.lok h.rok.g c1.1) c2.1 c2.2
        have hb : CpOk " " := by decide +kernel
        exact cp_app (cp_app (cp_app (cp_app (txt_cp p.1) hb) (txt_cp p.2.1)) hb) (txt_cp p.2.2.2.1)
      · show CpOk "bad pay"
        decide +kernel
    · show CpOk "bad day"
      decide +kernel
theorem runD_cp {s : Dsk} {n : Nat} (h : DOk s n) : ∀ (m : Nat) (ls : List Str), ls.length = m → n + m ≤ 1000 → ∀ a ∈ (runD s ls).1, CpOk a
  | 0, ls, e, _ => by
    rw [List.length_eq_zero_iff.mp e]
    intro a ha
    cases ha
  | m + 1, ls, e, k => by
    obtain ⟨r, a, el⟩ := snoc_of (l := ls) (by intro y; rw [y] at e; cases e)
    rw [el, List.length_append] at e
    have er : r.length = m := by simpa using e
    have ih := runD_cp h m r er (by omega)
    rw [el, runD_snoc]
    intro b hb
    rcases List.mem_append.mp hb with hb | hb
    · exact ih b hb
    · obtain rfl : b = (ansO (runD s r).2 (ntOf a)).1 := by simpa using hb
      exact (runD_ok h m r er (by omega)).cp _
end Toy
/-! ### rows that are no notes -/
namespace Toy
open PySem L2
def odd1 (l : Str) : List Str := ["", "pay", "pay 1", "owe", "owe 01", "rate 1 -2", "PAY 1 1", "pay  1 1", " " ++ l, l ++ " "]
def odd2 (l : Str) : List Str := [l ++ "\n", "\t" ++ l, l ++ "\t", Txt.upper l, l ++ " 1", "pay 1 1 ", "rate 90000 5\n"]
def odd3 (l : Str) : List Str := ["Owe" ++ cutS l (some 3) none, "Pay 1 1", "Rate 90000 5", "owe +" ++ cutS l (some 4) none, l ++ "_0", l ++ ".", "owe -0"]
def odd4 (l : Str) : List Str := ["owe " ++ ones31, "owe 0x5", "pay 00 1", "owe " ++ cutS l (some 4) none ++ "a"]
def OddOk (r : Str) : Prop := r.length ≤ 1000 ∧ ∀ n, ¬ IsNt r n
theorem no_two_first {l a b : Str} (e : Txt.split l " " = [a, b]) (h : a ≠ "owe") : ∀ n, ¬ IsNt l n := by
  intro n h2
  cases n with
  | pay d c =>
    obtain ⟨x, y, e2, _⟩ := h2
    rw [e] at e2
    have := congrArg List.length e2
    simp at this
  | rate d c =>
    obtain ⟨x, y, e2, _⟩ := h2
    rw [e] at e2
    have := congrArg List.length e2
    simp at this
  | owe d =>
    obtain ⟨x, e2, o, _⟩ := h2
    rw [e] at e2
    exact h (List.cons.inj e2).1
theorem tl_owe (w : Str) : TL.tl ("owe " ++ w) = TL.tl "owe" ++ 32 :: TL.tl w := by
  have h : TL.tl "owe " = TL.tl "owe" ++ [32] := by decide +kernel
  rw [TL.tl_append, h, List.append_assoc]
  rfl
theorem owe_free : 32 ∉ TL.tl "owe" := by decide +kernel
theorem free_app {a b : Str} (ha : 32 ∉ TL.tl a) (hb : 32 ∉ TL.tl b) : 32 ∉ TL.tl (a ++ b) := by
  rw [TL.tl_append]
  exact fun h => (List.mem_append.mp h).elim ha hb
/-- a row owe w with t behind -/
theorem tl_behind (w t : Str) : TL.tl ("owe " ++ w ++ t) = TL.tl "owe" ++ 32 :: TL.tl (w ++ t) := by
  rw [TL.tl_append, tl_owe, TL.tl_append, List.append_assoc]
  rfl
theorem odd_behind {w t : Str} {c : Nat} (hw : 32 ∉ TL.tl w) (ht : 32 ∉ TL.tl t) (hc : c ∈ TL.tl t) (h2 : c < 48 ∨ 57 < c) : ∀ n, ¬ IsNt ("owe " ++ w ++ t) n :=
  no_two (split2 (tl_behind w t) owe_free (free_app hw ht)) (no_sign (c := c) (by rw [TL.tl_append]; exact List.mem_append.mpr (.inr hc)) h2)
theorem cut3 (w : Str) : TL.tl (cutS ("owe " ++ w) (some 3) none) = 32 :: TL.tl w := by
  have e : TL.tl (cutS ("owe " ++ w) (some ((3 : Nat) : Int)) none) = _ := tl_cut (by rw [app_len]; have : ("owe " : Str).length = 4 := by decide +kernel
                                                                                      omega)
  refine e.trans ?_
  rw [tl_owe]
  have h : TL.tl "owe" = [111, 119, 101] := by decide +kernel
  rw [h]
  rfl
theorem cut4 (w : Str) : cutS ("owe " ++ w) (some 4) none = w := by
  have e : TL.tl (cutS ("owe " ++ w) (some ((4 : Nat) : Int)) none) = _ := tl_cut (by rw [app_len]; have : ("owe " : Str).length = 4 := by decide +kernel
                                                                                      omega)
  refine TL.ext_tl (e.trans ?_)
  rw [tl_owe]
  have h : TL.tl "owe" = [111, 119, 101] := by decide +kernel
  rw [h]
  rfl
theorem all_one {α : Type} {P : α → Prop} {a : α} {l : List α} (h : P a) (k : ∀ x ∈ l, P x) : ∀ x ∈ a :: l, P x := fun x hx => (List.mem_cons.mp hx).elim (fun e => e ▸ h) (k x)
theorem all_nil {α : Type} {P : α → Prop} : ∀ x ∈ ([] : List α), P x := fun x hx => by cases hx
section
variable {w : Str} (hw : 32 ∉ TL.tl w) (hl : w.length ≤ 30)
include hw hl
theorem odd1_ok : ∀ r ∈ odd1 ("owe " ++ w), OddOk r := by
  have h4 : ("owe " : Str).length = 4 := by decide +kernel
  have h1 : (" " : Str).length = 1 := by decide +kernel
  unfold odd1
  refine all_one ⟨by decide +kernel, no_first (ws := []) (a := "") (by decide +kernel) (by decide) (by decide) (by decide)⟩ ?_
  refine all_one ⟨by decide +kernel, no_len (ws := ["pay"]) (by decide +kernel) (by decide) (by decide)⟩ ?_
  refine all_one ⟨by decide +kernel, no_two_first (a := "pay") (b := "1") (by decide +kernel) (by decide)⟩ ?_
  refine all_one ⟨by decide +kernel, no_len (ws := ["owe"]) (by decide +kernel) (by decide) (by decide)⟩ ?_
  refine all_one ⟨by decide +kernel, no_two (a := "owe") (b := "01") (by decide +kernel) (no_nought (r := [49]) (by decide +kernel) (by decide))⟩ ?_
  refine all_one ⟨by decide +kernel, no_three (a := "rate") (b := "1") (c := "-2") (by decide +kernel) (.inr (no_sign (c := 45) (by decide +kernel) (by decide)))⟩ ?_
  refine all_one ⟨by decide +kernel, no_first (ws := ["1", "1"]) (a := "PAY") (by decide +kernel) (by decide) (by decide) (by decide)⟩ ?_
  refine all_one ⟨by decide +kernel, no_len (ws := ["pay", "", "1", "1"]) (by decide +kernel) (by decide) (by decide)⟩ ?_
  refine all_one ⟨by rw [app_len, app_len, h4, h1]; omega, ?_⟩ ?_
  · obtain ⟨ws, e⟩ := split_first (l := " " ++ ("owe " ++ w)) (a := "") (r := TL.tl ("owe " ++ w)) (by rw [TL.tl_append, blank_tl]; rfl) (by decide +kernel)
    exact no_first e (by decide) (by decide) (by decide)
  refine all_one ⟨by rw [app_len, app_len, h4, h1]; omega, ?_⟩ all_nil
  refine no_owe3 (b := w) (c := "") (split3 ?_ owe_free hw (by decide +kernel))
  rw [TL.tl_append, tl_owe, blank_tl, List.append_assoc]
  rfl
theorem odd2_ok : ∀ r ∈ odd2 ("owe " ++ w), OddOk r := by
  have h4 : ("owe " : Str).length = 4 := by decide +kernel
  have hn : ("\n" : Str).length = 1 := by decide +kernel
  have ht : ("\t" : Str).length = 1 := by decide +kernel
  have h1 : (" 1" : Str).length = 2 := by decide +kernel
  unfold odd2
  refine all_one ⟨by rw [app_len, app_len, h4, hn]; omega, odd_behind (c := 10) hw (by decide +kernel) (by decide +kernel) (by decide)⟩ ?_
  refine all_one ⟨by rw [app_len, app_len, h4, ht]; omega, ?_⟩ ?_
  · obtain ⟨ws, e⟩ := split_first (l := "\t" ++ ("owe " ++ w)) (a := "\towe") (r := TL.tl w) (by
      have h : TL.tl "\t" ++ TL.tl "owe" = TL.tl "\towe" := by decide +kernel
      rw [TL.tl_append, tl_owe, ← List.append_assoc, h]) (by decide +kernel)
    exact no_first e (by decide) (by decide) (by decide)
  refine all_one ⟨by rw [app_len, app_len, h4, ht]; omega, odd_behind (c := 9) hw (by decide +kernel) (by decide +kernel) (by decide)⟩ ?_
  refine all_one ⟨by have := PyProof.Rows.len_upper ("owe " ++ w); rw [app_len, h4] at this; omega, ?_⟩ ?_
  · obtain ⟨ws, e⟩ := split_first (l := Txt.upper ("owe " ++ w)) (a := "OWE") (r := TL.tl (Txt.upper w)) (by
      have h : TL.tl (Txt.upper "owe ") = TL.tl "OWE" ++ [32] := by decide +kernel
      rw [PySem.W.KOpn.upper_app, TL.tl_append, h, List.append_assoc]
      rfl) (by decide +kernel)
    exact no_first e (by decide) (by decide) (by decide)
  refine all_one ⟨by rw [app_len, app_len, h4, h1]; omega, ?_⟩ ?_
  · refine no_owe3 (b := w) (c := "1") (split3 ?_ owe_free hw (by decide +kernel))
    have h : TL.tl " 1" = 32 :: TL.tl "1" := by decide +kernel
    rw [TL.tl_append, tl_owe, h, List.append_assoc]
    rfl
  refine all_one ⟨by decide +kernel, no_len (ws := ["pay", "1", "1", ""]) (by decide +kernel) (by decide) (by decide)⟩ ?_
  exact all_one ⟨by decide +kernel, no_three (a := "rate") (b := "90000") (c := "5\n") (by decide +kernel) (.inr (no_sign (c := 10) (by decide +kernel) (by decide)))⟩ all_nil
theorem odd3_ok : ∀ r ∈ odd3 ("owe " ++ w), OddOk r := by
  have h4 : ("owe " : Str).length = 4 := by decide +kernel
  have h3 : ("Owe" : Str).length = 3 := by decide +kernel
  have h5 : ("owe +" : Str).length = 5 := by decide +kernel
  have h0 : ("_0" : Str).length = 2 := by decide +kernel
  have h1 : ("." : Str).length = 1 := by decide +kernel
  unfold odd3
  rw [cut4]
  refine all_one ⟨?_, ?_⟩ ?_
  · have := cutS_length ("owe " ++ w) (some 3) none
    rw [app_len, h4] at this
    rw [app_len, h3]
    omega
  · obtain ⟨ws, e⟩ := split_first (l := "Owe" ++ cutS ("owe " ++ w) (some 3) none) (a := "Owe") (r := TL.tl w) (by rw [TL.tl_append, cut3]) (by decide +kernel)
    exact no_first e (by decide) (by decide) (by decide)
  refine all_one ⟨by decide +kernel, no_first (ws := ["1", "1"]) (a := "Pay") (by decide +kernel) (by decide) (by decide) (by decide)⟩ ?_
  refine all_one ⟨by decide +kernel, no_first (ws := ["90000", "5"]) (a := "Rate") (by decide +kernel) (by decide) (by decide) (by decide)⟩ ?_
  refine all_one ⟨by rw [app_len, h5]; omega, ?_⟩ ?_
  · refine no_two (a := "owe") (b := "+" ++ w) (split2 ?_ owe_free (free_app (by decide +kernel) hw)) (no_sign (c := 43) (by rw [TL.tl_append]; exact List.mem_append.mpr (.inl (by decide +kernel))) (by decide))
    have h : TL.tl "owe +" = TL.tl "owe" ++ (32 :: TL.tl "+") := by decide +kernel
    rw [TL.tl_append, TL.tl_append, h, List.append_assoc]
    rfl
  refine all_one ⟨by rw [app_len, app_len, h4, h0]; omega, odd_behind (c := 95) hw (by decide +kernel) (by decide +kernel) (by decide)⟩ ?_
  refine all_one ⟨by rw [app_len, app_len, h4, h1]; omega, odd_behind (c := 46) hw (by decide +kernel) (by decide +kernel) (by decide)⟩ ?_
  exact all_one ⟨by decide +kernel, no_two (a := "owe") (b := "-0") (by decide +kernel) (no_sign (c := 45) (by decide +kernel) (by decide))⟩ all_nil
theorem odd4_ok : ∀ r ∈ odd4 ("owe " ++ w), OddOk r := by
  have h4 : ("owe " : Str).length = 4 := by decide +kernel
  have h1 : ("a" : Str).length = 1 := by decide +kernel
  unfold odd4
  rw [cut4]
  refine all_one ⟨by decide +kernel, no_two (a := "owe") (b := ones31) (by decide +kernel) (no_long (by decide +kernel))⟩ ?_
  refine all_one ⟨by decide +kernel, no_two (a := "owe") (b := "0x5") (by decide +kernel) (no_sign (c := 120) (by decide +kernel) (by decide))⟩ ?_
  refine all_one ⟨by decide +kernel, no_three (a := "pay") (b := "00") (c := "1") (by decide +kernel) (.inl (no_nought (r := [48]) (by decide +kernel) (by decide)))⟩ ?_
  exact all_one ⟨by rw [app_len, app_len, h4, h1]; omega, odd_behind (c := 97) hw (by decide +kernel) (by decide +kernel) (by decide)⟩ all_nil
end
theorem cut3_cp {w : Str} (h : CpOk w) : CpOk (cutS ("owe " ++ w) (some 3) none) := fun c hc => by
  rw [cut3] at hc
  rcases List.mem_cons.mp hc with e | e
  · omega
  · exact h c e
theorem up_cp {l : Str} (h : ∀ c ∈ TL.tl l, c < 128) : CpOk (Txt.upper l) := by
  rw [PyProof.Rows.upper_ascii h]
  intro c hc
  have hc' : c ∈ (l.cps.map PyProof.Rows.up1).toList := hc
  rw [Array.toList_map] at hc'
  obtain ⟨d, hd, rfl⟩ := List.mem_map.mp hc'
  have := h d hd
  unfold PyProof.Rows.up1
  split <;> omega
section
variable {w : Str} (h0 : ∀ c ∈ TL.tl w, c < 128)
include h0
theorem odd1_cp : ∀ r ∈ odd1 ("owe " ++ w), CpOk r := by
  have hw : CpOk w := fun c hc => by have := h0 c hc; omega
  have ho : CpOk ("owe " ++ w) := cp_app (by decide +kernel) hw
  unfold odd1
  exact all_one (by decide +kernel) (all_one (by decide +kernel) (all_one (by decide +kernel) (all_one (by decide +kernel) (all_one (by decide +kernel) (all_one (by decide +kernel) (all_one (by decide +kernel) (all_one (by decide +kernel) (all_one (cp_app (by decide +kernel) ho) (all_one (cp_app ho (by decide +kernel)) all_nil)))))))))
theorem odd2_cp : ∀ r ∈ odd2 ("owe " ++ w), CpOk r := by
  have hw : CpOk w := fun c hc => by have := h0 c hc; omega
  have ho : CpOk ("owe " ++ w) := cp_app (by decide +kernel) hw
  have h1 : ∀ c ∈ TL.tl "owe ", c < 128 := by decide +kernel
  have ho2 : ∀ c ∈ TL.tl ("owe " ++ w), c < 128 := fun c hc => by
    rw [TL.tl_append] at hc
    exact (List.mem_append.mp hc).elim (h1 c) (h0 c)
  unfold odd2
  exact all_one (cp_app ho (by decide +kernel)) (all_one (cp_app (by decide +kernel) ho) (all_one (cp_app ho (by decide +kernel)) (all_one (up_cp ho2) (all_one (cp_app ho (by decide +kernel)) (all_one (by decide +kernel) (all_one (by decide +kernel) all_nil))))))
theorem odd3_cp : ∀ r ∈ odd3 ("owe " ++ w), CpOk r := by
  have hw : CpOk w := fun c hc => by have := h0 c hc; omega
  have ho : CpOk ("owe " ++ w) := cp_app (by decide +kernel) hw
  unfold odd3
  rw [cut4]
  exact all_one (cp_app (by decide +kernel) (cut3_cp hw)) (all_one (by decide +kernel) (all_one (by decide +kernel) (all_one (cp_app (by decide +kernel) hw) (all_one (cp_app ho (by decide +kernel)) (all_one (cp_app ho (by decide +kernel)) (all_one (by decide +kernel) all_nil))))))
theorem odd4_cp : ∀ r ∈ odd4 ("owe " ++ w), CpOk r := by
  have hw : CpOk w := fun c hc => by have := h0 c hc; omega
  unfold odd4
  rw [cut4]
  exact all_one (by decide +kernel) (all_one (by decide +kernel) (all_one (by decide +kernel) (all_one (cp_app (cp_app (by decide +kernel) hw) (by decide +kernel)) all_nil)))
end
end Toy
namespace Toy
open PySem L2
/-! ### the text by places -/
def top (i : Nat) : Stmt := PySem.Challenge.pw_loanplan_k14_whole_desk.main.body.getD i (.Pass ⟨0, 0, 0, 0⟩)
abbrev s_need_rate : Stmt := top 11
abbrev s_checked : Stmt := top 12
abbrev s_grown : Stmt := top 13
abbrev s_need_amount : Stmt := top 17
abbrev s_Loan_init : Stmt := inClass (top 18) 0
abbrev s_Loan_stand : Stmt := inClass (top 18) 1
abbrev s_Loan_owed : Stmt := inClass (top 18) 2
abbrev s_Loan_pay : Stmt := inClass (top 18) 3
abbrev s_Loan_change : Stmt := inClass (top 18) 4
abbrev s_number_of : Stmt := top 22
abbrev s_read : Stmt := top 23
abbrev s_done : Stmt := top 25
abbrev s_answered : Stmt := top 26
abbrev s_desk : Stmt := top 27
abbrev s_law_cell_at : Stmt := top 29
abbrev s_law_mixed : Stmt := top 30
abbrev s_law_rate_by : Stmt := top 31
abbrev s_law_sum_by : Stmt := top 32
abbrev s_law_amount_by : Stmt := top 33
abbrev s_law_owed : Stmt := top 34
abbrev s_law_parts : Stmt := top 35
abbrev s_law_then : Stmt := top 36
abbrev s_law_odd_line : Stmt := top 37
abbrev s_law_line : Stmt := top 38
abbrev s_law_paid : Stmt := top 39
abbrev s_law_answer : Stmt := top 40
abbrev s_law_no_desk : Stmt := top 41
abbrev s_law : Stmt := top 42
/-! ### the names of each def by slots -/
theorem sc_need_rate : FnScope ["rate"] ["rate"] (defScope s_need_rate) := ⟨rfl, rfl, rfl, by decide +kernel, rfl, by decide +kernel, by decide +kernel⟩
theorem sc_checked : FnScope ["rates", "ahead", "day", "rate"] ["rates"] (defScope s_checked) := ⟨rfl, rfl, rfl, by decide +kernel, rfl, by decide +kernel, by decide +kernel⟩
theorem sc_grown : FnScope ["rates", "start", "end", "total", "stop", "k", "day", "rate", "begin"] ["rates", "start", "end"] (defScope s_grown) := ⟨rfl, rfl, rfl, by decide +kernel, rfl, by decide +kernel, by decide +kernel⟩
theorem sc_need_amount : FnScope ["amount"] ["amount"] (defScope s_need_amount) := ⟨rfl, rfl, rfl, by decide +kernel, rfl, by decide +kernel, by decide +kernel⟩
theorem sc_Loan_init : FnScope ["self", "amount", "rates"] ["self", "amount", "rates"] (defScope s_Loan_init) := ⟨rfl, rfl, rfl, by decide +kernel, rfl, by decide +kernel, by decide +kernel⟩
theorem sc_Loan_stand : FnScope ["self", "day"] ["self", "day"] (defScope s_Loan_stand) := ⟨rfl, rfl, rfl, by decide +kernel, rfl, by decide +kernel, by decide +kernel⟩
theorem sc_Loan_owed : FnScope ["self", "day", "left", "begun"] ["self", "day"] (defScope s_Loan_owed) := ⟨rfl, rfl, rfl, by decide +kernel, rfl, by decide +kernel, by decide +kernel⟩
theorem sc_Loan_pay : FnScope ["self", "day", "cents", "left", "begun", "owed", "interest", "off"] ["self", "day", "cents"] (defScope s_Loan_pay) := ⟨rfl, rfl, rfl, by decide +kernel, rfl, by decide +kernel, by decide +kernel⟩
theorem sc_Loan_change : FnScope ["self", "day", "rate"] ["self", "day", "rate"] (defScope s_Loan_change) := ⟨rfl, rfl, rfl, by decide +kernel, rfl, by decide +kernel, by decide +kernel⟩
theorem sc_number_of : FnScope ["word", "sign"] ["word"] (defScope s_number_of) := ⟨rfl, rfl, rfl, by decide +kernel, rfl, by decide +kernel, by decide +kernel⟩
theorem sc_read : FnScope ["line", "words"] ["line"] (defScope s_read) := ⟨rfl, rfl, rfl, by decide +kernel, rfl, by decide +kernel, by decide +kernel⟩
theorem sc_done : FnScope ["loan", "note", "interest", "off", "left"] ["loan", "note"] (defScope s_done) := ⟨rfl, rfl, rfl, by decide +kernel, rfl, by decide +kernel, by decide +kernel⟩
theorem sc_answered : FnScope ["loan", "line"] ["loan", "line"] (defScope s_answered) := ⟨rfl, rfl, rfl, by decide +kernel, rfl, by decide +kernel, by decide +kernel⟩
theorem sc_desk : FnScope ["amount", "rate", "lines", "loan", "answers", "line"] ["amount", "rate", "lines"] (defScope s_desk) := ⟨rfl, rfl, rfl, by decide +kernel, rfl, by decide +kernel, by decide +kernel⟩
theorem sc_law_cell_at : FnScope ["_law_script", "_law_k"] ["_law_script", "_law_k"] (defScope s_law_cell_at) := ⟨rfl, rfl, rfl, by decide +kernel, rfl, by decide +kernel, by decide +kernel⟩
theorem sc_law_mixed : FnScope ["_law_cell", "_law_many"] ["_law_cell", "_law_many"] (defScope s_law_mixed) := ⟨rfl, rfl, rfl, by decide +kernel, rfl, by decide +kernel, by decide +kernel⟩
theorem sc_law_rate_by : FnScope ["_law_cell"] ["_law_cell"] (defScope s_law_rate_by) := ⟨rfl, rfl, rfl, by decide +kernel, rfl, by decide +kernel, by decide +kernel⟩
theorem sc_law_sum_by : FnScope ["_law_row", "_law_start", "_law_end", "_law_total", "_law_k", "_law_days"] ["_law_row", "_law_start", "_law_end"] (defScope s_law_sum_by) := ⟨rfl, rfl, rfl, by decide +kernel, rfl, by decide +kernel, by decide +kernel⟩
theorem sc_law_amount_by : FnScope ["_law_cell"] ["_law_cell"] (defScope s_law_amount_by) := ⟨rfl, rfl, rfl, by decide +kernel, rfl, by decide +kernel, by decide +kernel⟩
theorem sc_law_owed : FnScope ["_law_left", "_law_begun"] ["_law_left", "_law_begun"] (defScope s_law_owed) := ⟨rfl, rfl, rfl, by decide +kernel, rfl, by decide +kernel, by decide +kernel⟩
theorem sc_law_parts : FnScope ["_law_left", "_law_begun", "_law_cents", "_law_owed_here", "_law_interest", "_law_off"] ["_law_left", "_law_begun", "_law_cents"] (defScope s_law_parts) := ⟨rfl, rfl, rfl, by decide +kernel, rfl, by decide +kernel, by decide +kernel⟩
theorem sc_law_then : FnScope ["_law_state", "_law_day"] ["_law_state", "_law_day"] (defScope s_law_then) := ⟨rfl, rfl, rfl, by decide +kernel, rfl, by decide +kernel, by decide +kernel⟩
theorem sc_law_odd_line : FnScope ["_law_line_here", "_law_cell", "_law_some"] ["_law_line_here", "_law_cell"] (defScope s_law_odd_line) := ⟨rfl, rfl, rfl, by decide +kernel, rfl, by decide +kernel, by decide +kernel⟩
theorem sc_law_line : FnScope ["_law_state", "_law_cell", "_law_day", "_law_size", "_law_rate", "_law_owed_here", "_law_some"] ["_law_state", "_law_cell"] (defScope s_law_line) := ⟨rfl, rfl, rfl, by decide +kernel, rfl, by decide +kernel, by decide +kernel⟩
theorem sc_law_paid : FnScope ["_law_state", "_law_day", "_law_cents", "_law_begun", "_law_interest", "_law_off"] ["_law_state", "_law_day", "_law_cents"] (defScope s_law_paid) := ⟨rfl, rfl, rfl, by decide +kernel, rfl, by decide +kernel, by decide +kernel⟩
theorem sc_law_answer : FnScope ["_law_state", "_law_line_here", "_law_good", "_law_words", "_law_day"] ["_law_state", "_law_line_here", "_law_good"] (defScope s_law_answer) := ⟨rfl, rfl, rfl, by decide +kernel, rfl, by decide +kernel, by decide +kernel⟩
theorem sc_law_no_desk : FnScope ["_law_amount", "_law_rate"] ["_law_amount", "_law_rate"] (defScope s_law_no_desk) := ⟨rfl, rfl, rfl, by decide +kernel, rfl, by decide +kernel, by decide +kernel⟩
theorem sc_law : FnScope ["_law_script", "_law_amount", "_law_rate", "_law_ways", "_law_state", "_law_lines", "_law_due", "_law_cell", "_law_handed", "_law_found", "_law_k"] ["_law_script"] (defScope s_law) := ⟨rfl, rfl, rfl, by decide +kernel, rfl, by decide +kernel, by decide +kernel⟩
/-! ### what the top has left -/
structure Txt (K : PySem.W.Frag) (mg : Str → Option Value) where
  b_len : mg "len" = none
  b_max : mg "max" = none
  b_min : mg "min" = none
  b_int : mg "int" = none
  b_str : mg "str" = none
  b_list : mg "list" = none
  b_range : mg "range" = none
  b_isinstance : mg "isinstance" = none
  b_ValueError : mg "ValueError" = none
  c_MOST_DAY : ∃ t, mg "MOST_DAY" = some (.int 100000 t)
  c_MOST_RATE : ∃ t, mg "MOST_RATE" = some (.int 100000 t)
  c_MOST_AMOUNT : ∃ t, mg "MOST_AMOUNT" = some (.int 1000000000000 t)
  c_MILLION : ∃ t, mg "MILLION" = some (.int 1000000 t)
  c_FIGURES : ∃ t, mg "FIGURES" = some (.str "0123456789" t)
  c_MOST_FIGURES : ∃ t, mg "MOST_FIGURES" = some (.int 30 t)
  a_LoanError : Addr
  g_LoanError : mg "LoanError" = some (.ref a_LoanError)
  e_LoanError : ExC K a_LoanError
  a_BadAmount : Addr
  g_BadAmount : mg "BadAmount" = some (.ref a_BadAmount)
  e_BadAmount : ExC K a_BadAmount
  a_BadRate : Addr
  g_BadRate : mg "BadRate" = some (.ref a_BadRate)
  e_BadRate : ExC K a_BadRate
  a_BadDay : Addr
  g_BadDay : mg "BadDay" = some (.ref a_BadDay)
  e_BadDay : ExC K a_BadDay
  a_BadPay : Addr
  g_BadPay : mg "BadPay" = some (.ref a_BadPay)
  e_BadPay : ExC K a_BadPay
  a_NoNote : Addr
  g_NoNote : mg "NoNote" = some (.ref a_NoNote)
  e_NoNote : ExC K a_NoNote
  a_Loan : Addr
  g_Loan : mg "Loan" = some (.ref a_Loan)
  cl_Loan : Cls K a_Loan
  n_Loan_left : NoAttr K a_Loan "left"
  n_Loan_begun : NoAttr K a_Loan "begun"
  n_Loan_day : NoAttr K a_Loan "day"
  n_Loan_rates : NoAttr K a_Loan "rates"
  m_BadAmount_BadAmount : PySem.W.exmOne K (.ref a_BadAmount) (.ref a_BadAmount) = some true
  m_BadAmount_BadDay : PySem.W.exmOne K (.ref a_BadAmount) (.ref a_BadDay) = some false
  m_BadAmount_BadPay : PySem.W.exmOne K (.ref a_BadAmount) (.ref a_BadPay) = some false
  m_BadAmount_BadRate : PySem.W.exmOne K (.ref a_BadAmount) (.ref a_BadRate) = some false
  m_BadAmount_NoNote : PySem.W.exmOne K (.ref a_BadAmount) (.ref a_NoNote) = some false
  m_BadDay_BadAmount : PySem.W.exmOne K (.ref a_BadDay) (.ref a_BadAmount) = some false
  m_BadDay_BadDay : PySem.W.exmOne K (.ref a_BadDay) (.ref a_BadDay) = some true
  m_BadDay_BadPay : PySem.W.exmOne K (.ref a_BadDay) (.ref a_BadPay) = some false
  m_BadDay_BadRate : PySem.W.exmOne K (.ref a_BadDay) (.ref a_BadRate) = some false
  m_BadDay_NoNote : PySem.W.exmOne K (.ref a_BadDay) (.ref a_NoNote) = some false
  m_BadPay_BadAmount : PySem.W.exmOne K (.ref a_BadPay) (.ref a_BadAmount) = some false
  m_BadPay_BadDay : PySem.W.exmOne K (.ref a_BadPay) (.ref a_BadDay) = some false
  m_BadPay_BadPay : PySem.W.exmOne K (.ref a_BadPay) (.ref a_BadPay) = some true
  m_BadPay_BadRate : PySem.W.exmOne K (.ref a_BadPay) (.ref a_BadRate) = some false
  m_BadPay_NoNote : PySem.W.exmOne K (.ref a_BadPay) (.ref a_NoNote) = some false
  m_BadRate_BadAmount : PySem.W.exmOne K (.ref a_BadRate) (.ref a_BadAmount) = some false
  m_BadRate_BadDay : PySem.W.exmOne K (.ref a_BadRate) (.ref a_BadDay) = some false
  m_BadRate_BadPay : PySem.W.exmOne K (.ref a_BadRate) (.ref a_BadPay) = some false
  m_BadRate_BadRate : PySem.W.exmOne K (.ref a_BadRate) (.ref a_BadRate) = some true
  m_BadRate_NoNote : PySem.W.exmOne K (.ref a_BadRate) (.ref a_NoNote) = some false
  m_NoNote_BadAmount : PySem.W.exmOne K (.ref a_NoNote) (.ref a_BadAmount) = some false
  m_NoNote_BadDay : PySem.W.exmOne K (.ref a_NoNote) (.ref a_BadDay) = some false
  m_NoNote_BadPay : PySem.W.exmOne K (.ref a_NoNote) (.ref a_BadPay) = some false
  m_NoNote_BadRate : PySem.W.exmOne K (.ref a_NoNote) (.ref a_BadRate) = some false
  m_NoNote_NoNote : PySem.W.exmOne K (.ref a_NoNote) (.ref a_NoNote) = some true
section
variable {K : PySem.W.Frag} {mg : Str → Option Value}
def sp_need_rate (T : Txt K mg) : Sp := fun vs H Q E => ∃ (r : Int), vs = [.int r] ∧ (¬ (0 ≤ r ∧ r ≤ 100000) → E (.ref T.a_BadRate) none H) ∧ (0 ≤ r → r ≤ 100000 → Q .non H)
def sp_checked (T : Txt K mg) : Sp := fun vs H Q E => ∃ (l : Addr) (ts : List Trp), vs = [.ref l] ∧ Row H l ts ∧
  (chk (-1) (vals ts) = .day → E (.ref T.a_BadDay) none H) ∧ (chk (-1) (vals ts) = .rate → E (.ref T.a_BadRate) none H) ∧
  (chk (-1) (vals ts) = .ok → ∀ l2 H', Same H H' → H l2 = none → Row H' l2 ts → Q (.ref l2) H')
def sp_grown (_ : Txt K mg) : Sp := fun vs H Q _ => ∃ (l : Addr) (ts : List Trp) (s e : Int), vs = [.ref l, .int s, .int e] ∧ Row H l ts ∧ ts.length ≤ 1000 ∧ Good (vals ts) ∧ 0 ≤ s ∧ s ≤ e ∧ Q (.int (gsum (vals ts) s e)) H
def sp_need_amount (T : Txt K mg) : Sp := fun vs H Q E => ∃ (r : Int), vs = [.int r] ∧ (¬ (1 ≤ r ∧ r ≤ 1000000000000) → E (.ref T.a_BadAmount) none H) ∧ (1 ≤ r → r ≤ 1000000000000 → Q .non H)
def sp_Loan_init (T : Txt K mg) : Sp := fun vs H Q E => ∃ (x dx l : Addr) (am : Int) (ts : List Trp), vs = [.ref x, .int am, .ref l] ∧ H x = some (.ins T.a_Loan dx []) ∧ Row H l ts ∧
  (¬ (1 ≤ am ∧ am ≤ 1000000000000) → E (.ref T.a_BadAmount) none H) ∧
  (1 ≤ am → am ≤ 1000000000000 → chk (-1) (vals ts) = .day → E (.ref T.a_BadDay) none H) ∧ (1 ≤ am → am ≤ 1000000000000 → chk (-1) (vals ts) = .rate → E (.ref T.a_BadRate) none H) ∧
  (1 ≤ am → am ≤ 1000000000000 → chk (-1) (vals ts) = .ok → ∀ l2 H', But x H H' → H l2 = none → LoanAt T.a_Loan H' x dx l2 ts ⟨am, 0, 0⟩ → Q .non H')
def sp_Loan_stand (T : Txt K mg) : Sp := fun vs H Q E => ∃ (x dx l : Addr) (ts : List Trp) (z : Ln) (d : Int), vs = [.ref x, .int d] ∧ LoanAt T.a_Loan H x dx l ts z ∧ Rok (vals ts) ∧ LnOk z ∧
  (¬ (z.day ≤ d ∧ d ≤ 100000) → E (.ref T.a_BadDay) none H) ∧
  (z.day ≤ d → d ≤ 100000 → ∀ p H', Same H H' → H p = none → H' p = some (.tup [.int z.left, .int (begunAt (vals ts) z d)]) → Q (.ref p) H')
def sp_Loan_owed (T : Txt K mg) : Sp := fun vs H Q E => ∃ (x dx l : Addr) (ts : List Trp) (z : Ln) (d : Int), vs = [.ref x, .int d] ∧ LoanAt T.a_Loan H x dx l ts z ∧ Rok (vals ts) ∧ LnOk z ∧
  (¬ (z.day ≤ d ∧ d ≤ 100000) → E (.ref T.a_BadDay) none H) ∧
  (z.day ≤ d → d ≤ 100000 → ∀ H', Same H H' → Q (.int (owedF z.left (begunAt (vals ts) z d))) H')
def sp_Loan_pay (T : Txt K mg) : Sp := fun vs H Q E => ∃ (x dx l : Addr) (ts : List Trp) (z : Ln) (d c : Int), vs = [.ref x, .int d, .int c] ∧ LoanAt T.a_Loan H x dx l ts z ∧ Rok (vals ts) ∧ LnOk z ∧
  (¬ (z.day ≤ d ∧ d ≤ 100000) → E (.ref T.a_BadDay) none H) ∧
  (z.day ≤ d → d ≤ 100000 → ¬ (1 ≤ c ∧ c ≤ owedF z.left (begunAt (vals ts) z d)) → ∀ H', Same H H' → E (.ref T.a_BadPay) none H') ∧
  (z.day ≤ d → d ≤ 100000 → 1 ≤ c → c ≤ owedF z.left (begunAt (vals ts) z d) → ∀ p H', But x H H' → H p = none → LoanAt T.a_Loan H' x dx l ts (payLn (vals ts) z d c) →
    H' p = some (.tup [.int (payF z.left (begunAt (vals ts) z d) c).1, .int (payF z.left (begunAt (vals ts) z d) c).2.1]) → Q (.ref p) H')
def sp_Loan_change (T : Txt K mg) : Sp := fun vs H Q E => ∃ (x dx l : Addr) (ts : List Trp) (z : Ln) (d r : Int), vs = [.ref x, .int d, .int r] ∧ LoanAt T.a_Loan H x dx l ts z ∧ Rok (vals ts) ∧
  ((d ≤ z.day ∨ d ≤ lastDay (vals ts) ∨ d > 100000) → E (.ref T.a_BadDay) none H) ∧
  (¬ (d ≤ z.day ∨ d ≤ lastDay (vals ts) ∨ d > 100000) → ¬ (0 ≤ r ∧ r ≤ 100000) → E (.ref T.a_BadRate) none H) ∧
  (¬ (d ≤ z.day ∨ d ≤ lastDay (vals ts) ∨ d > 100000) → 0 ≤ r → r ≤ 100000 → ∀ p H', But l H H' → H p = none → LoanAt T.a_Loan H' x dx l (ts ++ [(p, d, r)]) z → Q .non H')
def sp_number_of (T : Txt K mg) : Sp := fun vs H Q E => ∃ (a : Str), vs = [.str a] ∧ a.length ≤ 100000 ∧ (¬ NumOk a → E (.ref T.a_NoNote) none H) ∧ (NumOk a → ∀ n, PySem.intText? a = some n → 0 ≤ n → Q (.int n) H)
/-- the words of a note -/
def Note3 (ws : List Str) : Prop := ∃ w a b, ws = [w, a, b] ∧ (w = "pay" ∨ w = "rate") ∧ NumOk a ∧ NumOk b
def Note2 (ws : List Str) : Prop := ∃ a, ws = [("owe" : Str), a] ∧ NumOk a
theorem in_two {w x y : Str} : inV (.str w) [.str x, .str y] = true ↔ w = x ∨ w = y := by
  simp [inV, eqV]
  constructor
  · rintro (h | h)
    · exact .inl h.symm
    · exact .inr h.symm
  · rintro (h | h)
    · exact .inl h.symm
    · exact .inr h.symm
def sp_read (T : Txt K mg) : Sp := fun vs H Q E => ∃ (a : Str), vs = [.str a] ∧ a.length ≤ 100000 ∧
  (¬ Note3 (Txt.split a " ") → ¬ Note2 (Txt.split a " ") → ∀ H', Same H H' → E (.ref T.a_NoNote) none H') ∧
  (∀ w x y m n p H', Txt.split a " " = [w, x, y] → (w = "pay" ∨ w = "rate") → NumOk x → NumOk y → PySem.intText? x = some m → PySem.intText? y = some n → 0 ≤ m → 0 ≤ n → Same H H' → H' p = some (.tup [.str w, .int m, .int n]) → Q (.ref p) H') ∧
  (∀ x m p H', Txt.split a " " = [("owe" : Str), x] → NumOk x → PySem.intText? x = some m → 0 ≤ m → Same H H' → H' p = some (.tup [.str "owe", .int m]) → Q (.ref p) H')
def noteT : Nt → List V
  | .pay d c => [.str "pay", .int d, .int c]
  | .rate d r => [.str "rate", .int d, .int r]
  | .owe d => [.str "owe", .int d]
def sp_done (T : Txt K mg) : Sp := fun vs H Q E => ∃ (x dx l np : Addr) (ts : List Trp) (z : Ln) (n : Nt) (k : Nat), vs = [.ref x, .ref np] ∧ LoanAt T.a_Loan H x dx l ts z ∧ DOk ⟨z, vals ts⟩ k ∧ H np = some (.tup (noteT n)) ∧
  (resN ⟨z, vals ts⟩ n = .day → ∀ H', Same H H' → E (.ref T.a_BadDay) none H') ∧ (resN ⟨z, vals ts⟩ n = .rate → ∀ H', Same H H' → E (.ref T.a_BadRate) none H') ∧ (resN ⟨z, vals ts⟩ n = .pay → ∀ H', Same H H' → E (.ref T.a_BadPay) none H') ∧
  (∀ r z2 ts2 H', resN ⟨z, vals ts⟩ n = .ok r ⟨z2, vals ts2⟩ → But2 x l H H' → LoanAt T.a_Loan H' x dx l ts2 z2 → Q (.str r) H')
theorem nt_three {a w x y : Str} {m n : Int} (e : Txt.split a " " = [w, x, y]) (hw : w = "pay" ∨ w = "rate") (ox : NumOk x) (oy : NumOk y) (em : PySem.intText? x = some m) (en : PySem.intText? y = some n) (m0 : 0 ≤ m) (n0 : 0 ≤ n) :
    ∃ nt, IsNt a nt ∧ noteT nt = [.str w, .int m, .int n] := by
  rcases hw with rfl | rfl
  · exact ⟨.pay m n, ⟨x, y, e, ox, oy, em, en, m0, n0⟩, rfl⟩
  · exact ⟨.rate m n, ⟨x, y, e, ox, oy, em, en, m0, n0⟩, rfl⟩
theorem nt_none {a : Str} (n3 : ¬ Note3 (Txt.split a " ")) (n2 : ¬ Note2 (Txt.split a " ")) : ntOf a = none := by
  refine ntOf_none fun n h => ?_
  cases n with
  | pay d c =>
    obtain ⟨x, y, e, ox, oy, _⟩ := h
    exact n3 ⟨_, x, y, e, .inl rfl, ox, oy⟩
  | rate d c =>
    obtain ⟨x, y, e, ox, oy, _⟩ := h
    exact n3 ⟨_, x, y, e, .inr rfl, ox, oy⟩
  | owe d =>
    obtain ⟨x, e, ox, _⟩ := h
    exact n2 ⟨x, e, ox⟩
def sp_answered (T : Txt K mg) : Sp := fun vs H Q _ => ∃ (x dx l : Addr) (ts : List Trp) (z : Ln) (a : Str) (k : Nat), vs = [.ref x, .str a] ∧ LoanAt T.a_Loan H x dx l ts z ∧ DOk ⟨z, vals ts⟩ k ∧ a.length ≤ 100000 ∧
  ∀ z2 ts2 H', (ansO ⟨z, vals ts⟩ (ntOf a)).2 = ⟨z2, vals ts2⟩ → But2 x l H H' → LoanAt T.a_Loan H' x dx l ts2 z2 → Q (.str (ansO ⟨z, vals ts⟩ (ntOf a)).1) H'
theorem chk_one {r : Int} : chk (-1) [(0, r)] = if 0 ≤ r ∧ r ≤ 100000 then .ok else .rate := by
  by_cases h : 0 ≤ r ∧ r ≤ 100000
  · rw [chk_cons, if_neg (by simp), if_pos h, if_pos h]
    rfl
  · rw [chk_cons, if_neg (by simp), if_neg h, if_neg h]
def sp_desk (T : Txt K mg) : Sp := fun vs H Q E => ∃ (lp : Addr) (am r : Int) (ls : List Str), vs = [.int am, .int r, .ref lp] ∧ H lp = some (.lst (ls.map V.str)) ∧ ls.length ≤ 100 ∧ (∀ a ∈ ls, a.length ≤ 100000) ∧
  (¬ (1 ≤ am ∧ am ≤ 1000000000000) → ∀ H', Same H H' → E (.ref T.a_BadAmount) none H') ∧ (1 ≤ am → am ≤ 1000000000000 → ¬ (0 ≤ r ∧ r ≤ 100000) → ∀ H', Same H H' → E (.ref T.a_BadRate) none H') ∧
  (1 ≤ am → am ≤ 1000000000000 → 0 ≤ r → r ≤ 100000 → ∀ p H', Same H H' → H p = none → H' p = some (.lst ((runD ⟨⟨am, 0, 0⟩, [(0, r)]⟩ ls).1.map V.str)) → Q (.ref p) H')
def sp_law_cell_at (_ : Txt K mg) : Sp := fun vs H Q _ => ∃ (a : Addr) (ns : List Int) (k : Int), vs = [.ref a, .int k] ∧ SqL K H a (ns.map V.int) ∧ 0 ≤ k ∧ Q (.int (cellAt ns k)) H
def sp_law_mixed (_ : Txt K mg) : Sp := fun vs H Q _ => ∃ (c m : Int), vs = [.int c, .int m] ∧ 0 < m ∧ Q (.int (mixed c m)) H
def sp_law_rate_by (_ : Txt K mg) : Sp := fun vs H Q _ => ∃ (c : Int), vs = [.int c] ∧ ∀ H', Same H H' → Q (.int (rateBy c)) H'
def sp_law_sum_by (_ : Txt K mg) : Sp := fun vs H Q _ => ∃ (l : Addr) (ts : List Trp) (s e : Int), vs = [.ref l, .int s, .int e] ∧ Row H l ts ∧ ts.length ≤ 1000 ∧ Good (vals ts) ∧ 0 ≤ s ∧ s ≤ e ∧ Q (.int (gsum (vals ts) s e)) H
def sp_law_amount_by (_ : Txt K mg) : Sp := fun vs H Q _ => ∃ (c : Int), vs = [.int c] ∧ ∀ H', Same H H' → Q (.int (amountBy c)) H'
def sp_law_owed (_ : Txt K mg) : Sp := fun vs H Q _ => ∃ (l b : Int), vs = [.int l, .int b] ∧ Q (.int (owedF l b)) H
def sp_law_parts (_ : Txt K mg) : Sp := fun vs H Q _ => ∃ (l b c : Int), vs = [.int l, .int b, .int c] ∧
  ∀ p H', Same H H' → H p = none → H' p = some (.tup [.int (payF l b c).1, .int (payF l b c).2.1, .int (payF l b c).2.2.1, .int (payF l b c).2.2.2]) → Q (.ref p) H'
def sp_law_then (_ : Txt K mg) : Sp := fun vs H Q _ => ∃ (st lq : Addr) (tq : List Trp) (z : Ln) (d : Int), vs = [.ref st, .int d] ∧ Std H st lq tq z ∧ Rok (vals tq) ∧ LnOk z ∧ z.day ≤ d ∧ Q (.int (begunAt (vals tq) z d)) H
def sp_law_odd_line (_ : Txt K mg) : Sp := fun vs H Q _ => ∃ (w : Str) (c : Int), vs = [.str ("owe " ++ w), .int c] ∧ 32 ∉ TL.tl w ∧ w.length ≤ 30 ∧ (∀ c ∈ TL.tl w, c < 128) ∧ ∀ (r : Str) H', OddOk r → CpOk r → Same H H' → Q (.str r) H'
def sp_law_line (_ : Txt K mg) : Sp := fun vs H Q _ => ∃ (st lq : Addr) (tq : List Trp) (z : Ln) (c : Int) (k : Nat), vs = [.ref st, .int c] ∧ Std H st lq tq z ∧ DOk ⟨z, vals tq⟩ k ∧
  ∀ (r : Str) H', r.length ≤ 1000 → CpOk r → (c % 11 < 10 → ∃ n, IsNt r n) → (¬ c % 11 < 10 → ntOf r = none) → Same H H' → Q (.str r) H'
theorem line_two {w t u : Str} (hw : w.length ≤ 5) (ht : t.length ≤ 30) (hu : u.length ≤ 30) : (w ++ t ++ " " ++ u).length ≤ 1000 := by
  have hb : (" " : Str).length = 1 := by decide +kernel
  rw [app_len, app_len, app_len, hb]
  omega
def sp_law_paid (_ : Txt K mg) : Sp := fun vs H Q _ => ∃ (st lq : Addr) (tq : List Trp) (z : Ln) (d c : Int) (k : Nat), vs = [.ref st, .int d, .int c] ∧ Std H st lq tq z ∧ DOk ⟨z, vals tq⟩ k ∧ z.day ≤ d ∧ d ≤ 100000 ∧
  (¬ (1 ≤ c ∧ c ≤ owedF z.left (begunAt (vals tq) z d)) → Q (.str "bad pay") H) ∧
  (1 ≤ c → c ≤ owedF z.left (begunAt (vals tq) z d) → ∀ H', But st H H' → Std H' st lq tq (payLn (vals tq) z d c) →
    Q (.str (txt (payF z.left (begunAt (vals tq) z d) c).1 ++ " " ++ txt (payF z.left (begunAt (vals tq) z d) c).2.1 ++ " " ++ txt (payF z.left (begunAt (vals tq) z d) c).2.2.1)) H')
def sp_law_answer (_ : Txt K mg) : Sp := fun vs H Q _ => ∃ (st lq : Addr) (tq : List Trp) (z : Ln) (a : Str) (g : Bool) (k : Nat), vs = [.ref st, .str a, .bl g] ∧ Std H st lq tq z ∧ DOk ⟨z, vals tq⟩ k ∧ a.length ≤ 1000 ∧ (g = true → ∃ n, IsNt a n) ∧ (g = false → ntOf a = none) ∧
  ∀ z2 tq2 H', (ansO ⟨z, vals tq⟩ (ntOf a)).2 = ⟨z2, vals tq2⟩ → But2 st lq H H' → Std H' st lq tq2 z2 → Q (.str (ansO ⟨z, vals tq⟩ (ntOf a)).1) H'
def sp_law_no_desk (_ : Txt K mg) : Sp := fun vs H Q _ => ∃ (am r : Int), vs = [.int am, .int r] ∧ ¬ ((1 ≤ am ∧ am ≤ 1000000000000) ∧ 0 ≤ r ∧ r ≤ 100000) ∧ (¬ (1 ≤ am ∧ am ≤ 1000000000000) → ∀ H', Same H H' → Q (.str "amount") H') ∧ (1 ≤ am → am ≤ 1000000000000 → ∀ H', Same H H' → Q (.str "rate") H')
def strsD (l : List Str) : PyData := .list (l.map .str)
theorem strsD_can {l : List Str} (h : ∀ a ∈ l, CpOk a) : (strsD l).canLay0 = true := by
  unfold strsD
  simp only [PyData.canLay0]
  rw [PyProof.Rows.canLayAll_strs', List.all_eq_true]
  exact fun a ha => (h a ha).ok
theorem strsD_dep (l : List Str) : (strsD l).depth ≤ 1 := by
  unfold strsD
  simp only [PyData.depth]
  have := dep_all (f := PyData.str) (n := 0) (fun i => by simp only [PyData.depth, Nat.le_refl]) l
  omega
theorem strsD_shaped {l : List Str} (h : ∀ a ∈ l, CpOk a) : SeqAt.shaped (strsD l) = true := shaped_of (strsD_can h) (Nat.le_trans (strsD_dep l) (by decide))
theorem strsD_eqv {l : List Str} (h : ∀ a ∈ l, CpOk a) : PyData.eqv (strsD l) (strsD l) = true := SeqAt.eqv_refl _ (strsD_can h)
theorem strs_dpAll {K : PySem.W.Frag} {H : Hp} : ∀ l : List Str, DpAll K H (l.map V.str) (l.map PyData.str)
  | [] => .nil
  | i :: l => .cons (.str i) (strs_dpAll l)
theorem strs_dp {K : PySem.W.Frag} {H : Hp} {a : Addr} {l : List Str} (h : SqL K H a (l.map V.str)) : Dp K H (.ref a) (strsD l) := .lst h (strs_dpAll l)
theorem strs_eq {K : PySem.W.Frag} {H : Hp} {a b : Addr} {l : List Str} {Q : V → Hp → Prop} (hl : ∀ a ∈ l, CpOk a) (h1 : SqL K H a (l.map V.str)) (h2 : SqL K H b (l.map V.str)) (q : Q (.bl true) H) : rEqD K (.ref a) (.ref b) H Q :=
  ⟨_, _, strs_dp h1, strs_dp h2, strsD_shaped hl, strsD_shaped hl, by rw [strsD_eqv hl]; exact q⟩
theorem strs_ne {K : PySem.W.Frag} {H : Hp} {a b : Addr} {l : List Str} {Q : V → Hp → Prop} (hl : ∀ a ∈ l, CpOk a) (h1 : SqL K H a (l.map V.str)) (h2 : SqL K H b (l.map V.str)) (q : Q (.bl false) H) : rNeD K (.ref a) (.ref b) H Q :=
  ⟨_, _, strs_dp h1, strs_dp h2, strsD_shaped hl, strsD_shaped hl, by rw [strsD_eqv hl]; exact q⟩
theorem cut_drop {xs : List V} (n : Nat) : cutV xs (some (n : Int)) none = xs.drop n := by
  by_cases h : n ≤ xs.length
  · exact cut_from rfl h
  · unfold cutV
    rw [HT.sIx_none, HT.sIx_nat, Nat.min_eq_right (by omega), List.drop_length, List.take_nil, List.drop_of_length_le (by omega)]
theorem Std.butl {H H' : Hp} {q st lq : Addr} {tq : List Trp} {z : Ln} {xs : List V} (S : Std H st lq tq z) (b : But q H H') (hq : H q = some (.lst xs)) (n1 : st ≠ q) (n2 : lq ≠ q) : Std H' st lq tq z := ⟨b _ _ S.lst n1, b.rowl hq n2 S.row⟩
/-- what the law's walk keeps -/
structure Wk (S0 : Dsk) (st lq lp dp : Addr) (H : Hp) (ls : List Str) (tq : List Trp) (z : Ln) : Prop where
  S : Std H st lq tq z
  e : (runD S0 ls).2 = ⟨z, vals tq⟩
  lp : H lp = some (.lst (ls.map V.str))
  dp : H dp = some (.lst ((runD S0 ls).1.map V.str))
  len : ∀ a ∈ ls, a.length ≤ 1000
  cp : ∀ a ∈ ls, CpOk a
def sp_law (K : PySem.W.Frag) : Sp := fun vs H Q _ => ∃ (a : Addr) (ns : List Int), vs = [.ref a] ∧ SqL K H a (ns.map V.int) ∧ ns.length ≤ 63 ∧ ∀ H', Q (.bl true) H'
end
section
variable {P : Program} {w : World} {K : PySem.W.Frag} {mg : Str → Option Value} {base : Heap}
theorem ok_need_rate {f : Addr} {fd : FuncData} (F : Fun K "need_rate" "need_rate" s_need_rate f fd) (T : Txt K mg)  :
    FnOk P w K mg base (L2.CX P w) 1 f fd ["rate"] (sp_need_rate T) := by
  refine F.okX sc_need_rate (fun vs H Q E h => ?_) (fun cdv A outer s H vs Q E hr h => ?_)
  · obtain ⟨r, rfl, _⟩ := h
    rfl
  · obtain ⟨r, rfl, hE, hQ⟩ := h
    refine ⟨_, (pss_one (ps_if (pt_not (pt_chain op_le op_le pe_int (pv 0) (pe_gint T.c_MOST_RATE))) (pss_one (ps_raise rfl (takes_of rfl rfl rfl rfl) (pmk_own PySem.F.excBase_ValueError T.e_BadRate.x T.g_BadRate T.e_BadRate.k (raises_own T.e_BadRate.s T.e_BadRate.t) (by exact rfl)))) pss_nil)), ?_⟩
    refine ⟨_, rfl, _, _, rfl, rfl, _, rfl, ifd (fun c1 => ?_) (fun c1 => ?_)⟩
    · refine ⟨_, _, rfl, rfl, _, rfl, ifdn (fun c2 => ?_) (fun c2 => ?_)⟩
      · exact hE (by omega)
      · exact hQ c1 c2
    · exact ⟨_, rfl, ifnF (hE (by omega))⟩

theorem ok_checked {f : Addr} {fd : FuncData} (F : Fun K "checked" "checked" s_checked f fd) (T : Txt K mg) (D_need_rate : Df P w K mg base (L2.CX P w) 1 "need_rate" ["rate"] (sp_need_rate T)) :
    FnOk P w K mg base (L2.CX P w) 2 f fd ["rates"] (sp_checked T) := by
  refine F.okX sc_checked (fun vs H Q E h => ?_) (fun cdv A outer s H vs Q E hr h => ?_)
  · obtain ⟨l, ts, rfl, _⟩ := h
    rfl
  · obtain ⟨l, ts, rfl, R, hD, hR, hQ⟩ := h
    refine ⟨_, (pss_cons (ps_set (i := 1) sc_checked.nd rfl (Or.inl rfl) (pe_un un_neg pe_int))
            (pss_cons (ps_for (passes_of rfl) rfl (pi_list (pv 0)) (pg_tup rfl (pgs_cons (pg_name (i := 2) sc_checked.nd rfl (Or.inl rfl)) (pgs_cons (pg_name (i := 3) sc_checked.nd rfl (Or.inl rfl)) pgs_nil))) (pss_cons (ps_if (PW.pt (pw_or (pt_cmpR op_le (pv 2) (pv 1) (nomark _)) (pw_or (pt_cmpR op_gt (pv 2) (pe_gint T.c_MOST_DAY) (nomark _)) (pw_or1 (PW.pt (pw_and (pt_cmpR op_eq (pv 1) (pe_un un_neg pe_int) (nomark _)) (pw_and1 (pt_cmpR op_gt (pv 2) pe_int (nomark _))))))))) (pss_one (ps_raise rfl (takes_of rfl rfl rfl rfl) (pmk_own PySem.F.excBase_ValueError T.e_BadDay.x T.g_BadDay T.e_BadDay.k (raises_own T.e_BadDay.s T.e_BadDay.t) (by exact rfl)))) pss_nil)
            (pss_cons (ps_expr (pe_call D_need_rate.G (hr.mono (by decide)) rfl D_need_rate.m D_need_rate.kp D_need_rate.b .nil (passes_call (takes_of rfl rfl rfl rfl) (fun _ _ _ _ h => h)) (pa_cons (pv 3) pa_nil)))
            (pss_one (ps_set (i := 1) sc_checked.nd rfl (Or.inl rfl) (pv 2))))))
            (pss_cons (ps_if (pt_cmpR op_eq (pv 1) (pe_un un_neg pe_int) (nomark _)) (pss_one (ps_raise rfl (takes_of rfl rfl rfl rfl) (pmk_own PySem.F.excBase_ValueError T.e_BadDay.x T.g_BadDay T.e_BadDay.k (raises_own T.e_BadDay.s T.e_BadDay.t) (by exact rfl)))) pss_nil)
            (pss_one (ps_ret (pe_callTy call_list_of (by rfl) T.b_list (by decide +kernel) (pa_cons (pv 0) pa_nil))))))), ?_⟩
    refine ⟨_, rfl, _, rfl, l, rfl, ⟨_, R.seq⟩, for_list (K := K) (a := l) (xs := rowV ts)
      (fun i σ H1 => H1 = H ∧ ∃ (ah : Int) (v2 v3 : Option V), -1 ≤ ah ∧ chk (-1) (vals ts) = chk ah ((vals ts).drop i) ∧ σ = [some (.ref l), some (.int ah), v2, v3])
      ⟨rfl, -1, none, none, by decide, rfl, rfl⟩ (fun i σ H1 _ ⟨e, _⟩ => by rw [e]; exact R.seq) ?_ ?_⟩
    · rintro i y σ H1 hi ⟨rfl, ah, v2, v3, ha, ec, rfl⟩
      obtain ⟨a, p, rfl, hp, hap⟩ := R.getV hi
      have ed : (vals ts).drop i = p :: (vals ts).drop (i + 1) := by
        have h2 : (vals ts)[i]'(List.getElem?_eq_some_iff.mp hp).1 = p := (List.getElem?_eq_some_iff.mp hp).2
        rw [← h2]
        exact (List.getElem_cons_drop _).symm
      rw [ed, chk_cons] at ec
      have bad : p.1 ≤ ah ∨ p.1 > 100000 ∨ (ah = -1 ∧ p.1 > 0) → E (.ref T.a_BadDay) none H1 := fun c => by
        rw [if_pos c] at ec
        exact hD ec
      obtain ⟨r, er, g1, g2⟩ : ∃ r, r = p.2 ∧ (¬ (0 ≤ r ∧ r ≤ 100000) → ¬ (p.1 ≤ ah ∨ p.1 > 100000 ∨ (ah = -1 ∧ p.1 > 0)) → E (.ref T.a_BadRate) none H1) ∧ (0 ≤ r → r ≤ 100000 → ¬ (p.1 ≤ ah ∨ p.1 > 100000 ∨ (ah = -1 ∧ p.1 > 0)) → ∃ (ah2 : Int), -1 ≤ ah2 ∧ chk (-1) (vals ts) = chk ah2 ((vals ts).drop (i + 1)) ∧ ah2 = p.1) := by
        refine ⟨p.2, rfl, fun c2 c => ?_, fun r0 r1 c => ?_⟩
        · rw [if_neg c, if_neg c2] at ec
          exact hR ec
        · rw [if_neg c, if_pos ⟨r0, r1⟩] at ec
          exact ⟨p.1, by omega, ec, rfl⟩
      subst er
      refine ⟨a, _, rfl, SqT.of hap, rfl, _, _, rfl, _, _, rfl, rfl, ?_⟩
      walk_at "rd"
      refine ifd (fun c1 => ?_) (fun c1 => ?_)
      · exact iteT (bad (.inl c1))
      walk_at "rd"
      refine ifd (fun c2 => ?_) (fun c2 => ?_)
      · exact iteT (bad (.inr (.inl c2)))
      walk_at "rd"
      refine if_eq (fun c3 => ?_) (fun c3 => ?_)
      · walk_at "rd"
        refine ifd (fun c4 => ?_) (fun c4 => ?_)
        · exact bad (.inr (.inr ⟨c3, c4⟩))
        · have cc : ¬ (p.1 ≤ ah ∨ p.1 > 100000 ∨ (ah = -1 ∧ p.1 > 0)) := by omega
          refine ⟨_, rfl, _, rfl, fun c5 => g1 c5 cc, fun r0 r1 => ?_⟩
          obtain ⟨ah2, x1, x2, rfl⟩ := g2 r0 r1 cc
          exact ⟨_, rfl, rfl, _, _, _, x1, x2, rfl⟩
      · have cc : ¬ (p.1 ≤ ah ∨ p.1 > 100000 ∨ (ah = -1 ∧ p.1 > 0)) := by omega
        refine iteF ⟨_, rfl, _, rfl, fun c5 => g1 c5 cc, fun r0 r1 => ?_⟩
        obtain ⟨ah2, x1, x2, rfl⟩ := g2 r0 r1 cc
        exact ⟨_, rfl, rfl, _, _, _, x1, x2, rfl⟩
    · rintro σ H1 ⟨rfl, ah, v2, v3, ha, ec, rfl⟩
      rw [rowV_len, ← vals_len, List.drop_length, chk_nil] at ec
      refine ⟨_, rfl, _, rfl, rfl, _, rfl, if_eq (fun c => ?_) (fun c => ?_)⟩
      · rw [if_pos c] at ec
        exact hD ec
      · rw [if_neg c] at ec
        refine ⟨_, rfl, l, _, rfl, .inl R.seq, fun l2 hl2 => hQ ec l2 _ (Same.new hl2) hl2 ⟨upd_same, (R.same (Same.new hl2)).prs⟩⟩

theorem ok_grown {f : Addr} {fd : FuncData} (F : Fun K "grown" "grown" s_grown f fd) (T : Txt K mg)  :
    FnOk P w K mg base CX0 1 f fd ["rates", "start", "end"] (sp_grown T) := by
  refine F.ok sc_grown (fun vs H Q E h => ?_) (fun cdv A outer s H vs Q E hr h => ?_)
  · obtain ⟨l, ts, s, e, rfl, _⟩ := h
    rfl
  · obtain ⟨l, ts, s, e, rfl, R, hl, g, h0, hse, q⟩ := h
    have hr2 := g.rate
    rw [← grown_eq g h0 hse] at q
    refine ⟨_, (pss_cons (ps_set (i := 3) sc_grown.nd rfl (Or.inl rfl) pe_int)
            (pss_cons (ps_set (i := 4) sc_grown.nd rfl (Or.inl rfl) (pv 2))
            (pss_cons (ps_for PassesOwn.never rfl (pi_range1 rfl T.b_range (pa_cons (pe_callB call_len_seq (by rfl) T.b_len PySem.boot_len (pa_cons (pv 0) pa_nil)) pa_nil)) (pg_name (i := 5) sc_grown.nd rfl (Or.inl rfl)) (pss_cons (ps_asg (pe_ix ix_list (pv 0) (pe_op op_sub (pe_op op_sub (pe_callB call_len_seq (by rfl) T.b_len PySem.boot_len (pa_cons (pv 0) pa_nil)) pe_int) (pv 5)) (fun _ _ => rfl)) (pg_tup rfl (pgs_cons (pg_name (i := 6) sc_grown.nd rfl (Or.inl rfl)) (pgs_cons (pg_name (i := 7) sc_grown.nd rfl (Or.inl rfl)) pgs_nil))))
            (pss_cons (ps_set (i := 8) sc_grown.nd rfl (Or.inl rfl) (pe_callB (call_max2 rfl) (by rfl) T.b_max (by decide +kernel) (pa_cons (pv 1) (pa_cons (pe_op op_sub (pv 6) pe_int) pa_nil))))
            (pss_one (ps_if (pt_cmpR op_lt (pv 8) (pv 4) (nomark _)) (pss_cons (ps_set (i := 3) sc_grown.nd rfl (Or.inl rfl) (pe_op op_add (pv 3) (pe_op op_mulX (pe_op op_sub (pv 4) (pv 8)) (pv 7))))
            (pss_one (ps_set (i := 4) sc_grown.nd rfl (Or.inl rfl) (pv 8)))) pss_nil)))))
            (pss_one (ps_ret (pv 3)))))), ?_⟩
    walk_at "rd"
    refine ⟨l, _, rfl, .inl R.seq, _, rfl, by omega, by rw [rowV_len]; omega, for_range (lo := 0) (n := (((rowV ts).length : Int)).toNat)
      (fun i σ H1 => H1 = H ∧ ∃ v5 v6 v7 v8 : Option V, σ = [some (.ref l), some (.int s), some (.int e), some (.int (((vals ts).reverse.take i).foldl (gStep s) (0, e)).1), some (.int (((vals ts).reverse.take i).foldl (gStep s) (0, e)).2), v5, v6, v7, v8])
      ⟨rfl, none, none, none, none, rfl⟩ ?_ ?_⟩
    · rintro i σ H1 hi ⟨rfl, v5, v6, v7, v8, rfl⟩
      have hi2 : i < ts.length := by rw [rowV_len] at hi; omega
      obtain ⟨p, hp⟩ := get_of (l := vals ts) (j := ts.length - 1 - i) (by rw [vals_len]; omega)
      obtain ⟨a, ha, hap⟩ := R.at (z := ((rowV ts).length : Int) - 1 - (0 + (i : Int))) (j := ts.length - 1 - i) (by rw [rowV_len]; omega) hp
      have hm := hr2 p (List.mem_of_getElem? hp)
      have er : (vals ts).reverse[i]? = some p := by rw [List.getElem?_reverse (by rw [vals_len]; exact hi2), vals_len]; exact hp
      rw [List.take_add_one, er, List.foldl_append]
      generalize ((vals ts).reverse.take i).foldl (gStep s) (0, e) = acc
      walk_at "rd"
      refine ⟨l, _, rfl, .inl R.seq, _, _, rfl, rfl, _, rfl, _, _, rfl, rfl, l, _, _, _, rfl, rfl, R.seq, ha, a, _, rfl, SqT.of hap, rfl, _, _, rfl, _, _, rfl, rfl, ?_⟩
      walk_at "rd"
      refine ifd (fun c => ?_) (fun c => ?_)
      · walk_at "rd"
        refine ⟨IntMulOk.of_right (PySem.intBits_le_64 (by omega) (by omega)), _, _, rfl, rfl, _, rfl, rfl, some (.int (0 + (i : Int))), some (.int p.1), some (.int p.2), some (.int (if p.1 - 1 > s then p.1 - 1 else s)), ?_⟩
        show _ = [some (V.ref l), some (V.int s), some (V.int e), some (V.int (gStep s acc p).1), some (V.int (gStep s acc p).2), some (.int (0 + (i : Int))), some (.int p.1), some (.int p.2), some (.int (if p.1 - 1 > s then p.1 - 1 else s))]
        unfold gStep
        rw [if_pos c]
        rfl
      · refine ⟨rfl, some (.int (0 + (i : Int))), some (.int p.1), some (.int p.2), some (.int (if p.1 - 1 > s then p.1 - 1 else s)), ?_⟩
        show _ = [some (V.ref l), some (V.int s), some (V.int e), some (V.int (gStep s acc p).1), some (V.int (gStep s acc p).2), some (.int (0 + (i : Int))), some (.int p.1), some (.int p.2), some (.int (if p.1 - 1 > s then p.1 - 1 else s))]
        unfold gStep
        rw [if_neg c]
        rfl
    · rintro σ H1 ⟨rfl, v5, v6, v7, v8, rfl⟩
      refine ⟨_, rfl, ?_⟩
      rw [Int.toNat_natCast, rowV_len, List.take_of_length_le (by rw [List.length_reverse, vals_len]; exact Nat.le_refl _)]
      exact q

theorem ok_need_amount {f : Addr} {fd : FuncData} (F : Fun K "need_amount" "need_amount" s_need_amount f fd) (T : Txt K mg)  :
    FnOk P w K mg base (L2.CX P w) 1 f fd ["amount"] (sp_need_amount T) := by
  refine F.okX sc_need_amount (fun vs H Q E h => ?_) (fun cdv A outer s H vs Q E hr h => ?_)
  · obtain ⟨r, rfl, _⟩ := h
    rfl
  · obtain ⟨r, rfl, hE, hQ⟩ := h
    refine ⟨_, (pss_one (ps_if (pt_not (pt_chain op_le op_le pe_int (pv 0) (pe_gint T.c_MOST_AMOUNT))) (pss_one (ps_raise rfl (takes_of rfl rfl rfl rfl) (pmk_own PySem.F.excBase_ValueError T.e_BadAmount.x T.g_BadAmount T.e_BadAmount.k (raises_own T.e_BadAmount.s T.e_BadAmount.t) (by exact rfl)))) pss_nil)), ?_⟩
    refine ⟨_, rfl, _, _, rfl, rfl, _, rfl, ifd (fun c1 => ?_) (fun c1 => ?_)⟩
    · refine ⟨_, _, rfl, rfl, _, rfl, ifdn (fun c2 => ?_) (fun c2 => ?_)⟩
      · exact hE (by omega)
      · exact hQ c1 c2
    · exact ⟨_, rfl, ifnF (hE (by omega))⟩

theorem ok_Loan_init {f : Addr} {fd : FuncData} (F : Fun K "__init__" "Loan.__init__" s_Loan_init f fd) (T : Txt K mg) (D_need_amount : Df P w K mg base (L2.CX P w) 1 "need_amount" ["amount"] (sp_need_amount T)) (D_checked : Df P w K mg base (L2.CX P w) 2 "checked" ["rates"] (sp_checked T)) :
    FnOk P w K mg base (L2.CX P w) 3 f fd ["self", "amount", "rates"] (sp_Loan_init T) := by
  refine F.okX sc_Loan_init (fun vs H Q E h => ?_) (fun cdv A outer s H vs Q E hr h => ?_)
  · obtain ⟨x, dx, l, am, ts, rfl, _⟩ := h
    rfl
  · obtain ⟨x, dx, l, am, ts, rfl, hx, R, hA, hD, hR, hQ⟩ := h
    refine ⟨_, (pss_cons (ps_expr (pe_call D_need_amount.G (hr.mono (by decide)) rfl D_need_amount.m D_need_amount.kp D_need_amount.b .nil (passes_call (takes_of rfl rfl rfl rfl) (fun _ _ _ _ h => h)) (pa_cons (pv 1) pa_nil)))
            (pss_cons (ps_fld (pv 0) (pe_call D_checked.G (hr.mono (by decide)) rfl D_checked.m D_checked.kp D_checked.b .nil (passes_call (takes_of rfl rfl rfl rfl) (fun _ _ _ _ h => h)) (pa_cons (pv 2) pa_nil)) rfl)
            (pss_cons (ps_fld (pv 0) (pv 1) rfl)
            (pss_cons (ps_fld (pv 0) pe_int rfl)
            (pss_one (ps_fld (pv 0) pe_int rfl)))))), ?_⟩
    refine ⟨_, rfl, _, rfl, hA, fun a1 a2 => ?_⟩
    refine ⟨_, rfl, l, ts, rfl, R, hD a1 a2, hR a1 a2, fun eok l2 H1 s1 hl2 R1 => ?_⟩
    have hx1 := s1 _ _ hx
    refine ⟨_, rfl, x, T.a_Loan, dx, [], rfl, hx1, T.cl_Loan, T.n_Loan_rates, (by decide), ?_⟩
    refine ⟨_, rfl, _, rfl, x, T.a_Loan, dx, _, rfl, upd_same, T.cl_Loan, T.n_Loan_left, (by show 1 < 1000; decide), ?_⟩
    refine ⟨_, rfl, x, T.a_Loan, dx, _, rfl, upd_same, T.cl_Loan, T.n_Loan_begun, ?_, ?_⟩
    · show (putF "left" (V.int am) [("rates", V.ref l2)]).length < 1000
      rw [putF_miss (by decide +kernel)]
      show 2 < 1000
      decide
    refine ⟨_, rfl, x, T.a_Loan, dx, _, rfl, upd_same, T.cl_Loan, T.n_Loan_day, ?_, ?_⟩
    · show (putF "begun" (V.int 0) (putF "left" (V.int am) [("rates", V.ref l2)])).length < 1000
      rw [putF_miss (by decide +kernel)]
      show (putF "begun" (V.int 0) [("rates", V.ref l2), ("left", V.int am)]).length < 1000
      rw [putF_miss (by decide +kernel), putF_miss (by decide +kernel)]
      show 3 < 1000
      decide
    have b : But x H _ := ((((But.of (x := x) s1).upd (.ins T.a_Loan dx (putF "rates" (.ref l2) []))).upd (.ins T.a_Loan dx (putF "left" (.int am) (putF "rates" (.ref l2) [])))).upd (.ins T.a_Loan dx (putF "begun" (.int 0) (putF "left" (.int am) (putF "rates" (.ref l2) []))))).upd (.ins T.a_Loan dx (putF "day" (.int 0) (putF "begun" (.int 0) (putF "left" (.int am) (putF "rates" (.ref l2) [])))))
    have b1 : But x H1 _ := ((((But.of (x := x) (Same.refl H1)).upd (.ins T.a_Loan dx (putF "rates" (.ref l2) []))).upd (.ins T.a_Loan dx (putF "left" (.int am) (putF "rates" (.ref l2) [])))).upd (.ins T.a_Loan dx (putF "begun" (.int 0) (putF "left" (.int am) (putF "rates" (.ref l2) []))))).upd (.ins T.a_Loan dx (putF "day" (.int 0) (putF "begun" (.int 0) (putF "left" (.int am) (putF "rates" (.ref l2) [])))))
    refine hQ a1 a2 eok l2 _ b hl2 ⟨?_, b1.row hx1 R1⟩
    rw [← lf_made]
    exact upd_same

theorem ok_Loan_stand {f : Addr} {fd : FuncData} (F : Fun K "stand" "Loan.stand" s_Loan_stand f fd) (T : Txt K mg) (D_grown : Df P w K mg base CX0 1 "grown" ["rates", "start", "end"] (sp_grown T)) :
    FnOk P w K mg base (L2.CX P w) 2 f fd ["self", "day"] (sp_Loan_stand T) := by
  refine F.okX sc_Loan_stand (fun vs H Q E h => ?_) (fun cdv A outer s H vs Q E hr h => ?_)
  · obtain ⟨x, dx, l, ts, z, d, rfl, _⟩ := h
    rfl
  · obtain ⟨x, dx, l, ts, z, d, rfl, A1, rok, lok, hE, hQ⟩ := h
    refine ⟨_, (pss_cons (ps_if (pt_not (pt_chain op_le op_le (pe_fld (pv 0) rfl) (pv 1) (pe_gint T.c_MOST_DAY))) (pss_one (ps_raise rfl (takes_of rfl rfl rfl rfl) (pmk_own PySem.F.excBase_ValueError T.e_BadDay.x T.g_BadDay T.e_BadDay.k (raises_own T.e_BadDay.s T.e_BadDay.t) (by exact rfl)))) pss_nil)
            (pss_one (ps_ret (pe_tup (pa_cons (pe_fld (pv 0) rfl) (pa_cons (pe_op op_add (pe_fld (pv 0) rfl) (pe_op op_mulX (pe_fld (pv 0) rfl) (pc0 D_grown hr (pa_cons (pe_fld (pv 0) rfl) (pa_cons (pe_fld (pv 0) rfl) (pa_cons (pv 1) pa_nil)))))) pa_nil)))))), ?_⟩
    have hx := A1.ob
    have hl0 := lok.l0
    have hl1 := lok.l1
    have hd0 := lok.d0
    refine ⟨_, rfl, x, _, dx, _, _, rfl, hx, T.cl_Loan, T.n_Loan_day, lf_day _ _, _, rfl, _, _, rfl, rfl, _, rfl, ifd (fun c1 => ?_) (fun c1 => ?_)⟩
    · refine ⟨_, _, rfl, rfl, _, rfl, ifdn (fun c2 => ?_) (fun c2 => ?_)⟩
      · exact hE (by omega)
      · refine ⟨_, rfl, x, _, dx, _, _, rfl, hx, T.cl_Loan, T.n_Loan_left, lf_left _ _, _, rfl, x, _, dx, _, _, rfl, hx, T.cl_Loan, T.n_Loan_begun, lf_begun _ _, _, rfl, x, _, dx, _, _, rfl, hx, T.cl_Loan, T.n_Loan_left, lf_left _ _,
          _, rfl, x, _, dx, _, _, rfl, hx, T.cl_Loan, T.n_Loan_rates, lf_rates _ _, _, rfl, x, _, dx, _, _, rfl, hx, T.cl_Loan, T.n_Loan_day, lf_day _ _, _, rfl, l, ts, _, _, rfl, A1.row, by rw [← vals_len]; exact rok.len, rok.g, hd0, c1, ?_⟩
        refine ⟨_, _, rfl, rfl, IntMulOk.of_left (PySem.intBits_le_64 (by omega) (by omega)), _, _, rfl, rfl, szl 2, fun p hp => ?_⟩
        exact hQ c1 c2 p _ (Same.new hp) hp upd_same
    · exact ⟨_, rfl, ifnF (hE (by omega))⟩

theorem ok_Loan_owed {f : Addr} {fd : FuncData} (F : Fun K "owed" "Loan.owed" s_Loan_owed f fd) (T : Txt K mg) (D_Loan_stand : Dm P w K mg base (L2.CX P w) 2 T.a_Loan "stand" ["self", "day"] (sp_Loan_stand T)) :
    FnOk P w K mg base (L2.CX P w) 3 f fd ["self", "day"] (sp_Loan_owed T) := by
  refine F.okX sc_Loan_owed (fun vs H Q E h => ?_) (fun cdv A outer s H vs Q E hr h => ?_)
  · obtain ⟨x, dx, l, ts, z, d, rfl, _⟩ := h
    rfl
  · obtain ⟨x, dx, l, ts, z, d, rfl, A1, rok, lok, hE, hQ⟩ := h
    refine ⟨_, (pss_cons (ps_asg (pe_meth (pv 0) T.cl_Loan D_Loan_stand.me D_Loan_stand.G (hr.mono (by decide)) D_Loan_stand.b .nil (passes_call (takes_of rfl rfl rfl rfl) (fun _ _ _ _ h => h)) (pa_cons (pv 1) pa_nil)) (pg_tup rfl (pgs_cons (pg_name (i := 2) sc_Loan_owed.nd rfl (Or.inl rfl)) (pgs_cons (pg_name (i := 3) sc_Loan_owed.nd rfl (Or.inl rfl)) pgs_nil))))
            (pss_one (ps_ret (pe_op op_add (pv 2) (pe_op op_fdiv (pe_op op_sub (pe_op op_add (pv 3) (pe_gint T.c_MILLION)) pe_int) (pe_gint T.c_MILLION)))))), ?_⟩
    refine ⟨_, rfl, x, dx, _, rfl, A1.ob, lf_no _ _ (by decide +kernel) (by decide +kernel) (by decide +kernel) (by decide +kernel), _, rfl, x, dx, l, ts, z, d, rfl, A1, rok, lok, hE, fun c1 c2 p H1 s1 hp hp1 => ?_⟩
    refine ⟨p, _, rfl, SqT.of hp1, rfl, _, _, rfl, _, _, rfl, rfl, ?_⟩
    exact ⟨_, rfl, _, rfl, _, _, rfl, rfl, _, _, rfl, rfl, _, _, rfl, rfl, dv, _, _, rfl, rfl, hQ c1 c2 H1 s1⟩

theorem ok_Loan_pay {f : Addr} {fd : FuncData} (F : Fun K "pay" "Loan.pay" s_Loan_pay f fd) (T : Txt K mg) (D_Loan_stand : Dm P w K mg base (L2.CX P w) 2 T.a_Loan "stand" ["self", "day"] (sp_Loan_stand T)) (D_Loan_owed : Dm P w K mg base (L2.CX P w) 3 T.a_Loan "owed" ["self", "day"] (sp_Loan_owed T)) :
    FnOk P w K mg base (L2.CX P w) 4 f fd ["self", "day", "cents"] (sp_Loan_pay T) := by
  refine F.okX sc_Loan_pay (fun vs H Q E h => ?_) (fun cdv A outer s H vs Q E hr h => ?_)
  · obtain ⟨x, dx, l, ts, z, d, c, rfl, _⟩ := h
    rfl
  · obtain ⟨x, dx, l, ts, z, d, c, rfl, A1, rok, lok, hE, hP, hQ⟩ := h
    refine ⟨_, (pss_cons (ps_asg (pe_meth (pv 0) T.cl_Loan D_Loan_stand.me D_Loan_stand.G (hr.mono (by decide)) D_Loan_stand.b .nil (passes_call (takes_of rfl rfl rfl rfl) (fun _ _ _ _ h => h)) (pa_cons (pv 1) pa_nil)) (pg_tup rfl (pgs_cons (pg_name (i := 3) sc_Loan_pay.nd rfl (Or.inl rfl)) (pgs_cons (pg_name (i := 4) sc_Loan_pay.nd rfl (Or.inl rfl)) pgs_nil))))
            (pss_cons (ps_set (i := 5) sc_Loan_pay.nd rfl (Or.inl rfl) (pe_meth (pv 0) T.cl_Loan D_Loan_owed.me D_Loan_owed.G (hr.mono (by decide)) D_Loan_owed.b .nil (passes_call (takes_of rfl rfl rfl rfl) (fun _ _ _ _ h => h)) (pa_cons (pv 1) pa_nil)))
            (pss_cons (ps_if (pt_not (pt_chain op_le op_le pe_int (pv 2) (pv 5))) (pss_one (ps_raise rfl (takes_of rfl rfl rfl rfl) (pmk_own PySem.F.excBase_ValueError T.e_BadPay.x T.g_BadPay T.e_BadPay.k (raises_own T.e_BadPay.s T.e_BadPay.t) (by exact rfl)))) pss_nil)
            (Evl.pss_cut (ps_if (pt_cmpR op_eq (pv 2) (pv 5) (nomark _)) (pss_cons (ps_set (i := 6) sc_Loan_pay.nd rfl (Or.inl rfl) (pe_op op_sub (pv 5) (pv 3)))
            (pss_one (ps_set (i := 4) sc_Loan_pay.nd rfl (Or.inl rfl) pe_int))) (pss_cons (ps_set (i := 6) sc_Loan_pay.nd rfl (Or.inl rfl) (pe_callB (call_min2 rfl) (by rfl) T.b_min (by decide +kernel) (pa_cons (pv 2) (pa_cons (pe_op op_fdiv (pv 4) (pe_gint T.c_MILLION)) pa_nil))))
            (pss_one (ps_set (i := 4) sc_Loan_pay.nd rfl (Or.inl rfl) (pe_op op_sub (pv 4) (pe_op op_mulX (pv 6) (pe_gint T.c_MILLION)))))))
            (pss_cons (ps_set (i := 7) sc_Loan_pay.nd rfl (Or.inl rfl) (pe_op op_sub (pv 2) (pv 6)))
            (pss_cons (ps_fld (pv 0) (pe_op op_sub (pv 3) (pv 7)) rfl)
            (pss_cons (ps_fld (pv 0) (pv 4) rfl)
            (pss_cons (ps_fld (pv 0) (pv 1) rfl)
            (pss_one (ps_ret (pe_tup (pa_cons (pv 6) (pa_cons (pv 7) pa_nil))))))))))))), ?_⟩
    refine ⟨_, rfl, x, dx, _, rfl, A1.ob, lf_no _ _ (by decide +kernel) (by decide +kernel) (by decide +kernel) (by decide +kernel), _, rfl, x, dx, l, ts, z, d, rfl, A1, rok, lok, hE, fun c1 c2 p H1 s1 hp hp1 => ?_⟩
    have A2 := A1.same s1
    refine ⟨p, _, rfl, SqT.of hp1, rfl, _, _, rfl, _, _, rfl, rfl, ?_⟩
    refine ⟨_, rfl, x, dx, _, rfl, A2.ob, lf_no _ _ (by decide +kernel) (by decide +kernel) (by decide +kernel) (by decide +kernel), _, rfl, x, dx, l, ts, z, d, rfl, A2, rok, lok, fun n => absurd ⟨c1, c2⟩ n, fun _ _ H2 s2 => ?_⟩
    have A3 := A2.same s2
    have hP2 := fun n => hP c1 c2 n H2 (s1.trans s2)
    have hQ2 := hQ c1 c2
    have ez : begunAt (vals ts) z d = begunAt (vals ts) z d := rfl
    unfold payLn at hQ2
    generalize begunAt (vals ts) z d = b at hP2 hQ2 ⊢
    refine ⟨_, rfl, _, _, rfl, rfl, _, rfl, ifd (fun g1 => ?_) (fun g1 => ?_)⟩
    · refine ⟨_, rfl, _, _, rfl, rfl, _, rfl, ifdn (fun g2 => ?_) (fun g2 => ?_)⟩
      · exact hP2 (by omega)
      · have hQ3 := hQ2 g1 g2
        refine ⟨fun σ H3 => H3 = H2 ∧ ∃ i b2 : Int, payF z.left b c = (i, c - i, z.left - (c - i), b2) ∧ σ = [some (.ref x), some (.int d), some (.int c), some (.int z.left), some (.int b2), some (.int (owedF z.left b)), some (.int i), none], ?_, ?_⟩
        · refine ⟨_, rfl, _, rfl, rfl, _, rfl, if_eq (fun e => ?_) (fun e => ?_)⟩
          · refine ⟨_, rfl, _, rfl, _, _, rfl, rfl, rfl, owedF z.left b - z.left, 0, ?_, rfl⟩
            unfold payF
            rw [if_pos e, ← e]
            refine Prod.ext rfl (Prod.ext ?_ (Prod.ext ?_ rfl))
            · show z.left = c - (c - z.left)
              omega
            · show 0 = z.left - (c - (c - z.left))
              omega
          · refine ⟨_, rfl, _, rfl, _, _, rfl, rfl, dv, _, _, rfl, _, rfl, _, rfl, _, _, rfl, rfl, mulR, _, _, rfl, rfl, rfl, _, _, ?_, rfl⟩
            unfold payF
            rw [if_neg e]
        · rintro σ H3 ⟨rfl, i, b2, ep, rfl⟩
          rw [ep] at hQ3
          refine ⟨_, rfl, _, rfl, _, _, rfl, rfl, ?_⟩
          refine ⟨_, rfl, _, rfl, _, _, rfl, rfl, _, rfl, x, T.a_Loan, dx, _, rfl, A3.ob, T.cl_Loan, T.n_Loan_left, lf_len _ _, ?_⟩
          rw [lf_putLeft]
          refine ⟨_, rfl, _, rfl, x, T.a_Loan, dx, _, rfl, upd_same, T.cl_Loan, T.n_Loan_begun, lf_len _ _, ?_⟩
          rw [lf_putBegun]
          refine ⟨_, rfl, _, rfl, x, T.a_Loan, dx, _, rfl, upd_same, T.cl_Loan, T.n_Loan_day, lf_len _ _, ?_⟩
          rw [lf_putDay]
          have b0 : But x H3 _ := ((((But.of (x := x) (Same.refl H3)).upd (.ins T.a_Loan dx (lf l ⟨z.left - (c - i), z.begun, z.day⟩))).upd (.ins T.a_Loan dx (lf l ⟨z.left - (c - i), b2, z.day⟩)))).upd (.ins T.a_Loan dx (lf l ⟨z.left - (c - i), b2, d⟩))
          have ho : (L2.upd (L2.upd (L2.upd H3 x (.ins T.a_Loan dx (lf l ⟨z.left - (c - i), z.begun, z.day⟩))) x (.ins T.a_Loan dx (lf l ⟨z.left - (c - i), b2, z.day⟩))) x (.ins T.a_Loan dx (lf l ⟨z.left - (c - i), b2, d⟩))) x = _ := upd_same
          generalize L2.upd (L2.upd (L2.upd H3 x (.ins T.a_Loan dx (lf l ⟨z.left - (c - i), z.begun, z.day⟩))) x (.ins T.a_Loan dx (lf l ⟨z.left - (c - i), b2, z.day⟩))) x (.ins T.a_Loan dx (lf l ⟨z.left - (c - i), b2, d⟩)) = H4 at b0 ho ⊢
          refine ⟨_, rfl, _, rfl, szl 2, fun q hq => ?_⟩
          have bb : But x H H4 := (But.of (s1.trans s2)).trans b0
          refine hQ3 q _ (bb.new hq) ?_ (LoanAt.same ⟨ho, b0.row A3.ob A3.row⟩ (Same.new hq)) upd_same
          -- q was not known
          cases e : H q with
          | none => rfl
          | some o =>
            by_cases hqx : q = x
            · rw [hqx, ho] at hq
              cases hq
            · rw [bb q o e hqx] at hq
              cases hq
    · exact ⟨_, rfl, ifnF (hP2 (by omega))⟩

theorem ok_Loan_change {f : Addr} {fd : FuncData} (F : Fun K "change" "Loan.change" s_Loan_change f fd) (T : Txt K mg) (D_need_rate : Df P w K mg base (L2.CX P w) 1 "need_rate" ["rate"] (sp_need_rate T)) :
    FnOk P w K mg base (L2.CX P w) 2 f fd ["self", "day", "rate"] (sp_Loan_change T) := by
  refine F.okX sc_Loan_change (fun vs H Q E h => ?_) (fun cdv A outer s H vs Q E hr h => ?_)
  · obtain ⟨x, dx, l, ts, z, d, r, rfl, _⟩ := h
    rfl
  · obtain ⟨x, dx, l, ts, z, d, r, rfl, A1, rok, hD, hR, hQ⟩ := h
    refine ⟨_, (pss_cons (ps_if (PW.pt (pw_or (pt_cmpR op_le (pv 1) (pe_fld (pv 0) rfl) (nomark _)) (pw_or (pt_cmpR op_le (pv 1) (pe_ix ix_tup (pe_ix ix_list (pe_fld (pv 0) rfl) (pe_un un_neg pe_int) (fun _ _ => rfl)) pe_int (fun _ _ => rfl)) (nomark _)) (pw_or1 (pt_cmpR op_gt (pv 1) (pe_gint T.c_MOST_DAY) (nomark _)))))) (pss_one (ps_raise rfl (takes_of rfl rfl rfl rfl) (pmk_own PySem.F.excBase_ValueError T.e_BadDay.x T.g_BadDay T.e_BadDay.k (raises_own T.e_BadDay.s T.e_BadDay.t) (by exact rfl)))) pss_nil)
            (pss_cons (ps_expr (pe_call D_need_rate.G (hr.mono (by decide)) rfl D_need_rate.m D_need_rate.kp D_need_rate.b .nil (passes_call (takes_of rfl rfl rfl rfl) (fun _ _ _ _ h => h)) (pa_cons (pv 2) pa_nil)))
            (pss_one (ps_expr (pe_bm PySem.F.plainAttrs_list PySem.F.slot_list_append PySem.F.type_list_append mt_append (pe_fld (pv 0) rfl) (pa_cons (pe_tup (pa_cons (pv 1) (pa_cons (pv 2) pa_nil))) pa_nil)))))), ?_⟩
    have hx := A1.ob
    obtain ⟨b, rl, hb, hbp, _⟩ := A1.row.last (good_ne rok.g)
    refine ⟨_, rfl, _, rfl, x, _, dx, _, _, rfl, hx, T.cl_Loan, T.n_Loan_day, lf_day _ _, _, _, rfl, rfl, _, rfl, ifd (fun c1 => ?_) (fun c1 => ?_)⟩
    · exact iteT (hD (.inl c1))
    refine ⟨_, rfl, _, rfl, x, _, dx, _, _, rfl, hx, T.cl_Loan, T.n_Loan_rates, lf_rates _ _, _, rfl, l, _, _, _, rfl, rfl, A1.row.seq, hb, b, _, _, _, rfl, rfl, SqT.of hbp, at0 rfl, _, _, rfl, rfl, _, rfl, ifd (fun c2 => ?_) (fun c2 => ?_)⟩
    · exact iteT (hD (.inr (.inl c2)))
    refine ⟨_, rfl, _, _, rfl, rfl, _, rfl, ifd (fun c3 => ?_) (fun c3 => ?_)⟩
    · exact hD (.inr (.inr c3))
    have cc : ¬ (d ≤ z.day ∨ d ≤ lastDay (vals ts) ∨ d > 100000) := by omega
    refine ⟨_, rfl, _, rfl, hR cc, fun r0 r1 => ?_⟩
    refine ⟨_, rfl, x, _, dx, _, _, rfl, hx, T.cl_Loan, T.n_Loan_rates, lf_rates _ _, .inl ⟨rfl, _, A1.row.seq⟩, _, rfl, _, rfl, szl 2, fun p hp => ?_⟩
    have R2 := A1.row.same (Same.new (o := tupV (d, r)) hp)
    refine ⟨l, rowV ts, _, rfl, rfl, R2.lst, sz_lt (by have := rok.len; rw [vals_len] at this; rw [rowV_len]; omega), ?_⟩
    have R3 := R2.snoc d r upd_same
    have nxl : x ≠ l := ne_of hx A1.row.lst (by intro q; cases q)
    have nxp : x ≠ p := ne_of_none hx hp
    refine hQ cc r0 r1 p _ ((But.of (Same.new hp)).upd _) hp ⟨?_, R3⟩
    rw [L2.upd_ne nxl, L2.upd_ne nxp]
    exact hx

theorem ok_number_of {f : Addr} {fd : FuncData} (F : Fun K "number_of" "number_of" s_number_of f fd) (T : Txt K mg)  :
    FnOk P w K mg base (L2.CX P w) 1 f fd ["word"] (sp_number_of T) := by
  refine F.okX sc_number_of (fun vs H Q E h => ?_) (fun cdv A outer s H vs Q E hr h => ?_)
  · obtain ⟨a, rfl, _⟩ := h
    rfl
  · obtain ⟨a, rfl, hl, hE, hQ⟩ := h
    refine ⟨_, (pss_cons (ps_for (passes_of rfl) rfl (pi_str (pv 0)) (pg_name (i := 1) sc_number_of.nd rfl (Or.inl rfl)) (pss_one (ps_if (pt_cmpR op_notIn_sign (pv 1) (pe_gstr T.c_FIGURES) rfl) (pss_one (ps_raise rfl (takes_of rfl rfl rfl rfl) (pmk_own PySem.F.excBase_ValueError T.e_NoNote.x T.g_NoNote T.e_NoNote.k (raises_own T.e_NoNote.s T.e_NoNote.t) (by exact rfl)))) pss_nil)))
            (pss_cons (ps_if (PW.pt (pw_or (pt_cmpR op_eq (pv 0) pe_str (nomark _)) (pw_or (pt_cmpR op_gt (pe_callB call_len_str (by rfl) T.b_len PySem.boot_len (pa_cons (pv 0) pa_nil)) (pe_gint T.c_MOST_FIGURES) (nomark _)) (pw_or1 (PW.pt (pw_and (pt_cmpR op_eq (pe_ix ix_str (pv 0) pe_int (fun _ _ => rfl)) pe_str (nomark _)) (pw_and1 (pt_cmpR op_gt (pe_callB call_len_str (by rfl) T.b_len PySem.boot_len (pa_cons (pv 0) pa_nil)) pe_int (nomark _))))))))) (pss_one (ps_raise rfl (takes_of rfl rfl rfl rfl) (pmk_own PySem.F.excBase_ValueError T.e_NoNote.x T.g_NoNote T.e_NoNote.k (raises_own T.e_NoNote.s T.e_NoNote.t) (by exact rfl)))) pss_nil)
            (pss_one (ps_ret (pe_callTy call_int_str (by rfl) T.b_int (by decide +kernel) (pa_cons (pv 0) pa_nil)))))), ?_⟩
    have hls : a.cps.toList.length = a.length := len_str a
    refine ⟨_, rfl, a, rfl, for_it walk_str (fun i σ H' => H' = H ∧ (∀ (j : Nat) c, j < i → a.cps[j]? = some c → 48 ≤ c ∧ c ≤ 57) ∧ ∃ v1 : Option V, σ = [some (.str a), v1])
      ⟨rfl, fun j c hj => absurd hj (Nat.not_lt_zero _), none, rfl⟩ (fun _ _ _ _ _ => trivial) ?_ ?_⟩
    · rintro i x σ H' H2 hi ⟨rfl, hf, v1, rfl⟩ ⟨rfl, c, hc, rfl⟩
      refine ⟨_, rfl, c, _, rfl, rfl, _, rfl, ifdn (fun n => ?_) (fun y => ?_)⟩
      · refine hE fun ok => n ((fig_mem c).mpr (ok.1 c ?_))
        exact List.mem_of_getElem? (i := i) (by rw [Array.getElem?_toList]; exact hc)
      · refine ⟨rfl, fun j d hj hd => ?_, _, rfl⟩
        by_cases e : j = i
        · rw [e, hc] at hd
          obtain rfl : c = d := Option.some.inj hd
          exact (fig_mem c).mp y
        · exact hf j d (by omega) hd
    · rintro σ H' ⟨rfl, hf, v1, rfl⟩
      have hall : ∀ c ∈ a.cps.toList, 48 ≤ c ∧ c ≤ 57 := fun c hc => by
        obtain ⟨j, hj⟩ := List.mem_iff_getElem?.mp hc
        rw [Array.getElem?_toList] at hj
        exact hf j c (Array.getElem?_eq_some_iff.mp hj).1 hj
      refine ⟨_, rfl, rfl, _, rfl, ifd (fun e => ?_) (fun e => ?_)⟩
      · exact iteT (hE fun ok => ok.2.1 (str_nil.mp e))
      have hne : a.cps.toList ≠ [] := fun y => e (str_nil.mpr y)
      refine ⟨_, rfl, a, rfl, sz_small hl, _, _, rfl, rfl, _, rfl, ifd (fun e2 => ?_) (fun e2 => ?_)⟩
      · refine iteT (hE fun ok => ?_)
        have := ok.2.2.1
        have e2' : (a.length : Int) > 30 := e2
        omega
      have e2' : ¬ (a.length : Int) > 30 := e2
      obtain ⟨c, r, ec⟩ : ∃ c r, a.cps.toList = c :: r := by
        cases h : a.cps.toList with
        | nil => exact absurd h hne
        | cons c r => exact ⟨c, r, rfl⟩
      have fin : ¬ (a.cps.toList.head? = some 48 ∧ 1 < a.length) → Q (.int ((PySem.intText? a).getD 0)) H' := fun n => by
        have ok : NumOk a := ⟨hall, hne, by omega, n⟩
        obtain ⟨m, em, m0⟩ := ok.int
        rw [em]
        exact hQ ok m em m0
      have done : ¬ (a.cps.toList.head? = some 48 ∧ 1 < a.length) → ∃ a_1 n, [V.str a] = [V.str a_1] ∧ PySem.intText? a_1 = some n ∧ a_1.length ≤ 640 ∧ Q (.int n) H' := fun n => by
        have ok : NumOk a := ⟨hall, hne, by omega, n⟩
        obtain ⟨m, em, m0⟩ := ok.int
        exact ⟨a, m, rfl, em, by omega, hQ ok m em m0⟩
      refine ⟨_, rfl, a, 0, c, rfl, rfl, sz_small hl, by rw [ec]; exact atI_nat (j := 0) rfl, rfl, _, rfl, ifd (fun e3 => ?_) (fun e3 => ?_)⟩
      · have e3' : c = 48 := one_eq.mp e3
        refine ⟨_, rfl, a, rfl, sz_small hl, _, _, rfl, rfl, _, rfl, ifd (fun e4 => ?_) (fun e4 => ?_)⟩
        · have e4' : (a.length : Int) > 1 := e4
          exact hE fun ok => ok.2.2.2 ⟨by rw [ec, e3']; rfl, by omega⟩
        · have e4' : ¬ (a.length : Int) > 1 := e4
          exact ⟨_, rfl, done fun y => by omega⟩
      · exact ⟨_, rfl, done fun y => e3 (one_eq.mpr (by have := y.1; rw [ec] at this; exact Option.some.inj this))⟩

theorem ok_read {f : Addr} {fd : FuncData} (F : Fun K "read" "read" s_read f fd) (T : Txt K mg) (D_number_of : Df P w K mg base (L2.CX P w) 1 "number_of" ["word"] (sp_number_of T)) :
    FnOk P w K mg base (L2.CX P w) 2 f fd ["line"] (sp_read T) := by
  refine F.okX sc_read (fun vs H Q E h => ?_) (fun cdv A outer s H vs Q E hr h => ?_)
  · obtain ⟨a, rfl, _⟩ := h
    rfl
  · obtain ⟨a, rfl, hl, hE, h3, h2⟩ := h
    refine ⟨_, (pss_cons (ps_set (i := 1) sc_read.nd rfl (Or.inl rfl) (pe_split (pv 0) pe_str))
            (Evl.pss_cut (ps_if (PW.pt (pw_and (pt_cmpR op_eq (pe_callB call_len_seq (by rfl) T.b_len PySem.boot_len (pa_cons (pv 1) pa_nil)) pe_int (nomark _)) (pw_and1 (pt_cmpR op_in_seq (pe_ix ix_list (pv 1) pe_int (fun _ _ => rfl)) (pe_tup (pa_cons pe_str (pa_cons pe_str pa_nil))) (by rfl))))) (pss_one (ps_ret (pe_tup (pa_cons (pe_ix ix_list (pv 1) pe_int (fun _ _ => rfl)) (pa_cons (pe_call D_number_of.G (hr.mono (by decide)) rfl D_number_of.m D_number_of.kp D_number_of.b .nil (passes_call (takes_of rfl rfl rfl rfl) (fun _ _ _ _ h => h)) (pa_cons (pe_ix ix_list (pv 1) pe_int (fun _ _ => rfl)) pa_nil)) (pa_cons (pe_call D_number_of.G (hr.mono (by decide)) rfl D_number_of.m D_number_of.kp D_number_of.b .nil (passes_call (takes_of rfl rfl rfl rfl) (fun _ _ _ _ h => h)) (pa_cons (pe_ix ix_list (pv 1) pe_int (fun _ _ => rfl)) pa_nil)) pa_nil)))))) pss_nil)
            (pss_cons (ps_if (PW.pt (pw_and (pt_cmpR op_eq (pe_callB call_len_seq (by rfl) T.b_len PySem.boot_len (pa_cons (pv 1) pa_nil)) pe_int (nomark _)) (pw_and1 (pt_cmpR op_eq (pe_ix ix_list (pv 1) pe_int (fun _ _ => rfl)) pe_str (nomark _))))) (pss_one (ps_ret (pe_tup (pa_cons pe_str (pa_cons (pe_call D_number_of.G (hr.mono (by decide)) rfl D_number_of.m D_number_of.kp D_number_of.b .nil (passes_call (takes_of rfl rfl rfl rfl) (fun _ _ _ _ h => h)) (pa_cons (pe_ix ix_list (pv 1) pe_int (fun _ _ => rfl)) pa_nil)) pa_nil))))) pss_nil)
            (pss_one (ps_raise rfl (takes_of rfl rfl rfl rfl) (pmk_own PySem.F.excBase_ValueError T.e_NoNote.x T.g_NoNote T.e_NoNote.k (raises_own T.e_NoNote.s T.e_NoNote.t) (by exact rfl))))))), ?_⟩
    have hw : ∀ w ∈ Txt.split a " ", w.length ≤ 100000 := fun w h => Nat.le_trans (PyProof.Rows.part_short h) hl
    refine ⟨_, rfl, ⟨a, rfl⟩, a, _, rfl, rfl, by decide, Nat.le_trans (by omega : a.length + 2 ≤ 100002) (by decide), fun p hp => ?_⟩
    have s1 : Same H (L2.upd H p (.lst ((Txt.split a " ").map V.str))) := Same.new hp
    have u1 : (L2.upd H p (.lst ((Txt.split a " ").map V.str))) p = some (.lst ((Txt.split a " ").map V.str)) := upd_same
    show gName 1 (.ref p) _ (L2.upd H p (.lst ((Txt.split a " ").map V.str))) _
    generalize L2.upd H p (.lst ((Txt.split a " ").map V.str)) = H1 at s1 u1 ⊢
    generalize Txt.split a " " = ws at hE h3 h2 hw u1
    refine ⟨fun σ H' => Same H1 H' ∧ ¬ (∃ w x y, ws = [w, x, y] ∧ (w = "pay" ∨ w = "rate")) ∧ σ = [some (.str a), some (.ref p)], ?_, ?_⟩
    · refine ⟨_, rfl, p, _, rfl, .inl (SqL.of u1), rfl, _, rfl, if_eq (fun c => ?_) (fun c => ?_)⟩
      · rw [List.length_map] at c
        obtain ⟨w, x, y, ews⟩ : ∃ w x y, ws = [w, x, y] := by
          match ws, c with
          | [w, x, y], _ => exact ⟨w, x, y, rfl⟩
          | [], c => exact absurd c (by decide)
          | [_], c => exact absurd c (by simp)
          | [_, _], c => exact absurd c (by simp)
          | _ :: _ :: _ :: _ :: _, c => exact absurd c (by simp only [List.length_cons]; omega)
        rw [ews] at u1
        refine ⟨_, rfl, p, _, _, _, rfl, rfl, SqL.of u1, at0 rfl, szl 2, fun tq htq => ?_⟩
        have s2 : Same H1 (L2.upd H1 tq (.tup [.str "pay", .str "rate"])) := Same.new htq
        refine ⟨tq, _, rfl, .inr (SqT.of upd_same), rfl, rfl, _, rfl, ifb (fun e => ?_) (fun e => ?_)⟩
        · have e2 := in_two.mp e
          have u2 := s2 _ _ u1
          have hx := hw x (by rw [ews]; simp)
          have hy := hw y (by rw [ews]; simp)
          refine ⟨_, rfl, p, _, _, _, rfl, rfl, SqL.of u2, at0 rfl, _, rfl, p, _, _, _, rfl, rfl, SqL.of u2, at_of (j := 1) rfl rfl, x, rfl, hx, fun n => ?_, fun ox m em m0 => ?_⟩
          · refine hE (fun n3 => ?_) (fun n2 => ?_) _ (s1.trans s2)
            · obtain ⟨w', x', y', e', _, ox, _⟩ := n3
              rw [ews] at e'
              cases e'
              exact n ox
            · obtain ⟨x', e', _⟩ := n2
              rw [ews] at e'
              cases e'
          refine ⟨_, rfl, p, _, _, _, rfl, rfl, SqL.of u2, at_of (j := 2) rfl rfl, y, rfl, hy, fun n => ?_, fun oy n en n0 => ?_⟩
          · refine hE (fun n3 => ?_) (fun n2 => ?_) _ (s1.trans s2)
            · obtain ⟨w', x', y', e', _, _, oy⟩ := n3
              rw [ews] at e'
              cases e'
              exact n oy
            · obtain ⟨x', e', _⟩ := n2
              rw [ews] at e'
              cases e'
          exact ⟨szl 3, fun q hq => h3 w x y m n q _ ews e2 ox oy em en m0 n0 ((s1.trans s2).upd hq) upd_same⟩
        · refine ⟨s2, ?_, rfl⟩
          rintro ⟨w', x', y', e', h⟩
          rw [ews] at e'
          cases e'
          have := in_two.mpr h
          exact Bool.noConfusion (e.symm.trans this)
      · refine ⟨Same.refl _, ?_, rfl⟩
        rintro ⟨w', x', y', e', _⟩
        rw [List.length_map, e'] at c
        exact c rfl
    rintro σ H' ⟨s2, n3, rfl⟩
    have u2 := s2 _ _ u1
    have bad : ¬ Note2 ws → E (.ref T.a_NoNote) none H' := fun n => hE (fun y => by
      obtain ⟨w, x, y, e, h, _⟩ := y
      exact n3 ⟨w, x, y, e, h⟩) n _ (s1.trans s2)
    refine ⟨_, rfl, p, _, rfl, .inl (SqL.of u2), rfl, _, rfl, if_eq (fun c => ?_) (fun c => ?_)⟩
    · rw [List.length_map] at c
      obtain ⟨w, x, ews⟩ : ∃ w x, ws = [w, x] := by
        match ws, c with
        | [w, x], _ => exact ⟨w, x, rfl⟩
        | [], c => exact absurd c (by decide)
        | [_], c => exact absurd c (by simp)
        | _ :: _ :: _ :: _, c => exact absurd c (by simp only [List.length_cons]; omega)
      have hx := hw x (by rw [ews]; simp)
      rw [ews] at u2
      refine ⟨_, rfl, p, _, _, _, rfl, rfl, SqL.of u2, at0 rfl, rfl, _, rfl, ifd (fun e => ?_) (fun e => ?_)⟩
      · have e2 : w = "owe" := V.str.inj e
        refine ⟨_, rfl, p, _, _, _, rfl, rfl, SqL.of u2, at_of (j := 1) rfl rfl, x, rfl, hx, fun n => bad fun y => ?_, fun ox m em m0 => ⟨szl 2, fun q hq => h2 x m q _ (by rw [ews, e2]) ox em m0 ((s1.trans s2).upd hq) upd_same⟩⟩
        obtain ⟨x', e', ox⟩ := y
        rw [ews] at e'
        cases e'
        exact n ox
      · refine bad fun y => e ?_
        obtain ⟨x', e', ox⟩ := y
        rw [ews] at e'
        cases e'
        rfl
    · refine bad fun y => c ?_
      obtain ⟨x', e', ox⟩ := y
      rw [List.length_map, e']
      rfl

theorem ok_done {f : Addr} {fd : FuncData} (F : Fun K "done" "done" s_done f fd) (T : Txt K mg) (D_Loan_change : Dm P w K mg base (L2.CX P w) 2 T.a_Loan "change" ["self", "day", "rate"] (sp_Loan_change T)) (D_Loan_owed : Dm P w K mg base (L2.CX P w) 3 T.a_Loan "owed" ["self", "day"] (sp_Loan_owed T)) (D_Loan_pay : Dm P w K mg base (L2.CX P w) 4 T.a_Loan "pay" ["self", "day", "cents"] (sp_Loan_pay T)) :
    FnOk P w K mg base (L2.CX P w) 5 f fd ["loan", "note"] (sp_done T) := by
  refine F.okX sc_done (fun vs H Q E h => ?_) (fun cdv A outer s H vs Q E hr h => ?_)
  · obtain ⟨x, dx, l, np, ts, z, n, k, rfl, _⟩ := h
    rfl
  · obtain ⟨x, dx, l, np, ts, z, n, k, rfl, A, ok, hn, hD, hR, hP, hQ⟩ := h
    refine ⟨_, (pss_cons (ps_if (pt_cmpR op_eq (pe_ix ix_tup (pv 1) pe_int (fun _ _ => rfl)) pe_str (nomark _)) (pss_cons (ps_expr (pe_meth (pv 0) T.cl_Loan D_Loan_change.me D_Loan_change.G (hr.mono (by decide)) D_Loan_change.b .nil (passes_call (takes_of rfl rfl rfl rfl) (fun _ _ _ _ h => h)) (pa_cons (pe_ix ix_tup (pv 1) pe_int (fun _ _ => rfl)) (pa_cons (pe_ix ix_tup (pv 1) pe_int (fun _ _ => rfl)) pa_nil))))
            (pss_one (ps_ret pe_str))) pss_nil)
            (pss_cons (ps_if (pt_cmpR op_eq (pe_ix ix_tup (pv 1) pe_int (fun _ _ => rfl)) pe_str (nomark _)) (pss_one (ps_ret (pe_callTy call_str_int (by rfl) T.b_str (by decide +kernel) (pa_cons (pe_meth (pv 0) T.cl_Loan D_Loan_owed.me D_Loan_owed.G (hr.mono (by decide)) D_Loan_owed.b .nil (passes_call (takes_of rfl rfl rfl rfl) (fun _ _ _ _ h => h)) (pa_cons (pe_ix ix_tup (pv 1) pe_int (fun _ _ => rfl)) pa_nil)) pa_nil)))) pss_nil)
            (pss_cons (ps_asg (pe_meth (pv 0) T.cl_Loan D_Loan_pay.me D_Loan_pay.G (hr.mono (by decide)) D_Loan_pay.b .nil (passes_call (takes_of rfl rfl rfl rfl) (fun _ _ _ _ h => h)) (pa_cons (pe_ix ix_tup (pv 1) pe_int (fun _ _ => rfl)) (pa_cons (pe_ix ix_tup (pv 1) pe_int (fun _ _ => rfl)) pa_nil))) (pg_tup rfl (pgs_cons (pg_name (i := 2) sc_done.nd rfl (Or.inl rfl)) (pgs_cons (pg_name (i := 3) sc_done.nd rfl (Or.inl rfl)) pgs_nil))))
            (pss_cons (ps_set (i := 4) sc_done.nd rfl (Or.inl rfl) (pe_fld (pv 0) rfl))
            (pss_one (ps_ret (pe_joined (.cons (pe_fmt (pv 2)) (.cons pe_str (.cons (pe_fmt (pv 3)) (.cons pe_str (.cons (pe_fmt (pv 4)) .nil)))))))))))), ?_⟩
    cases n with
    | rate d r =>
      refine ⟨_, rfl, np, _, _, _, rfl, rfl, SqT.of hn, at0 rfl, rfl, _, rfl, ifd (fun _ => ?_) (fun y => absurd rfl y)⟩
      refine ⟨_, rfl, x, dx, _, rfl, A.ob, lf_no _ _ (by decide +kernel) (by decide +kernel) (by decide +kernel) (by decide +kernel), _, rfl, np, _, _, _, rfl, rfl, SqT.of hn, at_of (j := 1) rfl rfl, _, rfl, np, _, _, _, rfl, rfl, SqT.of hn, at_of (j := 2) rfl rfl, x, dx, l, ts, z, d, r, rfl, A, ok.rok, fun c => ?_, fun c c2 => ?_, fun c r0 r1 p H1 b hp A1 => ?_⟩
      · refine hD ?_ H (Same.refl H)
        show (if d ≤ z.day ∨ d ≤ lastDay (vals ts) ∨ d > 100000 then Rs2.day else _) = _
        rw [if_pos c]
      · refine hR ?_ H (Same.refl H)
        show (if d ≤ z.day ∨ d ≤ lastDay (vals ts) ∨ d > 100000 then Rs2.day else if 0 ≤ r ∧ r ≤ 100000 then _ else Rs2.rate) = _
        rw [if_neg c, if_neg c2]
      · refine hQ "ok" z (ts ++ [(p, d, r)]) H1 ?_ (fun b' o hb _ n2 => b b' o hb n2) A1
        show (if d ≤ z.day ∨ d ≤ lastDay (vals ts) ∨ d > 100000 then Rs2.day else if 0 ≤ r ∧ r ≤ 100000 then _ else Rs2.rate) = _
        rw [if_neg c, if_pos ⟨r0, r1⟩, vals_append]
        rfl
    | owe d =>
      refine ⟨_, rfl, np, _, _, _, rfl, rfl, SqT.of hn, at0 rfl, rfl, _, rfl, ifd (fun y => absurd y (by decide)) (fun _ => ?_)⟩
      refine ⟨_, rfl, np, _, _, _, rfl, rfl, SqT.of hn, at0 rfl, rfl, _, rfl, ifd (fun _ => ?_) (fun y => absurd rfl y)⟩
      refine ⟨_, rfl, x, dx, _, rfl, A.ob, lf_no _ _ (by decide +kernel) (by decide +kernel) (by decide +kernel) (by decide +kernel), _, rfl, np, _, _, _, rfl, rfl, SqT.of hn, at_of (j := 1) rfl rfl, x, dx, l, ts, z, d, rfl, A, ok.rok, ok.lok, fun c => ?_, fun c1 c2 H1 s1 => ?_⟩
      · refine hD ?_ H (Same.refl H)
        show (if z.day ≤ d ∧ d ≤ 100000 then _ else Rs2.day) = _
        rw [if_neg c]
      · have o := ok.owed c1 c2
        refine ⟨_, rfl, log_ok o.1 (Int.lt_trans o.2 (by decide)), hQ (txt (owedF z.left (begunAt (vals ts) z d))) z ts H1 ?_ (fun b' u hb _ _ => s1 b' u hb) (A.same s1)⟩
        show (if z.day ≤ d ∧ d ≤ 100000 then _ else Rs2.day) = _
        rw [if_pos ⟨c1, c2⟩]
    | pay d c =>
      refine ⟨_, rfl, np, _, _, _, rfl, rfl, SqT.of hn, at0 rfl, rfl, _, rfl, ifd (fun y => absurd y (by decide)) (fun _ => ?_)⟩
      refine ⟨_, rfl, np, _, _, _, rfl, rfl, SqT.of hn, at0 rfl, rfl, _, rfl, ifd (fun y => absurd y (by decide)) (fun _ => ?_)⟩
      refine ⟨_, rfl, x, dx, _, rfl, A.ob, lf_no _ _ (by decide +kernel) (by decide +kernel) (by decide +kernel) (by decide +kernel), _, rfl, np, _, _, _, rfl, rfl, SqT.of hn, at_of (j := 1) rfl rfl, _, rfl, np, _, _, _, rfl, rfl, SqT.of hn, at_of (j := 2) rfl rfl, x, dx, l, ts, z, d, c, rfl, A, ok.rok, ok.lok, fun n => ?_, fun c1 c2 n H1 s1 => ?_, fun c1 c2 c3 c4 p H1 b hp A1 t1 => ?_⟩
      · refine hD ?_ H (Same.refl H)
        show (if z.day ≤ d ∧ d ≤ 100000 then _ else Rs2.day) = _
        rw [if_neg n]
      · refine hP ?_ H1 s1
        show (if z.day ≤ d ∧ d ≤ 100000 then (if 1 ≤ c ∧ c ≤ owedF z.left (begunAt (vals ts) z d) then _ else Rs2.pay) else Rs2.day) = _
        rw [if_pos ⟨c1, c2⟩, if_neg n]
      · have o := ok.owed c1 c2
        have pf := payF_ok ok.lok.l0 (begunAt_ge ok.lok ok.rok.g c1) c3 c4
        have hl1 := ok.lok.l1
        simp only at o pf hl1
        have q := hQ _ _ ts H1 (by
          show (if z.day ≤ d ∧ d ≤ 100000 then (if 1 ≤ c ∧ c ≤ owedF z.left (begunAt (vals ts) z d) then _ else Rs2.pay) else Rs2.day) = _
          rw [if_pos ⟨c1, c2⟩, if_pos ⟨c3, c4⟩]) (fun b' u hb n1 _ => b b' u hb n1) A1
        have eleft : (payLn (vals ts) z d c).left = (payF z.left (begunAt (vals ts) z d) c).2.2.1 := rfl
        refine ⟨p, _, rfl, SqT.of t1, rfl, _, _, rfl, _, _, rfl, rfl, ?_⟩
        refine ⟨_, rfl, x, _, dx, _, _, rfl, A1.ob, T.cl_Loan, T.n_Loan_left, lf_left _ _, ?_⟩
        rw [eleft]
        generalize payF z.left (begunAt (vals ts) z d) c = y at pf q ⊢
        have y1 : y.1 < 10 ^ 30 := by omega
        have y2 : y.2.1 < 10 ^ 30 := by omega
        have y3 : y.2.2.1 < 10 ^ 30 := by omega
        have l1 := txt_len pf.1 y1
        have l2 := txt_len pf.2.1 y2
        have l3 := txt_len pf.2.2.2.1 y3
        have hb1 : (" " : Str).length = 1 := by decide +kernel
        have e0 : ∀ i : Str, Str.empty ++ i = i := fun i => TL.ext_tl (by rw [TL.tl_append]; rfl)
        have f1 : (Str.empty ++ txt y.1).length = (txt y.1).length := by rw [e0]
        refine ⟨_, rfl, .inr ⟨_, rfl, log_ok pf.1 y1, txt y.1, rfl, sz_small (by rw [f1]; omega), ?_⟩⟩
        refine ⟨_, rfl, sz_small (by rw [app_len, f1, hb1]; omega), ?_⟩
        refine ⟨_, rfl, .inr ⟨_, rfl, log_ok pf.2.1 y2, txt y.2.1, rfl, sz_small (by rw [app_len, app_len, f1, hb1]; omega), ?_⟩⟩
        refine ⟨_, rfl, sz_small (by rw [app_len, app_len, app_len, f1, hb1]; omega), ?_⟩
        refine ⟨_, rfl, .inr ⟨_, rfl, log_ok pf.2.2.2.1 y3, txt y.2.2.1, rfl, sz_small (by rw [app_len, app_len, app_len, app_len, f1, hb1]; omega), ?_⟩⟩
        rw [e0]
        exact q

theorem ok_answered {f : Addr} {fd : FuncData} (F : Fun K "answered" "answered" s_answered f fd) (T : Txt K mg) (D_done : Df P w K mg base (L2.CX P w) 5 "done" ["loan", "note"] (sp_done T)) (D_read : Df P w K mg base (L2.CX P w) 2 "read" ["line"] (sp_read T)) :
    FnOk P w K mg base CX0 6 f fd ["loan", "line"] (sp_answered T) := by
  refine F.ok sc_answered (fun vs H Q E h => ?_) (fun cdv A outer s H vs Q E hr h => ?_)
  · obtain ⟨x, dx, l, ts, z, a, k, rfl, _⟩ := h
    rfl
  · obtain ⟨x, dx, l, ts, z, a, k, rfl, A, ok, hl, hQ⟩ := h
    refine ⟨_, (pss_one (ps_try_mix rfl rfl takes0 (fun W pn xe tk po => (pss_one (ps_ret (by exact (pe_callS D_done.G (hr.mono (by decide)) rfl D_done.m D_done.kp D_done.b (fun σ => passAt tk σ) (by exact (pa_cons (pv 0) (pa_cons (by exact (pe_callS D_read.G (hr.mono (by decide)) rfl D_read.m D_read.kp D_read.b (fun σ => passAt tk σ) (by exact (pa_cons (pv 1) pa_nil)))) pa_nil)))))))) (.plain ⟨rfl, by decide, .inl T.g_NoNote⟩ (fun a oe cls d pn hz hf => (pss_one (ps_ret pe_str))) (.plain ⟨rfl, by decide, .inl T.g_BadDay⟩ (fun a oe cls d pn hz hf => (pss_one (ps_ret pe_str))) (.plain ⟨rfl, by decide, .inl T.g_BadRate⟩ (fun a oe cls d pn hz hf => (pss_one (ps_ret pe_str))) (.plain ⟨rfl, by decide, .inl T.g_BadPay⟩ (fun a oe cls d pn hz hf => (pss_one (ps_ret pe_str))) .nil)))))), ?_⟩
    refine ⟨_, rfl, _, rfl, a, rfl, hl, fun n3 n2 H1 s1 => ?_, fun w u y m n p H1 e hw ou oy em en m0 n0 s1 hp => ?_, fun u m p H1 e ou em m0 s1 hp => ?_⟩
    · rw [nt_none n3 n2] at hQ
      exact ⟨true, T.m_NoNote_NoNote, fun _ _ _ => hQ z ts H1 rfl (But2.of s1) (A.same s1), fun y => Bool.noConfusion y⟩
    · obtain ⟨nt, hnt, ent⟩ := nt_three e hw ou oy em en m0 n0
      rw [ntOf_some hnt] at hQ
      have hQ2 : ∀ (R : Rs2), resN ⟨z, vals ts⟩ nt = R → ∀ z2 ts2 H', (toldR ⟨z, vals ts⟩ R).2 = ⟨z2, vals ts2⟩ → But2 x l H H' → LoanAt T.a_Loan H' x dx l ts2 z2 → Q (.str (toldR ⟨z, vals ts⟩ R).1) H' := fun R e => by
        rw [← e]
        exact hQ
      refine ⟨x, dx, l, p, ts, z, nt, k, rfl, A.same s1, ok, by rw [ent]; exact hp, fun e H2 s2 => ?_, fun e H2 s2 => ?_, fun e H2 s2 => ?_, fun r z2 ts2 H2 e b A2 => ?_⟩
      · exact ⟨false, T.m_BadDay_NoNote, fun y => Bool.noConfusion y, fun _ => ⟨true, T.m_BadDay_BadDay, fun _ _ _ => hQ2 _ e z ts H2 rfl (But2.of (s1.trans s2)) (A.same (s1.trans s2)), fun y => Bool.noConfusion y⟩⟩
      · exact ⟨false, T.m_BadRate_NoNote, fun y => Bool.noConfusion y, fun _ => ⟨false, T.m_BadRate_BadDay, fun y => Bool.noConfusion y, fun _ => ⟨true, T.m_BadRate_BadRate, fun _ _ _ => hQ2 _ e z ts H2 rfl (But2.of (s1.trans s2)) (A.same (s1.trans s2)), fun y => Bool.noConfusion y⟩⟩⟩
      · exact ⟨false, T.m_BadPay_NoNote, fun y => Bool.noConfusion y, fun _ => ⟨false, T.m_BadPay_BadDay, fun y => Bool.noConfusion y, fun _ => ⟨false, T.m_BadPay_BadRate, fun y => Bool.noConfusion y, fun _ => ⟨true, T.m_BadPay_BadPay, fun _ _ _ => hQ2 _ e z ts H2 rfl (But2.of (s1.trans s2)) (A.same (s1.trans s2)), fun y => Bool.noConfusion y⟩⟩⟩⟩
      · exact hQ2 _ e z2 ts2 H2 rfl (fun b' o hb n1 n2 => b b' o (s1 b' o hb) n1 n2) A2
    · obtain ⟨nt, hnt, ent⟩ := (⟨.owe m, ⟨u, e, ou, em, m0⟩, rfl⟩ : ∃ nt, IsNt a nt ∧ noteT nt = [.str "owe", .int m])
      rw [ntOf_some hnt] at hQ
      have hQ2 : ∀ (R : Rs2), resN ⟨z, vals ts⟩ nt = R → ∀ z2 ts2 H', (toldR ⟨z, vals ts⟩ R).2 = ⟨z2, vals ts2⟩ → But2 x l H H' → LoanAt T.a_Loan H' x dx l ts2 z2 → Q (.str (toldR ⟨z, vals ts⟩ R).1) H' := fun R e => by
        rw [← e]
        exact hQ
      refine ⟨x, dx, l, p, ts, z, nt, k, rfl, A.same s1, ok, by rw [ent]; exact hp, fun e H2 s2 => ?_, fun e H2 s2 => ?_, fun e H2 s2 => ?_, fun r z2 ts2 H2 e b A2 => ?_⟩
      · exact ⟨false, T.m_BadDay_NoNote, fun y => Bool.noConfusion y, fun _ => ⟨true, T.m_BadDay_BadDay, fun _ _ _ => hQ2 _ e z ts H2 rfl (But2.of (s1.trans s2)) (A.same (s1.trans s2)), fun y => Bool.noConfusion y⟩⟩
      · exact ⟨false, T.m_BadRate_NoNote, fun y => Bool.noConfusion y, fun _ => ⟨false, T.m_BadRate_BadDay, fun y => Bool.noConfusion y, fun _ => ⟨true, T.m_BadRate_BadRate, fun _ _ _ => hQ2 _ e z ts H2 rfl (But2.of (s1.trans s2)) (A.same (s1.trans s2)), fun y => Bool.noConfusion y⟩⟩⟩
      · exact ⟨false, T.m_BadPay_NoNote, fun y => Bool.noConfusion y, fun _ => ⟨false, T.m_BadPay_BadDay, fun y => Bool.noConfusion y, fun _ => ⟨false, T.m_BadPay_BadRate, fun y => Bool.noConfusion y, fun _ => ⟨true, T.m_BadPay_BadPay, fun _ _ _ => hQ2 _ e z ts H2 rfl (But2.of (s1.trans s2)) (A.same (s1.trans s2)), fun y => Bool.noConfusion y⟩⟩⟩⟩
      · exact hQ2 _ e z2 ts2 H2 rfl (fun b' o hb n1 n2 => b b' o (s1 b' o hb) n1 n2) A2

theorem ok_desk {f : Addr} {fd : FuncData} (F : Fun K "desk" "desk" s_desk f fd) (T : Txt K mg) (D_Loan_init : Di P w K mg base (L2.CX P w) 3 T.a_Loan "Loan" ["self", "amount", "rates"] (sp_Loan_init T)) (D_answered : Df P w K mg base CX0 6 "answered" ["loan", "line"] (sp_answered T)) :
    FnOk P w K mg base (L2.CX P w) 7 f fd ["amount", "rate", "lines"] (sp_desk T) := by
  refine F.okX sc_desk (fun vs H Q E h => ?_) (fun cdv A outer s H vs Q E hr h => ?_)
  · obtain ⟨lp, am, r, ls, rfl, _⟩ := h
    rfl
  · obtain ⟨lp, am, r, ls, rfl, hlp, hlen, hls, hA, hR, hQ⟩ := h
    refine ⟨_, (pss_cons (ps_set (i := 3) sc_desk.nd rfl (Or.inl rfl) (pe_make D_Loan_init.mC D_Loan_init.G (hr.mono (by decide)) rfl T.g_Loan D_Loan_init.b .nil (passes_call (takes_of rfl rfl rfl rfl) (fun _ _ _ _ h => h)) (pa_cons (pv 0) (pa_cons (pe_lst (pa_cons (pe_tup (pa_cons pe_int (pa_cons (pv 1) pa_nil))) pa_nil)) pa_nil))))
            (pss_cons (ps_set (i := 4) sc_desk.nd rfl (Or.inl rfl) (pe_lst pa_nil))
            (pss_cons (ps_for (passes_of rfl) rfl (pi_list (pv 2)) (pg_name (i := 5) sc_desk.nd rfl (Or.inl rfl)) (pss_one (ps_expr (pe_bm PySem.F.plainAttrs_list PySem.F.slot_list_append PySem.F.type_list_append mt_append (pv 4) (pa_cons (pc0 D_answered hr (pa_cons (pv 3) (pa_cons (pv 5) pa_nil))) pa_nil)))))
            (pss_one (ps_ret (pv 4)))))), ?_⟩
    refine ⟨_, rfl, _, rfl, szl 2, fun tp htp => ?_⟩
    have s1 : Same H (L2.upd H tp (.tup [.int 0, .int r])) := Same.new htp
    have u1 : (L2.upd H tp (.tup [.int 0, .int r])) tp = some (tupV (0, r)) := upd_same
    refine ⟨szl 1, fun rl hrl => ?_⟩
    have s2 : Same (L2.upd H tp (.tup [.int 0, .int r])) (L2.upd (L2.upd H tp (.tup [.int 0, .int r])) rl (.lst [.ref tp])) := Same.new hrl
    have R2 : Row (L2.upd (L2.upd H tp (.tup [.int 0, .int r])) rl (.lst [.ref tp])) rl [(tp, 0, r)] := by
      refine ⟨upd_same, fun t ht => ?_⟩
      obtain rfl : t = (tp, 0, r) := by simpa using ht
      exact s2 _ _ u1
    have s12 := s1.trans s2
    intro x dx nx ndx nex
    revert nx ndx
    generalize L2.upd (L2.upd H tp (.tup [.int 0, .int r])) rl (.lst [.ref tp]) = H2 at s12 R2 ⊢
    intro nx ndx
    have s3 : Same H2 (L2.upd (L2.upd H2 dx (.own x)) x (.ins T.a_Loan dx [])) := (Same.new ndx).upd (by rw [L2.upd_ne (Ne.symm nex)]; exact nx)
    have hob : (L2.upd (L2.upd H2 dx (.own x)) x (.ins T.a_Loan dx [])) x = some (.ins T.a_Loan dx []) := upd_same
    generalize L2.upd (L2.upd H2 dx (.own x)) x (.ins T.a_Loan dx []) = H3 at s3 hob ⊢
    have s13 := s12.trans s3
    have nxH : H x = none := s12.free nx
    refine ⟨x, dx, rl, am, [(tp, 0, r)], rfl, hob, R2.same s3, fun n => hA n H3 s13, fun _ _ e => ?_, fun h1 h2 e => hR h1 h2 ?_ H3 s13, fun h1 h2 e l2 H4 b4 hl2 A4 => ⟨rfl, ?_⟩⟩
    · have e' : chk (-1) [(0, r)] = .day := e
      rw [chk_one] at e'
      split at e' <;> cases e'
    · have e' : chk (-1) [(0, r)] = .rate := e
      rw [chk_one] at e'
      split at e'
      · cases e'
      · assumption
    have hr : 0 ≤ r ∧ r ≤ 100000 := by
      have e' : chk (-1) [(0, r)] = .ok := e
      rw [chk_one] at e'
      split at e'
      · assumption
      · cases e'
    have s4 : Same H H4 := fun b o hb => b4 b o (s13 b o hb) (ne_of_none hb nxH)
    have hl2H : H l2 = none := s13.free hl2
    have ok0 : DOk ⟨⟨am, 0, 0⟩, [(0, r)]⟩ 1 := DOk.first h1 h2 hr.1 hr.2
    have hq := hQ h1 h2 hr.1 hr.2
    refine ⟨szl 0, fun ap hap => ?_⟩
    have s5 : Same H4 (L2.upd H4 ap (.lst [])) := Same.new hap
    have u5 : (L2.upd H4 ap (.lst [])) ap = some (.lst []) := upd_same
    have nla : l2 ≠ ap := ne_of_none A4.row.lst hap
    have nxa : x ≠ ap := ne_of_none A4.ob hap
    have hapH : H ap = none := s4.free hap
    show gName 4 (.ref ap) _ (L2.upd H4 ap (.lst [])) _
    generalize L2.upd H4 ap (.lst []) = H5 at s5 u5 ⊢
    have e0 : vals [(tp, 0, r)] = [(0, r)] := rfl
    refine ⟨_, rfl, lp, rfl, ⟨_, SqL.of ((s4.trans s5) _ _ hlp)⟩, for_list (K := K) (a := lp) (xs := ls.map V.str)
      (fun i σ H' => ∃ (ts : List Trp) (z : Ln) (v5 : Option V), Same H H' ∧ LoanAt T.a_Loan H' x dx l2 ts z ∧ (runD ⟨⟨am, 0, 0⟩, [(0, r)]⟩ (ls.take i)).2 = ⟨z, vals ts⟩ ∧ H' ap = some (.lst ((runD ⟨⟨am, 0, 0⟩, [(0, r)]⟩ (ls.take i)).1.map V.str)) ∧
        σ = [some (.int am), some (.int r), some (.ref lp), some (.ref x), some (.ref ap), v5])
      ⟨[(tp, 0, r)], ⟨am, 0, 0⟩, none, s4.trans s5, A4.same s5, rfl, u5, rfl⟩ (fun i σ H' _ ⟨_, _, _, s, _⟩ => SqL.of (s _ _ hlp)) ?_ ?_⟩
    · rintro i y σ H6 hi ⟨ts, z, v5, s6, A6, e6, u6, rfl⟩
      obtain ⟨a, ha, rfl⟩ := map_get hi
      have hil : i < ls.length := (List.getElem?_eq_some_iff.mp ha).1
      have hti : (ls.take i).length = i := by rw [List.length_take]; omega
      have ok := runD_ok ok0 i (ls.take i) hti (by omega)
      rw [e6] at ok
      have en : ls.take (i + 1) = ls.take i ++ [a] := by rw [List.take_add_one, ha]; rfl
      refine ⟨_, rfl, .inl ⟨rfl, _, SqL.of u6⟩, _, rfl, _, rfl, x, dx, l2, ts, z, a, _, rfl, A6, ok, hls a (List.mem_of_getElem? ha), fun z2 ts2 H7 e7 b7 A7 => ?_⟩
      have s7 : Same H H7 := fun b o hb => b7 b o (s6 b o hb) (ne_of_none hb nxH) (ne_of_none hb hl2H)
      have u7 := b7 _ _ u6 (Ne.symm nxa) (Ne.symm nla)
      refine ⟨ap, _, _, rfl, rfl, u7, sz_lt (by rw [List.length_map, runD_len, hti]; omega), ?_⟩
      refine ⟨ts2, z2, _, s7.mut hapH, But.loan ((But.of (Same.refl H7)).upd _) u7 nla A7, ?_, ?_, rfl⟩
      · rw [en, runD_snoc, e6]
        exact e7
      · rw [en, runD_snoc, e6, List.map_append]
        exact upd_same
    · rintro σ H6 ⟨ts, z, v5, s6, A6, e6, u6, rfl⟩
      rw [List.length_map, List.take_of_length_le (Nat.le_refl _)] at u6
      exact ⟨_, rfl, hq ap H6 s6 hapH u6⟩

theorem ok_law_cell_at {f : Addr} {fd : FuncData} (F : Fun K "_law_cell_at" "_law_cell_at" s_law_cell_at f fd) (T : Txt K mg)  :
    FnOk P w K mg base CX0 1 f fd ["_law_script", "_law_k"] (sp_law_cell_at T) := by
  refine F.ok sc_law_cell_at (fun vs H Q E h => ?_) (fun cdv A outer s H vs Q E hr h => ?_)
  · obtain ⟨a, ns, k, rfl, _⟩ := h
    rfl
  · obtain ⟨a, ns, k, rfl, hS, h0, q⟩ := h
    refine ⟨_, (pss_cons (ps_if (pt_cmpR op_lt (pv 1) (pe_callB call_len_seq (by rfl) T.b_len PySem.boot_len (pa_cons (pv 0) pa_nil)) (nomark _)) (pss_one (ps_ret (pe_ix ix_list (pv 0) (pv 1) (fun _ _ => rfl)))) pss_nil)
            (pss_one (ps_ret pe_int))), ?_⟩
    refine ⟨_, rfl, _, rfl, a, _, rfl, Or.inl hS, _, _, rfl, rfl, _, rfl, ifd (fun c => ?_) (fun c => ?_)⟩
    · rw [List.length_map] at c
      obtain ⟨j, rfl⟩ : ∃ j : Nat, k = (j : Int) := ⟨k.toNat, by omega⟩
      have hj : j < ns.length := by omega
      refine ⟨_, rfl, _, rfl, a, _, _, _, rfl, rfl, hS, at_m rfl (List.getElem?_eq_getElem hj), ?_⟩
      have e : cellAt ns (j : Int) = ns[j] := by
        unfold cellAt
        rw [Int.toNat_natCast, List.getD_eq_getElem?_getD, List.getElem?_eq_getElem hj]
        rfl
      rw [← e]
      exact q
    · rw [List.length_map] at c
      have e : cellAt ns k = 0 := by
        unfold cellAt
        rw [List.getD_eq_getElem?_getD, List.getElem?_eq_none (by omega)]
        rfl
      rw [e] at q
      exact q

theorem ok_law_mixed {f : Addr} {fd : FuncData} (F : Fun K "_law_mixed" "_law_mixed" s_law_mixed f fd) (T : Txt K mg)  :
    FnOk P w K mg base CX0 1 f fd ["_law_cell", "_law_many"] (sp_law_mixed T) := by
  refine F.ok sc_law_mixed (fun vs H Q E h => ?_) (fun cdv A outer s H vs Q E hr h => ?_)
  · obtain ⟨c, m, rfl, _⟩ := h
    rfl
  · obtain ⟨c, m, rfl, h0, q⟩ := h
    refine ⟨_, (pss_one (ps_ret (pe_op op_mod (pe_op op_mod (pe_op op_add (pe_op op_mulX (pv 0) pe_int) pe_int) pe_int) (pv 1)))), ?_⟩
    refine ⟨_, rfl, _, _, rfl, rfl, mulR, _, _, rfl, rfl, _, _, rfl, rfl, md, _, rfl, _, _, rfl, rfl, h0, q⟩

theorem ok_law_rate_by {f : Addr} {fd : FuncData} (F : Fun K "_law_rate_by" "_law_rate_by" s_law_rate_by f fd) (T : Txt K mg) (D_law_mixed : Df P w K mg base CX0 1 "_law_mixed" ["_law_cell", "_law_many"] (sp_law_mixed T)) :
    FnOk P w K mg base CX0 2 f fd ["_law_cell"] (sp_law_rate_by T) := by
  refine F.ok sc_law_rate_by (fun vs H Q E h => ?_) (fun cdv A outer s H vs Q E hr h => ?_)
  · obtain ⟨c, rfl, _⟩ := h
    rfl
  · obtain ⟨c, rfl, q⟩ := h
    refine ⟨_, (pss_cons (ps_if (pt_cmpR op_eq (pe_op op_mod (pv 0) pe_int) pe_int (nomark _)) (pss_one (ps_ret (pe_ix ix_list (pe_lst (pa_cons pe_int (pa_cons pe_int (pa_cons pe_int (pa_cons pe_int pa_nil))))) (pe_op op_mod (pe_op op_fdiv (pv 0) pe_int) pe_int) (fun _ _ => rfl)))) pss_nil)
            (pss_cons (ps_if (pt_cmpR op_eq (pe_op op_mod (pv 0) pe_int) pe_int (nomark _)) (pss_one (ps_ret (pe_op op_mod (pe_op op_fdiv (pv 0) pe_int) pe_int))) pss_nil)
            (pss_one (ps_ret (pc0 D_law_mixed hr (pa_cons (pv 0) (pa_cons pe_int pa_nil))))))), ?_⟩
    unfold rateBy at q
    refine ⟨_, rfl, _, _, rfl, rfl, md, rfl, _, rfl, if_eq (fun c1 => ?_) (fun c1 => ?_)⟩
    · rw [if_pos c1] at q
      refine ⟨by decide, fun l hl => ⟨_, rfl, _, _, rfl, rfl, dv, _, _, rfl, rfl, md, ?_⟩⟩
      have g0 : 0 ≤ c / 5 % 4 := by omega
      have g1 : c / 5 % 4 < 4 := by omega
      obtain ⟨j, ej⟩ : ∃ j : Nat, c / 5 % 4 = (j : Int) := ⟨(c / 5 % 4).toNat, by omega⟩
      have hj : j < 4 := by omega
      refine ⟨l, _, _, V.int (([0, 1, 99999, 100000] : List Int).getD (c / 5 % 4).toNat 0), rfl, rfl, SqL.of upd_same, at_of ej ?_, q _ (Same.new hl)⟩
      rw [ej, Int.toNat_natCast]
      match j, hj with
      | 0, _ => rfl
      | 1, _ => rfl
      | 2, _ => rfl
      | 3, _ => rfl
    · rw [if_neg c1] at q
      refine ⟨_, rfl, _, _, rfl, rfl, md, rfl, _, rfl, if_eq (fun c2 => ?_) (fun c2 => ?_)⟩
      · rw [if_pos c2] at q
        exact ⟨_, rfl, _, _, rfl, rfl, dv, _, _, rfl, rfl, md, q _ (Same.refl H)⟩
      · rw [if_neg c2] at q
        exact ⟨_, rfl, _, _, rfl, by decide, q _ (Same.refl H)⟩

theorem ok_law_sum_by {f : Addr} {fd : FuncData} (F : Fun K "_law_sum_by" "_law_sum_by" s_law_sum_by f fd) (T : Txt K mg)  :
    FnOk P w K mg base CX0 1 f fd ["_law_row", "_law_start", "_law_end"] (sp_law_sum_by T) := by
  refine F.ok sc_law_sum_by (fun vs H Q E h => ?_) (fun cdv A outer s H vs Q E hr h => ?_)
  · obtain ⟨l, ts, s, e, rfl, _⟩ := h
    rfl
  · obtain ⟨l, ts, s, e, rfl, R, hl, g, h0, hse, q⟩ := h
    rw [← sumUp_all g h0 hse] at q
    refine ⟨_, (pss_cons (ps_set (i := 3) sc_law_sum_by.nd rfl (Or.inl rfl) (pe_op op_mulX (pe_ix ix_tup (pe_ix ix_list (pv 0) pe_int (fun _ _ => rfl)) pe_int (fun _ _ => rfl)) (pe_op op_sub (pv 2) (pv 1))))
            (pss_cons (ps_for PassesOwn.never rfl (pi_range2 rfl T.b_range (pa_cons pe_int (pa_cons (pe_callB call_len_seq (by rfl) T.b_len PySem.boot_len (pa_cons (pv 0) pa_nil)) pa_nil))) (pg_name (i := 4) sc_law_sum_by.nd rfl (Or.inl rfl)) (pss_cons (ps_set (i := 5) sc_law_sum_by.nd rfl (Or.inl rfl) (pe_op op_sub (pv 2) (pe_callB (call_max2 rfl) (by rfl) T.b_max (by decide +kernel) (pa_cons (pv 1) (pa_cons (pe_op op_sub (pe_ix ix_tup (pe_ix ix_list (pv 0) (pv 4) (fun _ _ => rfl)) pe_int (fun _ _ => rfl)) pe_int) pa_nil)))))
            (pss_one (ps_if (pt_cmpR op_gt (pv 5) pe_int (nomark _)) (pss_one (ps_set (i := 3) sc_law_sum_by.nd rfl (Or.inl rfl) (pe_op op_add (pv 3) (pe_op op_mulX (pe_op op_sub (pe_ix ix_tup (pe_ix ix_list (pv 0) (pv 4) (fun _ _ => rfl)) pe_int (fun _ _ => rfl)) (pe_ix ix_tup (pe_ix ix_list (pv 0) (pe_op op_sub (pv 4) pe_int) (fun _ _ => rfl)) pe_int (fun _ _ => rfl))) (pv 5))))) pss_nil))))
            (pss_one (ps_ret (pv 3))))), ?_⟩
    have hlen : (vals ts).length = ts.length := vals_len ts
    obtain ⟨r0, f0⟩ := g.first
    have hpos := (List.getElem?_eq_some_iff.mp f0).1
    obtain ⟨b0, hb0, hbp0⟩ := R.at (z := 0) (j := 0) rfl f0
    have hr0 := g.rate _ (List.mem_of_getElem? f0)
    refine ⟨_, rfl, l, _, _, _, rfl, rfl, R.seq, hb0, b0, _, _, _, rfl, rfl, SqT.of hbp0, at_of (j := 1) rfl rfl, ?_⟩
    walk_at "rd"
    refine ⟨IntMulOk.of_left (PySem.intBits_le_64 (by simp only at hr0; omega) (by simp only at hr0; omega)), _, rfl, l, _, rfl, .inl R.seq, _, _, rfl, ⟨by omega, by omega, by omega, by rw [rowV_len]; omega⟩, for_range (lo := 1) (n := (((rowV ts).length : Int) - 1).toNat)
      (fun i σ H1 => H1 = H ∧ ∃ v4 v5 : Option V, σ = [some (.ref l), some (.int s), some (.int e), some (.int (sumUp (vals ts) s e i)), v4, v5])
      ⟨rfl, none, none, ?_⟩ ?_ ?_⟩
    · show _ = [_, _, _, some (V.int (((vals ts).getD 0 (0, 0)).2 * (e - s))), _, _]
      rw [getD_of f0]
      rfl
    · rintro i σ H1 hi ⟨rfl, v4, v5, rfl⟩
      rw [rowV_len] at hi
      obtain ⟨p, hp⟩ := get_of (l := vals ts) (j := i + 1) (by omega)
      obtain ⟨q2, hq⟩ := get_of (l := vals ts) (j := i) (by omega)
      obtain ⟨a, ha, hap⟩ := R.at (z := 1 + (i : Int)) (j := i + 1) (by omega) hp
      obtain ⟨c, hc, hcp⟩ := R.at (z := 1 + (i : Int) - 1) (j := i) (by omega) hq
      have hm := g.rate p (List.mem_of_getElem? hp)
      have hm2 := g.rate q2 (List.mem_of_getElem? hq)
      refine ⟨_, rfl, _, rfl, _, rfl, _, rfl, l, _, _, _, rfl, rfl, R.seq, ha, a, _, _, _, rfl, rfl, SqT.of hap, at0 rfl, ?_⟩
      walk_at "rd"
      refine ifd (fun c1 => ?_) (fun c1 => ?_)
      · refine ⟨_, rfl, _, rfl, _, rfl, l, _, _, _, rfl, rfl, R.seq, ha, a, _, _, _, rfl, rfl, SqT.of hap, at_of (j := 1) rfl rfl, _, rfl, _, rfl, _, _, rfl, rfl, l, _, _, _, rfl, rfl, R.seq, hc, c, _, _, _, rfl, rfl, SqT.of hcp, at_of (j := 1) rfl rfl, _, _, rfl, rfl, _, rfl, _, _, rfl, rfl,
          IntMulOk.of_left (PySem.intBits_le_64 (by omega) (by omega)), _, _, rfl, rfl, rfl, some (.int (1 + (i : Int))), some (.int (e - (if p.1 - 1 > s then p.1 - 1 else s))), ?_⟩
        have ee : sumUp (vals ts) s e (i + 1) = sumUp (vals ts) s e i + (p.2 - q2.2) * (e - (if p.1 - 1 > s then p.1 - 1 else s)) := by
          rw [sumUp, getD_of hp, getD_of hq, if_pos c1]
        rw [ee]
        rfl
      · refine ⟨rfl, some (.int (1 + (i : Int))), some (.int (e - (if p.1 - 1 > s then p.1 - 1 else s))), ?_⟩
        have ee : sumUp (vals ts) s e (i + 1) = sumUp (vals ts) s e i := by
          rw [sumUp, getD_of hp, getD_of hq, if_neg c1]
        rw [ee]
        rfl
    · rintro σ H1 ⟨rfl, v4, v5, rfl⟩
      refine ⟨_, rfl, ?_⟩
      rw [show (((rowV ts).length : Int) - 1).toNat = (vals ts).length - 1 by rw [rowV_len]; omega]
      exact q

theorem ok_law_amount_by {f : Addr} {fd : FuncData} (F : Fun K "_law_amount_by" "_law_amount_by" s_law_amount_by f fd) (T : Txt K mg) (D_law_mixed : Df P w K mg base CX0 1 "_law_mixed" ["_law_cell", "_law_many"] (sp_law_mixed T)) :
    FnOk P w K mg base CX0 2 f fd ["_law_cell"] (sp_law_amount_by T) := by
  refine F.ok sc_law_amount_by (fun vs H Q E h => ?_) (fun cdv A outer s H vs Q E hr h => ?_)
  · obtain ⟨c, rfl, _⟩ := h
    rfl
  · obtain ⟨c, rfl, q⟩ := h
    refine ⟨_, (pss_cons (ps_if (pt_cmpR op_eq (pe_op op_mod (pv 0) pe_int) pe_int (nomark _)) (pss_one (ps_ret (pe_ix ix_list (pe_lst (pa_cons pe_int (pa_cons pe_int (pa_cons pe_int (pa_cons pe_int pa_nil))))) (pe_op op_mod (pe_op op_fdiv (pv 0) pe_int) pe_int) (fun _ _ => rfl)))) pss_nil)
            (pss_cons (ps_if (pt_cmpR op_eq (pe_op op_mod (pv 0) pe_int) pe_int (nomark _)) (pss_one (ps_ret (pe_op op_add pe_int (pe_op op_mod (pe_op op_fdiv (pv 0) pe_int) pe_int)))) pss_nil)
            (pss_one (ps_ret (pe_op op_add pe_int (pe_op op_mod (pe_op op_add (pe_op op_mulX (pc0 D_law_mixed hr (pa_cons (pv 0) (pa_cons pe_int pa_nil))) pe_int) pe_int) pe_int)))))), ?_⟩
    unfold amountBy at q
    refine ⟨_, rfl, _, _, rfl, rfl, md, rfl, _, rfl, if_eq (fun c1 => ?_) (fun c1 => ?_)⟩
    · rw [if_pos c1] at q
      refine ⟨szl 4, fun l hl => ⟨_, rfl, _, _, rfl, rfl, dv, _, _, rfl, rfl, md, ?_⟩⟩
      obtain ⟨j, ej⟩ : ∃ j : Nat, c / 4 % 4 = (j : Int) := ⟨(c / 4 % 4).toNat, by omega⟩
      have hj : j < 4 := by omega
      refine ⟨l, _, _, V.int (([1, 2, 999999999999, 1000000000000] : List Int).getD (c / 4 % 4).toNat 0), rfl, rfl, SqL.of upd_same, at_of ej ?_, q _ (Same.new hl)⟩
      rw [ej, Int.toNat_natCast]
      match j, hj with
      | 0, _ => rfl
      | 1, _ => rfl
      | 2, _ => rfl
      | 3, _ => rfl
    · rw [if_neg c1] at q
      refine ⟨_, rfl, _, _, rfl, rfl, md, rfl, _, rfl, if_eq (fun c2 => ?_) (fun c2 => ?_)⟩
      · rw [if_pos c2] at q
        exact ⟨_, rfl, _, _, rfl, rfl, dv, _, _, rfl, rfl, md, _, _, rfl, rfl, q _ (Same.refl H)⟩
      · rw [if_neg c2] at q
        exact ⟨_, rfl, _, _, rfl, by decide, _, _, rfl, rfl, mulR, _, _, rfl, rfl, _, _, rfl, rfl, md, _, _, rfl, rfl, q _ (Same.refl H)⟩

theorem ok_law_owed {f : Addr} {fd : FuncData} (F : Fun K "_law_owed" "_law_owed" s_law_owed f fd) (T : Txt K mg)  :
    FnOk P w K mg base CX0 1 f fd ["_law_left", "_law_begun"] (sp_law_owed T) := by
  refine F.ok sc_law_owed (fun vs H Q E h => ?_) (fun cdv A outer s H vs Q E hr h => ?_)
  · obtain ⟨l, b, rfl, _⟩ := h
    rfl
  · obtain ⟨l, b, rfl, q⟩ := h
    refine ⟨_, (pss_one (ps_ret (pe_op op_add (pv 0) (pe_op op_fdiv (pe_op op_add (pv 1) pe_int) pe_int)))), ?_⟩
    have e : owedF l b = l + (b + 999999) / 1000000 := by
      unfold owedF
      rw [show b + 1000000 - 1 = b + 999999 by omega]
    rw [e] at q
    exact ⟨_, rfl, _, rfl, _, _, rfl, rfl, _, _, rfl, rfl, dv, _, _, rfl, rfl, q⟩

theorem ok_law_parts {f : Addr} {fd : FuncData} (F : Fun K "_law_parts" "_law_parts" s_law_parts f fd) (T : Txt K mg)  :
    FnOk P w K mg base CX0 1 f fd ["_law_left", "_law_begun", "_law_cents"] (sp_law_parts T) := by
  refine F.ok sc_law_parts (fun vs H Q E h => ?_) (fun cdv A outer s H vs Q E hr h => ?_)
  · obtain ⟨l, b, c, rfl, _⟩ := h
    rfl
  · obtain ⟨l, b, c, rfl, q⟩ := h
    refine ⟨_, (pss_cons (ps_set (i := 3) sc_law_parts.nd rfl (Or.inl rfl) (pe_op op_add (pv 0) (pe_op op_fdiv (pe_op op_add (pv 1) pe_int) pe_int)))
            (pss_cons (ps_if (pt_cmpR op_eq (pv 2) (pv 3) (nomark _)) (pss_one (ps_ret (pe_tup (pa_cons (pe_op op_sub (pv 3) (pv 0)) (pa_cons (pv 0) (pa_cons pe_int (pa_cons pe_int pa_nil))))))) pss_nil)
            (pss_cons (ps_set (i := 4) sc_law_parts.nd rfl (Or.inl rfl) (pe_callB (call_min2 rfl) (by rfl) T.b_min (by decide +kernel) (pa_cons (pv 2) (pa_cons (pe_op op_fdiv (pv 1) pe_int) pa_nil))))
            (pss_cons (ps_set (i := 5) sc_law_parts.nd rfl (Or.inl rfl) (pe_op op_sub (pv 2) (pv 4)))
            (pss_one (ps_ret (pe_tup (pa_cons (pv 4) (pa_cons (pv 5) (pa_cons (pe_op op_sub (pv 0) (pv 5)) (pa_cons (pe_op op_sub (pv 1) (pe_op op_mulX pe_int (pv 4))) pa_nil))))))))))), ?_⟩
    have e : owedF l b = l + (b + 999999) / 1000000 := by
      unfold owedF
      rw [show b + 1000000 - 1 = b + 999999 by omega]
    unfold payF at q
    rw [e] at q
    refine ⟨_, rfl, _, rfl, _, _, rfl, rfl, _, _, rfl, rfl, dv, _, _, rfl, rfl, ?_⟩
    refine ⟨_, rfl, _, rfl, rfl, _, rfl, if_eq (fun c1 => ?_) (fun c1 => ?_)⟩
    · rw [if_pos c1] at q
      exact ⟨_, rfl, _, rfl, _, _, rfl, rfl, _, rfl, szl 4, fun p hp => q p _ (Same.new hp) hp upd_same⟩
    · rw [if_neg c1, Int.mul_comm _ 1000000] at q
      refine ⟨_, rfl, _, rfl, _, _, rfl, rfl, dv, _, _, rfl, _, rfl, _, rfl, _, _, rfl, rfl, ?_⟩
      exact ⟨_, rfl, _, rfl, _, rfl, _, rfl, _, _, rfl, rfl, _, rfl, _, rfl, _, _, rfl, rfl, mulL, _, _, rfl, rfl, szl 4, fun p hp => q p _ (Same.new hp) hp upd_same⟩

theorem ok_law_then {f : Addr} {fd : FuncData} (F : Fun K "_law_then" "_law_then" s_law_then f fd) (T : Txt K mg) (D_law_sum_by : Df P w K mg base CX0 1 "_law_sum_by" ["_law_row", "_law_start", "_law_end"] (sp_law_sum_by T)) :
    FnOk P w K mg base CX0 2 f fd ["_law_state", "_law_day"] (sp_law_then T) := by
  refine F.ok sc_law_then (fun vs H Q E h => ?_) (fun cdv A outer s H vs Q E hr h => ?_)
  · obtain ⟨st, lq, tq, z, d, rfl, _⟩ := h
    rfl
  · obtain ⟨st, lq, tq, z, d, rfl, S, rok, lok, dz, q⟩ := h
    refine ⟨_, (pss_one (ps_ret (pe_op op_add (pe_ix ix_list (pv 0) pe_int (fun _ _ => rfl)) (pe_op op_mulX (pe_ix ix_list (pv 0) pe_int (fun _ _ => rfl)) (pc0 D_law_sum_by hr (pa_cons (pe_ix ix_list (pv 0) pe_int (fun _ _ => rfl)) (pa_cons (pe_ix ix_list (pv 0) pe_int (fun _ _ => rfl)) (pa_cons (pv 1) pa_nil)))))))), ?_⟩
    have hl0 := lok.l0
    have hl1 := lok.l1
    have hd0 := lok.d0
    refine ⟨_, rfl, st, _, _, _, rfl, rfl, SqL.of S.lst, at_of (j := 1) rfl rfl, _, rfl, st, _, _, _, rfl, rfl, SqL.of S.lst, at0 rfl, _, rfl, st, _, _, _, rfl, rfl, SqL.of S.lst, at_of (j := 3) rfl rfl, _, rfl, st, _, _, _, rfl, rfl, SqL.of S.lst, at_of (j := 2) rfl rfl, _, rfl,
      lq, tq, _, _, rfl, S.row, by rw [← vals_len]; exact rok.len, rok.g, hd0, dz, ?_⟩
    exact ⟨_, _, rfl, rfl, IntMulOk.of_left (PySem.intBits_le_64 (by omega) (by omega)), _, _, rfl, rfl, q⟩

theorem ok_law_odd_line {f : Addr} {fd : FuncData} (F : Fun K "_law_odd_line" "_law_odd_line" s_law_odd_line f fd) (T : Txt K mg)  :
    FnOk P w K mg base CX0 1 f fd ["_law_line_here", "_law_cell"] (sp_law_odd_line T) := by
  refine F.ok sc_law_odd_line (fun vs H Q E h => ?_) (fun cdv A outer s H vs Q E hr h => ?_)
  · obtain ⟨w, c, rfl, _⟩ := h
    rfl
  · obtain ⟨w, c, rfl, hw, hl, h0, q⟩ := h
    refine ⟨_, (pss_cons (ps_set (i := 2) sc_law_odd_line.nd rfl (Or.inl rfl) (pe_lst (pa_cons pe_str (pa_cons pe_str (pa_cons pe_str (pa_cons pe_str (pa_cons pe_str (pa_cons pe_str (pa_cons pe_str (pa_cons pe_str (pa_cons (pe_op op_add_str pe_str (pv 0)) (pa_cons (pe_op op_add_str (pv 0) pe_str) pa_nil))))))))))))
            (pss_cons (ps_set (i := 2) sc_law_odd_line.nd rfl (Or.inl rfl) (pe_op op_cat (pv 2) (pe_lst (pa_cons (pe_op op_add_str (pv 0) pe_str) (pa_cons (pe_op op_add_str pe_str (pv 0)) (pa_cons (pe_op op_add_str (pv 0) pe_str) (pa_cons (pe_upper (pv 0)) (pa_cons (pe_op op_add_str (pv 0) pe_str) (pa_cons pe_str (pa_cons pe_str pa_nil))))))))))
            (pss_cons (ps_set (i := 2) sc_law_odd_line.nd rfl (Or.inl rfl) (pe_op op_cat (pv 2) (pe_lst (pa_cons (pe_op op_add_str pe_str (pe_slice sl_str (pv 0) (po_some pe_int) po_none)) (pa_cons pe_str (pa_cons pe_str (pa_cons (pe_op op_add_str pe_str (pe_slice sl_str (pv 0) (po_some pe_int) po_none)) (pa_cons (pe_op op_add_str (pv 0) pe_str) (pa_cons (pe_op op_add_str (pv 0) pe_str) (pa_cons pe_str pa_nil))))))))))
            (pss_cons (ps_set (i := 2) sc_law_odd_line.nd rfl (Or.inl rfl) (pe_op op_cat (pv 2) (pe_lst (pa_cons (pe_op op_add_str pe_str (pe_op op_rep31 pe_str pe_int)) (pa_cons pe_str (pa_cons pe_str (pa_cons (pe_op op_add_str (pe_op op_add_str pe_str (pe_slice sl_str (pv 0) (po_some pe_int) po_none)) pe_str) pa_nil)))))))
            (pss_one (ps_ret (pe_ix ix_list (pv 2) (pe_op op_mod (pv 1) pe_int) (fun _ _ => rfl)))))))), ?_⟩
    have h4 : ("owe " : Str).length = 4 := by decide +kernel
    have hal : ("owe " ++ w).length ≤ 34 := by rw [app_len, h4]; omega
    have o1 := odd1_ok hw hl
    have o2 := odd2_ok hw hl
    have o3 := odd3_ok hw hl
    have o4 := odd4_ok hw hl
    have e1 := odd1_cp h0
    have e2 := odd2_cp h0
    have e3 := odd3_cp h0
    have e4 := odd4_cp h0
    generalize "owe " ++ w = a at hal o1 o2 o3 o4 e1 e2 e3 e4 ⊢
    have sz : ∀ (n : Nat) {i j : Str}, i.length + j.length ≤ n → n ≤ 100000 → i.length + j.length ≤ sizeLine := fun n i j h1 h2 => sz_small (Nat.le_trans h1 h2)
    have k1 : (" " : Str).length = 1 := by decide +kernel
    have k2 : ("\n" : Str).length = 1 := by decide +kernel
    have k3 : ("\t" : Str).length = 1 := by decide +kernel
    have k4 : (" 1" : Str).length = 2 := by decide +kernel
    have k5 : ("Owe" : Str).length = 3 := by decide +kernel
    have k6 : ("owe +" : Str).length = 5 := by decide +kernel
    have k7 : ("_0" : Str).length = 2 := by decide +kernel
    have k8 : ("." : Str).length = 1 := by decide +kernel
    have k9 : ("a" : Str).length = 1 := by decide +kernel
    have k10 : ones31.length = 31 := by decide +kernel
    have c3 := cutS_length a (some 3) none
    have c4 := cutS_length a (some 4) none
    have hz : a.length ≤ sizeLine := sz_small (by omega)
    refine ⟨_, rfl, _, _, rfl, rfl, sz_small (by omega), _, rfl, _, _, rfl, rfl, sz_small (by omega), szl 10, fun p1 h1 => ?_⟩
    have s1 : Same H (L2.upd H p1 (.lst ((odd1 a).map V.str))) := Same.new h1
    have u1 : (L2.upd H p1 (.lst ((odd1 a).map V.str))) p1 = some (.lst ((odd1 a).map V.str)) := upd_same
    show gName 2 (.ref p1) _ (L2.upd H p1 (.lst ((odd1 a).map V.str))) _
    generalize L2.upd H p1 (.lst ((odd1 a).map V.str)) = H1 at s1 u1 ⊢
    refine ⟨_, rfl, _, rfl, _, _, rfl, rfl, sz_small (by omega), _, rfl, _, _, rfl, rfl, sz_small (by omega), _, rfl, _, _, rfl, rfl, sz_small (by omega), _, rfl, ⟨_, rfl⟩, _, rfl, rfl, by omega, _, rfl, _, _, rfl, rfl, sz_small (by omega), szl 7, fun p2 h2 => ?_⟩
    have s2 : Same H1 (L2.upd H1 p2 (.lst ((odd2 a).map V.str))) := Same.new h2
    have u2 : (L2.upd H1 p2 (.lst ((odd2 a).map V.str))) p2 = some (.lst ((odd2 a).map V.str)) := upd_same
    show rCat _ _ (L2.upd H1 p2 (.lst ((odd2 a).map V.str))) _
    generalize L2.upd H1 p2 (.lst ((odd2 a).map V.str)) = H2 at s2 u2 ⊢
    refine ⟨p1, p2, _, _, rfl, rfl, s2 _ _ u1, u2, sz_small (by rw [List.length_map, List.length_map]; show 10 + 7 ≤ 100000; decide), fun p3 h3 => ?_⟩
    rw [← List.map_append]
    have s3 : Same H2 (L2.upd H2 p3 (.lst ((odd1 a ++ odd2 a).map V.str))) := Same.new h3
    have u3 : (L2.upd H2 p3 (.lst ((odd1 a ++ odd2 a).map V.str))) p3 = some (.lst ((odd1 a ++ odd2 a).map V.str)) := upd_same
    generalize L2.upd H2 p3 (.lst ((odd1 a ++ odd2 a).map V.str)) = H3 at s3 u3 ⊢
    refine ⟨_, rfl, _, rfl, _, rfl, _, rfl, hz, _, _, rfl, rfl, sz_small (by omega), _, rfl, _, rfl, _, rfl, hz, _, _, rfl, rfl, sz_small (by omega), _, rfl, _, _, rfl, rfl, sz_small (by omega), _, rfl, _, _, rfl, rfl, sz_small (by omega), szl 7, fun p4 h4' => ?_⟩
    have s4 : Same H3 (L2.upd H3 p4 (.lst ((odd3 a).map V.str))) := Same.new h4'
    have u4 : (L2.upd H3 p4 (.lst ((odd3 a).map V.str))) p4 = some (.lst ((odd3 a).map V.str)) := upd_same
    show rCat _ _ (L2.upd H3 p4 (.lst ((odd3 a).map V.str))) _
    generalize L2.upd H3 p4 (.lst ((odd3 a).map V.str)) = H4 at s4 u4 ⊢
    refine ⟨p3, p4, _, _, rfl, rfl, s4 _ _ u3, u4, sz_small (by rw [List.length_map, List.length_map]; show 17 + 7 ≤ 100000; decide), fun p5 h5 => ?_⟩
    rw [← List.map_append]
    have s5 : Same H4 (L2.upd H4 p5 (.lst ((odd1 a ++ odd2 a ++ odd3 a).map V.str))) := Same.new h5
    have u5 : (L2.upd H4 p5 (.lst ((odd1 a ++ odd2 a ++ odd3 a).map V.str))) p5 = some (.lst ((odd1 a ++ odd2 a ++ odd3 a).map V.str)) := upd_same
    generalize L2.upd H4 p5 (.lst ((odd1 a ++ odd2 a ++ odd3 a).map V.str)) = H5 at s5 u5 ⊢
    refine ⟨_, rfl, rfl, rfl, _, _, rfl, rfl, sz_small (by omega), _, rfl, _, rfl, _, rfl, hz, _, _, rfl, rfl, sz_small (by omega), _, _, rfl, rfl, sz_small (by rw [app_len]; omega), szl 4, fun p6 h6 => ?_⟩
    have s6 : Same H5 (L2.upd H5 p6 (.lst ((odd4 a).map V.str))) := Same.new h6
    have u6 : (L2.upd H5 p6 (.lst ((odd4 a).map V.str))) p6 = some (.lst ((odd4 a).map V.str)) := upd_same
    show rCat _ _ (L2.upd H5 p6 (.lst ((odd4 a).map V.str))) _
    generalize L2.upd H5 p6 (.lst ((odd4 a).map V.str)) = H6 at s6 u6 ⊢
    refine ⟨p5, p6, _, _, rfl, rfl, s6 _ _ u5, u6, sz_small (by rw [List.length_map, List.length_map]; show 24 + 4 ≤ 100000; decide), fun p7 h7 => ?_⟩
    rw [← List.map_append]
    have s7 := Same.new (o := .lst ((odd1 a ++ odd2 a ++ odd3 a ++ odd4 a).map V.str)) h7
    obtain ⟨j, ej⟩ : ∃ j : Nat, c % 28 = (j : Int) := ⟨(c % 28).toNat, by omega⟩
    obtain ⟨r, hr⟩ := get_of (l := odd1 a ++ odd2 a ++ odd3 a ++ odd4 a) (j := j) (by show j < 28; omega)
    have hm := List.mem_of_getElem? hr
    have fin : OddOk r ∧ CpOk r := by
      rcases List.mem_append.mp hm with hm | hm
      · rcases List.mem_append.mp hm with hm | hm
        · rcases List.mem_append.mp hm with hm | hm
          · exact ⟨o1 r hm, e1 r hm⟩
          · exact ⟨o2 r hm, e2 r hm⟩
        · exact ⟨o3 r hm, e3 r hm⟩
      · exact ⟨o4 r hm, e4 r hm⟩
    exact ⟨_, rfl, _, rfl, _, _, rfl, rfl, md, p7, _, _, _, rfl, rfl, SqL.of upd_same, at_m (f := V.str) ej hr, q r _ fin.1 fin.2 (((((s1.trans s2).trans s3).trans s4).trans s5).trans (s6.trans s7))⟩

theorem ok_law_line {f : Addr} {fd : FuncData} (F : Fun K "_law_line" "_law_line" s_law_line f fd) (T : Txt K mg) (D_law_odd_line : Df P w K mg base CX0 1 "_law_odd_line" ["_law_line_here", "_law_cell"] (sp_law_odd_line T)) (D_law_mixed : Df P w K mg base CX0 1 "_law_mixed" ["_law_cell", "_law_many"] (sp_law_mixed T)) (D_law_rate_by : Df P w K mg base CX0 2 "_law_rate_by" ["_law_cell"] (sp_law_rate_by T)) (D_law_owed : Df P w K mg base CX0 1 "_law_owed" ["_law_left", "_law_begun"] (sp_law_owed T)) (D_law_then : Df P w K mg base CX0 2 "_law_then" ["_law_state", "_law_day"] (sp_law_then T)) :
    FnOk P w K mg base CX0 3 f fd ["_law_state", "_law_cell"] (sp_law_line T) := by
  refine F.ok sc_law_line (fun vs H Q E h => ?_) (fun cdv A outer s H vs Q E hr h => ?_)
  · obtain ⟨st, lq, tq, z, c, k, rfl, _⟩ := h
    rfl
  · obtain ⟨st, lq, tq, z, c, k, rfl, S, ok, q⟩ := h
    refine ⟨_, (pss_cons (ps_if (pt_cmpR op_eq (pe_op op_mod (pv 1) pe_int) pe_int (nomark _)) (pss_one (ps_ret (pc0 D_law_odd_line hr (pa_cons (pe_op op_add_str pe_str (pe_callTy call_str_int (by rfl) T.b_str (by decide +kernel) (pa_cons (pe_ix ix_list (pv 0) pe_int (fun _ _ => rfl)) pa_nil))) (pa_cons (pe_op op_fdiv (pv 1) pe_int) pa_nil))))) pss_nil)
            (pss_cons (ps_set (i := 2) sc_law_line.nd rfl (Or.inl rfl) (pe_op op_add (pe_ix ix_list (pv 0) pe_int (fun _ _ => rfl)) (pe_op op_mod (pe_op op_fdiv (pv 1) pe_int) pe_int)))
            (Evl.pss_cut (ps_if (pt_cmpR op_eq (pe_op op_mod (pe_op op_fdiv (pv 1) pe_int) pe_int) pe_int (nomark _)) (pss_one (ps_set (i := 2) sc_law_line.nd rfl (Or.inl rfl) (pe_op op_add (pv 2) (pc0 D_law_mixed hr (pa_cons (pv 1) (pa_cons pe_int pa_nil)))))) pss_nil)
            (Evl.pss_cut (ps_if (pt_cmpR op_eq (pe_op op_mod (pe_op op_fdiv (pv 1) pe_int) pe_int) pe_int (nomark _)) (pss_one (ps_set (i := 2) sc_law_line.nd rfl (Or.inl rfl) (pe_ix ix_list (pe_lst (pa_cons (pe_callB (call_max2 rfl) (by rfl) T.b_max (by decide +kernel) (pa_cons pe_int (pa_cons (pe_op op_sub (pe_ix ix_list (pv 0) pe_int (fun _ _ => rfl)) pe_int) pa_nil))) (pa_cons pe_int (pa_cons (pe_op op_pow pe_int pe_int) pa_nil)))) (pe_op op_mod (pe_op op_fdiv (pv 1) pe_int) pe_int) (fun _ _ => rfl)))) pss_nil)
            (pss_cons (ps_set (i := 3) sc_law_line.nd rfl (Or.inl rfl) (pe_op op_fdiv (pv 1) pe_int))
            (pss_cons (ps_if (pt_cmpR op_lt (pe_op op_mod (pv 1) pe_int) pe_int (nomark _)) (pss_one (ps_ret (pe_op op_add_str pe_str (pe_callTy call_str_int (by rfl) T.b_str (by decide +kernel) (pa_cons (pv 2) pa_nil))))) pss_nil)
            (pss_cons (ps_if (pt_cmpR op_lt (pe_op op_mod (pv 1) pe_int) pe_int (nomark _)) (pss_cons (ps_set (i := 2) sc_law_line.nd rfl (Or.inl rfl) (pe_callB (call_max2 rfl) (by rfl) T.b_max (by decide +kernel) (pa_cons (pv 2) (pa_cons (pe_op op_add (pe_ix ix_tup (pe_ix ix_list (pe_ix ix_list (pv 0) pe_int (fun _ _ => rfl)) (pe_un un_neg pe_int) (fun _ _ => rfl)) pe_int (fun _ _ => rfl)) (pe_op op_mod (pe_op op_fdiv (pv 1) pe_int) pe_int)) pa_nil))))
            (pss_cons (ps_set (i := 4) sc_law_line.nd rfl (Or.inl rfl) (pe_ix ix_list (pe_lst (pa_cons (pc0 D_law_rate_by hr (pa_cons (pv 3) pa_nil)) (pa_cons pe_int (pa_cons (pe_op op_pow pe_int pe_int) pa_nil)))) (pe_op op_add (pe_callTy call_int1 (by rfl) T.b_int (by decide +kernel) (pa_cons (pe_cmpR op_gt (pe_op op_mod (pv 3) pe_int) pe_int (nomark _)) pa_nil)) (pe_callTy call_int1 (by rfl) T.b_int (by decide +kernel) (pa_cons (pe_cmpR op_gt (pe_op op_mod (pv 3) pe_int) pe_int (nomark _)) pa_nil))) (fun _ _ => rfl)))
            (pss_one (ps_ret (pe_op op_add_str (pe_op op_add_str (pe_op op_add_str pe_str (pe_callTy call_str_int (by rfl) T.b_str (by decide +kernel) (pa_cons (pv 2) pa_nil))) pe_str) (pe_callTy call_str_int (by rfl) T.b_str (by decide +kernel) (pa_cons (pv 4) pa_nil))))))) pss_nil)
            (pss_cons (ps_set (i := 5) sc_law_line.nd rfl (Or.inl rfl) (pe_ix ix_list (pv 0) pe_int (fun _ _ => rfl)))
            (Evl.pss_cut (ps_if (pt_chain op_le op_le (pe_ix ix_list (pv 0) pe_int (fun _ _ => rfl)) (pv 2) pe_int) (pss_one (ps_set (i := 5) sc_law_line.nd rfl (Or.inl rfl) (pc0 D_law_owed hr (pa_cons (pe_ix ix_list (pv 0) pe_int (fun _ _ => rfl)) (pa_cons (pc0 D_law_then hr (pa_cons (pv 0) (pa_cons (pv 2) pa_nil))) pa_nil))))) pss_nil)
            (pss_cons (ps_set (i := 6) sc_law_line.nd rfl (Or.inl rfl) (pe_lst (pa_cons pe_int (pa_cons (pe_op op_fdiv (pv 5) pe_int) (pa_cons (pv 5) (pa_cons (pe_op op_add (pv 5) pe_int) (pa_cons pe_int (pa_cons (pe_op op_pow pe_int pe_int) (pa_cons (pe_op op_add pe_int (pe_op op_mod (pe_op op_mulX (pc0 D_law_mixed hr (pa_cons (pv 3) (pa_cons pe_int pa_nil))) pe_int) (pe_op op_add (pv 5) pe_int))) pa_nil)))))))))
            (pss_one (ps_ret (pe_op op_add_str (pe_op op_add_str (pe_op op_add_str pe_str (pe_callTy call_str_int (by rfl) T.b_str (by decide +kernel) (pa_cons (pv 2) pa_nil))) pe_str) (pe_callTy call_str_int (by rfl) T.b_str (by decide +kernel) (pa_cons (pe_ix ix_list (pv 6) (pe_op op_mod (pv 3) pe_int) (fun _ _ => rfl)) pa_nil))))))))))))))), ?_⟩
    have d0 := ok.lok.d0
    have d1 := ok.lok.d1
    have hl0 := ok.lok.l0
    have hl1 := ok.lok.l1
    simp only at d0 d1 hl0 hl1
    have h4 : ("owe " : Str).length = 4 := by decide +kernel
    have h5 : ("rate " : Str).length = 5 := by decide +kernel
    have h6 : ("pay " : Str).length = 4 := by decide +kernel
    have hb : (" " : Str).length = 1 := by decide +kernel
    have m0 : 0 ≤ c % 11 := by omega
    have m1 : c % 11 < 11 := by omega
    refine ⟨_, rfl, _, _, rfl, rfl, md, rfl, _, rfl, if_eq (fun c1 => ?_) (fun c1 => ?_)⟩
    · have tl := txt_len d0 (by omega : z.day < 10 ^ 30)
      refine ⟨_, rfl, st, _, _, _, rfl, rfl, SqL.of S.lst, at_of (j := 2) rfl rfl, _, rfl, log_ok d0 (by omega), _, _, rfl, rfl, sz_small (by rw [h4]; show 4 + (txt z.day).length ≤ 100000; omega), _, rfl, _, _, rfl, rfl, dv, txt z.day, _, rfl, txt_free d0, tl, fun c' hc' => by
        by_cases h2 : c' ≤ 57
        · omega
        · rw [txt_tl d0] at hc'
          exact absurd hc' (TL.numL_free (.inr (by omega))), fun r H' o cp s => q r H' o.1 cp (fun y => by omega) (fun _ => ntOf_none o.2) s⟩
    refine ⟨_, rfl, st, _, _, _, rfl, rfl, SqL.of S.lst, at_of (j := 2) rfl rfl, _, rfl, _, _, rfl, rfl, dv, _, _, rfl, rfl, md, _, _, rfl, rfl, ?_⟩
    refine ⟨fun σ H' => H' = H ∧ ∃ d : Int, 0 ≤ d ∧ d ≤ 200000 ∧ σ = [some (.ref st), some (.int c), some (.int d), none, none, none, none], ?_, ?_⟩
    · refine ⟨_, rfl, _, _, rfl, rfl, dv, _, _, rfl, rfl, md, rfl, _, rfl, if_eq (fun c2 => ?_) (fun c2 => ?_)⟩
      · have x0 := mixed_ge (c := c) (m := 9000) (by decide)
        have x1 := mixed_lt (c := c) (m := 9000) (by decide)
        exact ⟨_, rfl, _, rfl, _, _, rfl, by decide, _, _, rfl, rfl, rfl, _, by omega, by omega, rfl⟩
      · exact ⟨rfl, _, by omega, by omega, rfl⟩
    rintro σ H1 ⟨rfl, d2, e0, e1, rfl⟩
    refine ⟨fun σ H' => Same H1 H' ∧ ∃ d : Int, 0 ≤ d ∧ d ≤ 10 ^ 29 ∧ σ = [some (.ref st), some (.int c), some (.int d), none, none, none, none], ?_, ?_⟩
    · refine ⟨_, rfl, _, _, rfl, rfl, dv, _, _, rfl, rfl, md, rfl, _, rfl, if_eq (fun c2 => ?_) (fun c2 => ?_)⟩
      · refine ⟨_, rfl, st, _, _, _, rfl, rfl, SqL.of S.lst, at_of (j := 2) rfl rfl, _, _, rfl, rfl, _, _, rfl, _, _, rfl, rfl, ⟨by decide, by decide, by decide⟩, szl 3, fun p hp => ?_⟩
        obtain ⟨j, ej⟩ : ∃ j : Nat, c / 385 % 3 = (j : Int) := ⟨(c / 385 % 3).toNat, by omega⟩
        have hj : j < 3 := by omega
        obtain ⟨v, hv, v0, v1⟩ : ∃ v : Int, ([if z.day - 1 > 0 then z.day - 1 else 0, 100001, 10 ^ (29 : Int).toNat] : List Int)[j]? = some v ∧ 0 ≤ v ∧ v ≤ 10 ^ 29 := by
          match j, hj with
          | 0, _ => exact ⟨_, rfl, by split <;> omega, by split <;> omega⟩
          | 1, _ => exact ⟨_, rfl, by decide, by decide⟩
          | 2, _ => exact ⟨_, rfl, by decide, by decide⟩
        exact ⟨_, rfl, _, _, rfl, rfl, dv, _, _, rfl, rfl, md, p, _, _, _, rfl, rfl, SqL.of upd_same, at_m (f := V.int) (l := [if z.day - 1 > 0 then z.day - 1 else 0, 100001, 10 ^ (29 : Int).toNat]) ej hv, Same.new hp, v, v0, v1, rfl⟩
      · exact ⟨Same.refl _, d2, e0, by omega, rfl⟩
    rintro σ H2 ⟨s2, d, f0, f1, rfl⟩
    have S2 := S.same s2
    refine ⟨_, rfl, _, _, rfl, rfl, dv, ?_⟩
    have tld := txt_len f0 (by omega : d < 10 ^ 30)
    have tld' : (Str.ofString (toString d)).length ≤ 30 := tld
    refine ⟨_, rfl, _, _, rfl, rfl, md, _, _, rfl, rfl, _, rfl, ifd (fun c2 => ?_) (fun c2 => ?_)⟩
    · refine ⟨_, rfl, _, rfl, log_ok f0 (by omega), _, _, rfl, rfl, sz_small (by omega), q ("owe " ++ txt d) H2 (by rw [app_len, h4]; omega) (cp_app (by decide +kernel) (txt_cp f0)) (fun _ => ⟨_, isnt_owe f0 (by omega)⟩) (fun n => by omega) s2⟩
    refine ⟨_, rfl, _, _, rfl, rfl, md, _, _, rfl, rfl, _, rfl, ifd (fun c3 => ?_) (fun c3 => ?_)⟩
    · obtain ⟨b, rl, hbl, hbp, _⟩ := S2.row.last (good_ne ok.rok.g)
      have hld := ok.rok.last
      have hlg := lastDay_ge ok.rok.g
      simp only at hld hlg
      refine ⟨_, rfl, _, rfl, st, _, _, _, rfl, rfl, SqL.of S2.lst, at_of (j := 3) rfl rfl, _, rfl, lq, _, _, _, rfl, rfl, S2.row.seq, hbl, b, _, _, _, rfl, rfl, SqT.of hbp, at0 rfl, _, rfl, _, _, rfl, rfl, dv, _, _, rfl, rfl, md, _, _, rfl, rfl, _, _, rfl, ?_⟩
      obtain ⟨e, ee, g0, g1⟩ : ∃ e : Int, (if lastDay (vals tq) + c / 385 % 3 > d then lastDay (vals tq) + c / 385 % 3 else d) = e ∧ 0 ≤ e ∧ e ≤ 10 ^ 29 := ⟨_, rfl, by split <;> omega, by split <;> omega⟩
      show gName 2 (.int (if lastDay (vals tq) + c / 385 % 3 > d then lastDay (vals tq) + c / 385 % 3 else d)) _ _ _
      rw [ee]
      clear ee
      have tle := txt_len g0 (by omega : e < 10 ^ 30)
      have tle' : (Str.ofString (toString e)).length ≤ 30 := tle
      refine ⟨_, rfl, _, rfl, fun H3 s3 => ⟨_, _, rfl, rfl, ⟨by decide, by decide, by decide⟩, szl 3, fun p hp => ?_⟩⟩
      have ro := rateBy_ok (c / 770)
      refine ⟨_, rfl, _, _, rfl, rfl, md, _, _, rfl, rfl, .inr ⟨_, rfl, _, rfl, _, _, rfl, rfl, md, _, _, rfl, rfl, .inr ⟨_, rfl, _, _, rfl, rfl, ?_⟩⟩⟩
      obtain ⟨j, ej, hj⟩ : ∃ j : Nat, (if decide (c / 770 % 6 > 3) then (1 : Int) else 0) + (if decide (c / 770 % 6 > 4) then (1 : Int) else 0) = (j : Int) ∧ j < 3 := by
        by_cases y1 : c / 770 % 6 > 3
        · by_cases y2 : c / 770 % 6 > 4
          · exact ⟨2, by rw [decide_eq_true y1, decide_eq_true y2]; rfl, by decide⟩
          · exact ⟨1, by rw [decide_eq_true y1, decide_eq_false y2]; rfl, by decide⟩
        · by_cases y2 : c / 770 % 6 > 4
          · exact ⟨1, by rw [decide_eq_false y1, decide_eq_true y2]; rfl, by decide⟩
          · exact ⟨0, by rw [decide_eq_false y1, decide_eq_false y2]; rfl, by decide⟩
      obtain ⟨v, hv, v0, v1⟩ : ∃ v : Int, ([rateBy (c / 770), 100001, 10 ^ (29 : Int).toNat] : List Int)[j]? = some v ∧ 0 ≤ v ∧ v ≤ 10 ^ 29 := by
        match j, hj with
        | 0, _ => exact ⟨_, rfl, by omega, by omega⟩
        | 1, _ => exact ⟨_, rfl, by decide, by decide⟩
        | 2, _ => exact ⟨_, rfl, by decide, by decide⟩
      refine ⟨p, _, _, _, rfl, rfl, SqL.of upd_same, at_m (f := V.int) (l := [rateBy (c / 770), 100001, 10 ^ (29 : Int).toNat]) ej hv, ?_⟩
      have tlv := txt_len v0 (by omega : v < 10 ^ 30)
      have tlv' : (Str.ofString (toString v)).length ≤ 30 := tlv
      exact ⟨_, rfl, _, rfl, log_ok g0 (by omega), _, _, rfl, rfl, sz_small (by omega), _, _, rfl, rfl, sz_small (by rw [app_len]; omega), _, rfl, _, rfl, log_ok v0 (by omega), _, _, rfl, rfl, sz_small (by rw [app_len, app_len]; omega),
        q ("rate " ++ txt e ++ " " ++ txt v) _ (line_two (by omega) tle tlv) (cp_app (cp_app (cp_app (by decide +kernel) (txt_cp g0)) (by decide +kernel)) (txt_cp v0)) (fun _ => ⟨_, isnt_rate g0 (by omega) v0 (by omega)⟩) (fun n => by omega) ((s2.trans s3).upd hp)⟩
    refine ⟨_, rfl, st, _, _, _, rfl, rfl, SqL.of S2.lst, at0 rfl, ?_⟩
    refine ⟨fun σ H' => H' = H2 ∧ ∃ o : Int, 0 ≤ o ∧ o < 10 ^ 29 ∧ σ = [some (.ref st), some (.int c), some (.int d), some (.int (c / 770)), none, some (.int o), none], ?_, ?_⟩
    · refine ⟨_, rfl, st, _, _, _, rfl, rfl, SqL.of S2.lst, at_of (j := 2) rfl rfl, _, rfl, _, _, rfl, rfl, _, rfl, ifd (fun c4 => ?_) (fun c4 => ?_)⟩
      · refine ⟨_, _, rfl, rfl, _, rfl, ifd (fun c5 => ?_) (fun c5 => ?_)⟩
        · have o := ok.owed c4 c5
          exact ⟨_, rfl, st, _, _, _, rfl, rfl, SqL.of S2.lst, at0 rfl, _, rfl, _, rfl, st, lq, tq, z, d, rfl, S2, ok.rok, ok.lok, c4, _, _, rfl, rfl, _, o.1, o.2, rfl⟩
        · exact ⟨rfl, z.left, hl0, by omega, rfl⟩
      · exact ⟨_, rfl, iteF ⟨rfl, z.left, hl0, by omega, rfl⟩⟩
    rintro σ H3 ⟨rfl, o, o0, o1, rfl⟩
    have y0 := Int.emod_nonneg (mixed (c / 770) 2147483647 * 467) (show o + 1 ≠ 0 by omega)
    have y1 := Int.emod_lt_of_pos (mixed (c / 770) 2147483647 * 467) (show 0 < o + 1 by omega)
    refine ⟨_, rfl, _, _, rfl, rfl, dv, _, rfl, _, rfl, _, _, rfl, rfl, _, _, rfl, rfl, ⟨by decide, by decide, by decide⟩, _, rfl, _, _, rfl, by decide, _, _, rfl, rfl, mulR, _, rfl, _, _, rfl, rfl, _, _, rfl, rfl, by omega, _, _, rfl, rfl, szl 7, fun p hp => ?_⟩
    obtain ⟨j, ej⟩ : ∃ j : Nat, c / 770 % 7 = (j : Int) := ⟨(c / 770 % 7).toNat, by omega⟩
    have hj : j < 7 := by omega
    obtain ⟨v, hv, v0, v1⟩ : ∃ v : Int, ([1, o / 2, o, o + 1, 0, 10 ^ (29 : Int).toNat, 1 + mixed (c / 770) 2147483647 * 467 % (o + 1)] : List Int)[j]? = some v ∧ 0 ≤ v ∧ v ≤ 10 ^ 29 := by
      match j, hj with
      | 0, _ => exact ⟨_, rfl, by decide, by decide⟩
      | 1, _ => exact ⟨_, rfl, by omega, by omega⟩
      | 2, _ => exact ⟨_, rfl, by omega, by omega⟩
      | 3, _ => exact ⟨_, rfl, by omega, by omega⟩
      | 4, _ => exact ⟨_, rfl, by decide, by decide⟩
      | 5, _ => exact ⟨_, rfl, by decide, by decide⟩
      | 6, _ => exact ⟨_, rfl, by omega, by omega⟩
    have tlv := txt_len v0 (by omega : v < 10 ^ 30)
    have tlv' : (Str.ofString (toString v)).length ≤ 30 := tlv
    exact ⟨_, rfl, _, rfl, log_ok f0 (by omega), _, _, rfl, rfl, sz_small (by omega), _, _, rfl, rfl, sz_small (by rw [app_len]; omega), _, rfl, _, rfl, _, _, rfl, rfl, md, p, _, _, _, rfl, rfl, SqL.of upd_same, at_m (f := V.int) (l := [1, o / 2, o, o + 1, 0, 10 ^ (29 : Int).toNat, 1 + mixed (c / 770) 2147483647 * 467 % (o + 1)]) ej hv,
      _, rfl, log_ok v0 (by omega), _, _, rfl, rfl, sz_small (by rw [app_len, app_len]; omega), q ("pay " ++ txt d ++ " " ++ txt v) _ (line_two (by omega) tld tlv) (cp_app (cp_app (cp_app (by decide +kernel) (txt_cp f0)) (by decide +kernel)) (txt_cp v0)) (fun _ => ⟨_, isnt_pay f0 (by omega) v0 (by omega)⟩) (fun n => by omega) (s2.upd hp)⟩

theorem ok_law_paid {f : Addr} {fd : FuncData} (F : Fun K "_law_paid" "_law_paid" s_law_paid f fd) (T : Txt K mg) (D_law_then : Df P w K mg base CX0 2 "_law_then" ["_law_state", "_law_day"] (sp_law_then T)) (D_law_owed : Df P w K mg base CX0 1 "_law_owed" ["_law_left", "_law_begun"] (sp_law_owed T)) (D_law_parts : Df P w K mg base CX0 1 "_law_parts" ["_law_left", "_law_begun", "_law_cents"] (sp_law_parts T)) :
    FnOk P w K mg base CX0 3 f fd ["_law_state", "_law_day", "_law_cents"] (sp_law_paid T) := by
  refine F.ok sc_law_paid (fun vs H Q E h => ?_) (fun cdv A outer s H vs Q E hr h => ?_)
  · obtain ⟨st, lq, tq, z, d, c, k, rfl, _⟩ := h
    rfl
  · obtain ⟨st, lq, tq, z, d, c, k, rfl, S, ok, dz, d2, hP, hQ⟩ := h
    refine ⟨_, (pss_cons (ps_set (i := 3) sc_law_paid.nd rfl (Or.inl rfl) (pc0 D_law_then hr (pa_cons (pv 0) (pa_cons (pv 1) pa_nil))))
            (pss_cons (ps_if (pt_not (pt_chain op_le op_le pe_int (pv 2) (pc0 D_law_owed hr (pa_cons (pe_ix ix_list (pv 0) pe_int (fun _ _ => rfl)) (pa_cons (pv 3) pa_nil))))) (pss_one (ps_ret pe_str)) pss_nil)
            (pss_cons (ps_asg (pc0 D_law_parts hr (pa_cons (pe_ix ix_list (pv 0) pe_int (fun _ _ => rfl)) (pa_cons (pv 3) (pa_cons (pv 2) pa_nil)))) (pg_tup rfl (pgs_cons (pg_name (i := 4) sc_law_paid.nd rfl (Or.inl rfl)) (pgs_cons (pg_name (i := 5) sc_law_paid.nd rfl (Or.inl rfl)) (pgs_cons (pg_sub (pv 0) pe_int set_list) (pgs_cons (pg_sub (pv 0) pe_int set_list) pgs_nil))))))
            (pss_cons (ps_asg (pv 1) (pg_sub (pv 0) pe_int set_list))
            (pss_one (ps_ret (pe_op op_add_str (pe_op op_add_str (pe_op op_add_str (pe_op op_add_str (pe_callTy call_str_int (by rfl) T.b_str (by decide +kernel) (pa_cons (pv 4) pa_nil)) pe_str) (pe_callTy call_str_int (by rfl) T.b_str (by decide +kernel) (pa_cons (pv 5) pa_nil))) pe_str) (pe_callTy call_str_int (by rfl) T.b_str (by decide +kernel) (pa_cons (pe_ix ix_list (pv 0) pe_int (fun _ _ => rfl)) pa_nil))))))))), ?_⟩
    have ow := ok.owed dz d2
    have bg := begunAt_ge ok.lok ok.rok.g dz
    have hl0 := ok.lok.l0
    have hl1 := ok.lok.l1
    simp only at ow bg hl0 hl1
    unfold payLn at hQ
    refine ⟨_, rfl, _, rfl, st, lq, tq, z, d, rfl, S, ok.rok, ok.lok, dz, ?_⟩
    generalize begunAt (vals tq) z d = b at ow bg hP hQ ⊢
    refine ⟨_, rfl, _, _, rfl, rfl, _, rfl, ifd (fun g1 => ?_) (fun g1 => ?_)⟩
    · refine ⟨_, rfl, st, _, _, _, rfl, rfl, SqL.of S.lst, at0 rfl, _, rfl, _, _, rfl, _, _, rfl, rfl, _, rfl, ifdn (fun g2 => ?_) (fun g2 => ?_)⟩
      · exact hP fun y => g2 y.2
      have pf := payF_ok hl0 bg g1 g2
      have q := hQ g1 g2
      refine ⟨_, rfl, st, _, _, _, rfl, rfl, SqL.of S.lst, at0 rfl, _, rfl, _, rfl, _, _, _, rfl, fun p H1 s1 hp t1 => ?_⟩
      generalize payF z.left b c = y at pf q t1 ⊢
      have y1 : y.1 < 10 ^ 30 := by omega
      have y2 : y.2.1 < 10 ^ 30 := by omega
      have y3 : y.2.2.1 < 10 ^ 30 := by omega
      have l1 : (Str.ofString (toString y.1)).length ≤ 30 := txt_len pf.1 y1
      have l2 : (Str.ofString (toString y.2.1)).length ≤ 30 := txt_len pf.2.1 y2
      have l3 : (Str.ofString (toString y.2.2.1)).length ≤ 30 := txt_len pf.2.2.2.1 y3
      have hb1 : (" " : Str).length = 1 := by decide +kernel
      have S1 := S.same s1
      refine ⟨p, _, rfl, SqT.of t1, rfl, _, _, rfl, _, _, rfl, _, _, rfl, _, rfl, st, _, _, 0, rfl, rfl, S1.lst, rfl, ?_⟩
      refine ⟨_, _, rfl, _, rfl, st, _, _, 1, rfl, rfl, upd_same, rfl, rfl, ?_⟩
      refine ⟨_, rfl, _, rfl, st, _, _, 2, rfl, rfl, upd_same, rfl, ?_⟩
      have bb : But st H (L2.upd (L2.upd (L2.upd H1 st (.lst [.int y.2.2.1, .int z.begun, .int z.day, .ref lq])) st (.lst [.int y.2.2.1, .int y.2.2.2, .int z.day, .ref lq])) st (.lst [.int y.2.2.1, .int y.2.2.2, .int d, .ref lq])) := (((But.of s1).upd _).upd _).upd _
      have u : (L2.upd (L2.upd (L2.upd H1 st (.lst [.int y.2.2.1, .int z.begun, .int z.day, .ref lq])) st (.lst [.int y.2.2.1, .int y.2.2.2, .int z.day, .ref lq])) st (.lst [.int y.2.2.1, .int y.2.2.2, .int d, .ref lq])) st = some (.lst [.int y.2.2.1, .int y.2.2.2, .int d, .ref lq]) := upd_same
      have R4 := bb.rowl S.lst (Ne.symm S.ne) S.row
      exact ⟨_, rfl, _, rfl, log_ok pf.1 y1, _, _, rfl, rfl, sz_small (by omega), _, rfl, _, rfl, log_ok pf.2.1 y2, _, _, rfl, rfl, sz_small (by rw [app_len]; omega), _, _, rfl, rfl, sz_small (by rw [app_len, app_len]; omega), _, rfl, st, _, _, _, rfl, rfl, SqL.of u, at0 rfl, _, rfl, log_ok pf.2.2.2.1 y3,
        _, _, rfl, rfl, sz_small (by rw [app_len, app_len, app_len]; omega), q _ bb ⟨u, R4⟩⟩
    · exact ⟨_, rfl, ifnF (hP fun y => g1 y.1)⟩

theorem ok_law_answer {f : Addr} {fd : FuncData} (F : Fun K "_law_answer" "_law_answer" s_law_answer f fd) (T : Txt K mg) (D_law_owed : Df P w K mg base CX0 1 "_law_owed" ["_law_left", "_law_begun"] (sp_law_owed T)) (D_law_then : Df P w K mg base CX0 2 "_law_then" ["_law_state", "_law_day"] (sp_law_then T)) (D_law_paid : Df P w K mg base CX0 3 "_law_paid" ["_law_state", "_law_day", "_law_cents"] (sp_law_paid T)) :
    FnOk P w K mg base CX0 4 f fd ["_law_state", "_law_line_here", "_law_good"] (sp_law_answer T) := by
  refine F.ok sc_law_answer (fun vs H Q E h => ?_) (fun cdv A outer s H vs Q E hr h => ?_)
  · obtain ⟨st, lq, tq, z, a, g, k, rfl, _⟩ := h
    rfl
  · obtain ⟨st, lq, tq, z, a, g, k, rfl, S, ok, hl, hg, hn, hQ⟩ := h
    refine ⟨_, (pss_cons (ps_set (i := 3) sc_law_answer.nd rfl (Or.inl rfl) (pe_split (pv 1) pe_str))
            (pss_cons (ps_if (pt_not (pt_val (pv 2))) (pss_one (ps_ret pe_str)) pss_nil)
            (pss_cons (ps_set (i := 4) sc_law_answer.nd rfl (Or.inl rfl) (pe_callTy call_int_str (by rfl) T.b_int (by decide +kernel) (pa_cons (pe_ix ix_list (pv 3) pe_int (fun _ _ => rfl)) pa_nil)))
            (pss_cons (ps_if (pt_cmpR op_eq (pe_ix ix_list (pv 3) pe_int (fun _ _ => rfl)) pe_str (nomark _)) (pss_cons (ps_if (PW.pt (pw_or (pt_cmpR op_le (pv 4) (pe_ix ix_list (pv 0) pe_int (fun _ _ => rfl)) (nomark _)) (pw_or (pt_cmpR op_le (pv 4) (pe_ix ix_tup (pe_ix ix_list (pe_ix ix_list (pv 0) pe_int (fun _ _ => rfl)) (pe_un un_neg pe_int) (fun _ _ => rfl)) pe_int (fun _ _ => rfl)) (nomark _)) (pw_or1 (pt_cmpR op_gt (pv 4) pe_int (nomark _)))))) (pss_one (ps_ret pe_str)) pss_nil)
            (pss_cons (ps_if (pt_cmpR op_gt (pe_callTy call_int_str (by rfl) T.b_int (by decide +kernel) (pa_cons (pe_ix ix_list (pv 3) pe_int (fun _ _ => rfl)) pa_nil)) pe_int (nomark _)) (pss_one (ps_ret pe_str)) pss_nil)
            (pss_cons (ps_expr (pe_bm PySem.F.plainAttrs_list PySem.F.slot_list_append PySem.F.type_list_append mt_append (pe_ix ix_list (pv 0) pe_int (fun _ _ => rfl)) (pa_cons (pe_tup (pa_cons (pv 4) (pa_cons (pe_callTy call_int_str (by rfl) T.b_int (by decide +kernel) (pa_cons (pe_ix ix_list (pv 3) pe_int (fun _ _ => rfl)) pa_nil)) pa_nil))) pa_nil)))
            (pss_one (ps_ret pe_str))))) pss_nil)
            (pss_cons (ps_if (pt_not (pt_chain op_le op_le (pe_ix ix_list (pv 0) pe_int (fun _ _ => rfl)) (pv 4) pe_int)) (pss_one (ps_ret pe_str)) pss_nil)
            (pss_cons (ps_if (pt_cmpR op_eq (pe_ix ix_list (pv 3) pe_int (fun _ _ => rfl)) pe_str (nomark _)) (pss_one (ps_ret (pe_callTy call_str_int (by rfl) T.b_str (by decide +kernel) (pa_cons (pc0 D_law_owed hr (pa_cons (pe_ix ix_list (pv 0) pe_int (fun _ _ => rfl)) (pa_cons (pc0 D_law_then hr (pa_cons (pv 0) (pa_cons (pv 4) pa_nil))) pa_nil))) pa_nil)))) pss_nil)
            (pss_one (ps_ret (pc0 D_law_paid hr (pa_cons (pv 0) (pa_cons (pv 4) (pa_cons (pe_callTy call_int_str (by rfl) T.b_int (by decide +kernel) (pa_cons (pe_ix ix_list (pv 3) pe_int (fun _ _ => rfl)) pa_nil)) pa_nil)))))))))))), ?_⟩
    refine ⟨_, rfl, ⟨a, rfl⟩, a, _, rfl, rfl, by decide, Nat.le_trans (by omega : a.length + 2 ≤ 100002) (by decide), fun p hp => ?_⟩
    have s1 : Same H (L2.upd H p (.lst ((Txt.split a " ").map V.str))) := Same.new hp
    have u1 : (L2.upd H p (.lst ((Txt.split a " ").map V.str))) p = some (.lst ((Txt.split a " ").map V.str)) := upd_same
    show gName 3 (.ref p) _ (L2.upd H p (.lst ((Txt.split a " ").map V.str))) _
    generalize L2.upd H p (.lst ((Txt.split a " ").map V.str)) = H1 at s1 u1 ⊢
    have S1 := S.same s1
    refine ⟨_, rfl, g, rfl, ?_⟩
    cases g with
    | false =>
      rw [hn rfl] at hQ
      exact ifnF (hQ z tq H1 rfl (But2.of s1) S1)
    | true =>
      refine ifnT ?_
      obtain ⟨n, h⟩ := hg rfl
      rw [ntOf_some h] at hQ
      have hQ2 : ∀ (R : Rs2), resN ⟨z, vals tq⟩ n = R → ∀ z2 tq2 H', (toldR ⟨z, vals tq⟩ R).2 = ⟨z2, vals tq2⟩ → But2 st lq H H' → Std H' st lq tq2 z2 → Q (.str (toldR ⟨z, vals tq⟩ R).1) H' := fun R e => by
        rw [← e]
        exact hQ
      clear hQ
      have b1 : But2 st lq H H1 := But2.of s1
      cases n with
      | rate d r =>
        obtain ⟨x, y, e, ox, oy, em, en, m0, n0⟩ := h
        have lx := ox.2.2.1
        have ly := oy.2.2.1
        rw [e] at u1
        refine ⟨_, rfl, p, _, _, _, rfl, rfl, SqL.of u1, at_of (j := 1) rfl rfl, x, d, rfl, em, by omega, ?_⟩
        refine ⟨_, rfl, p, _, _, _, rfl, rfl, SqL.of u1, at0 rfl, rfl, _, rfl, ifd (fun _ => ?_) (fun y => absurd rfl y)⟩
        obtain ⟨b, rl, hb, hbp, _⟩ := S1.row.last (good_ne ok.rok.g)
        have day : (d ≤ z.day ∨ d ≤ lastDay (vals tq) ∨ d > 100000) → Q (.str "bad day") H1 := fun y => hQ2 .day (by
          show (if d ≤ z.day ∨ d ≤ lastDay (vals tq) ∨ d > 100000 then Rs2.day else _) = _
          rw [if_pos y]) z tq H1 rfl b1 S1
        refine ⟨_, rfl, _, rfl, st, _, _, _, rfl, rfl, SqL.of S1.lst, at_of (j := 2) rfl rfl, _, _, rfl, rfl, _, rfl, ifd (fun c1 => ?_) (fun c1 => ?_)⟩
        · exact iteT (day (.inl c1))
        refine ⟨_, rfl, _, rfl, st, _, _, _, rfl, rfl, SqL.of S1.lst, at_of (j := 3) rfl rfl, _, rfl, lq, _, _, _, rfl, rfl, S1.row.seq, hb, b, _, _, _, rfl, rfl, SqT.of hbp, at0 rfl, _, _, rfl, rfl, _, rfl, ifd (fun c2 => ?_) (fun c2 => ?_)⟩
        · exact iteT (day (.inr (.inl c2)))
        refine ⟨_, rfl, _, _, rfl, rfl, _, rfl, ifd (fun c3 => ?_) (fun c3 => ?_)⟩
        · exact day (.inr (.inr c3))
        have cc : ¬ (d ≤ z.day ∨ d ≤ lastDay (vals tq) ∨ d > 100000) := by omega
        refine ⟨_, rfl, p, _, _, _, rfl, rfl, SqL.of u1, at_of (j := 2) rfl rfl, y, r, rfl, en, by omega, _, _, rfl, rfl, _, rfl, ifd (fun c4 => ?_) (fun c4 => ?_)⟩
        · refine hQ2 .rate ?_ z tq H1 rfl b1 S1
          have c4' : r > 100000 := c4
          show (if d ≤ z.day ∨ d ≤ lastDay (vals tq) ∨ d > 100000 then Rs2.day else if 0 ≤ r ∧ r ≤ 100000 then _ else Rs2.rate) = _
          rw [if_neg cc, if_neg (by omega)]
        have c4' : ¬ r > 100000 := c4
        refine ⟨_, rfl, st, _, _, _, rfl, rfl, SqL.of S1.lst, at_of (j := 3) rfl rfl, .inl ⟨rfl, _, S1.row.seq⟩, _, rfl, _, rfl, p, _, _, _, rfl, rfl, SqL.of u1, at_of (j := 2) rfl rfl, y, r, rfl, en, by omega, szl 2, fun tp htp => ?_⟩
        have s2 : Same H1 (L2.upd H1 tp (tupV (d, r))) := Same.new htp
        have S2 := S1.same s2
        have R3 := S2.row.snoc d r (p := tp) upd_same
        refine ⟨lq, rowV tq, _, rfl, rfl, S2.row.lst, sz_lt (by have := ok.rok.len; simp only at this; rw [vals_len] at this; rw [rowV_len]; omega), ?_⟩
        refine hQ2 (.ok "ok" ⟨z, vals tq ++ [(d, r)]⟩) ?_ z (tq ++ [(tp, d, r)]) _ (by rw [vals_append]; rfl) (fun b' o hb' _ n2 => ?_) ⟨?_, R3⟩
        · show (if d ≤ z.day ∨ d ≤ lastDay (vals tq) ∨ d > 100000 then Rs2.day else if 0 ≤ r ∧ r ≤ 100000 then _ else Rs2.rate) = _
          rw [if_neg cc, if_pos (by omega)]
        · show L2.upd (L2.upd H1 tp (tupV (d, r))) lq (.lst (rowV tq ++ [.ref tp])) b' = some o
          rw [L2.upd_ne n2]
          exact s2 _ _ (s1 _ _ hb')
        · show L2.upd (L2.upd H1 tp (tupV (d, r))) lq (.lst (rowV tq ++ [.ref tp])) st = _
          rw [L2.upd_ne S2.ne]
          exact S2.lst
      | owe d =>
        obtain ⟨x, e, ox, em, m0⟩ := h
        have lx := ox.2.2.1
        rw [e] at u1
        refine ⟨_, rfl, p, _, _, _, rfl, rfl, SqL.of u1, at_of (j := 1) rfl rfl, x, d, rfl, em, by omega, ?_⟩
        refine ⟨_, rfl, p, _, _, _, rfl, rfl, SqL.of u1, at0 rfl, rfl, _, rfl, ifd (fun y => absurd y (by decide)) (fun _ => ?_)⟩
        have day : ¬ (z.day ≤ d ∧ d ≤ 100000) → Q (.str "bad day") H1 := fun y => hQ2 .day (by
          show (if z.day ≤ d ∧ d ≤ 100000 then _ else Rs2.day) = _
          rw [if_neg y]) z tq H1 rfl b1 S1
        refine ⟨_, rfl, st, _, _, _, rfl, rfl, SqL.of S1.lst, at_of (j := 2) rfl rfl, _, rfl, _, _, rfl, rfl, _, rfl, ifd (fun c1 => ?_) (fun c1 => ?_)⟩
        · refine ⟨_, _, rfl, rfl, _, rfl, ifdn (fun c2 => ?_) (fun c2 => ?_)⟩
          · exact day fun y => c2 y.2
          refine ⟨_, rfl, p, _, _, _, rfl, rfl, SqL.of u1, at0 rfl, rfl, _, rfl, ifd (fun _ => ?_) (fun y => absurd rfl y)⟩
          have o := ok.owed c1 c2
          refine ⟨_, rfl, st, _, _, _, rfl, rfl, SqL.of S1.lst, at0 rfl, _, rfl, _, rfl, st, lq, tq, z, d, rfl, S1, ok.rok, ok.lok, c1, _, _, rfl, _, rfl, log_ok o.1 (Int.lt_trans o.2 (by decide)), ?_⟩
          exact hQ2 (.ok (txt (owedF z.left (begunAt (vals tq) z d))) ⟨z, vals tq⟩) (by
            show (if z.day ≤ d ∧ d ≤ 100000 then _ else Rs2.day) = _
            rw [if_pos ⟨c1, c2⟩]) z tq H1 rfl b1 S1
        · exact ⟨_, rfl, ifnF (day fun y => c1 y.1)⟩
      | pay d c =>
        obtain ⟨x, y, e, ox, oy, em, en, m0, n0⟩ := h
        have lx := ox.2.2.1
        have ly := oy.2.2.1
        rw [e] at u1
        refine ⟨_, rfl, p, _, _, _, rfl, rfl, SqL.of u1, at_of (j := 1) rfl rfl, x, d, rfl, em, by omega, ?_⟩
        refine ⟨_, rfl, p, _, _, _, rfl, rfl, SqL.of u1, at0 rfl, rfl, _, rfl, ifd (fun y => absurd y (by decide)) (fun _ => ?_)⟩
        have day : ¬ (z.day ≤ d ∧ d ≤ 100000) → Q (.str "bad day") H1 := fun y => hQ2 .day (by
          show (if z.day ≤ d ∧ d ≤ 100000 then _ else Rs2.day) = _
          rw [if_neg y]) z tq H1 rfl b1 S1
        refine ⟨_, rfl, st, _, _, _, rfl, rfl, SqL.of S1.lst, at_of (j := 2) rfl rfl, _, rfl, _, _, rfl, rfl, _, rfl, ifd (fun c1 => ?_) (fun c1 => ?_)⟩
        · refine ⟨_, _, rfl, rfl, _, rfl, ifdn (fun c2 => ?_) (fun c2 => ?_)⟩
          · exact day fun y => c2 y.2
          refine ⟨_, rfl, p, _, _, _, rfl, rfl, SqL.of u1, at0 rfl, rfl, _, rfl, ifd (fun y => absurd y (by decide)) (fun _ => ?_)⟩
          refine ⟨_, rfl, _, rfl, _, rfl, p, _, _, _, rfl, rfl, SqL.of u1, at_of (j := 2) rfl rfl, y, c, rfl, en, by omega, st, lq, tq, z, d, c, k, rfl, S1, ok, c1, c2, fun n => ?_, fun c3 c4 H2 b2 S2 => ?_⟩
          · refine hQ2 .pay ?_ z tq H1 rfl b1 S1
            show (if z.day ≤ d ∧ d ≤ 100000 then (if 1 ≤ c ∧ c ≤ owedF z.left (begunAt (vals tq) z d) then _ else Rs2.pay) else Rs2.day) = _
            rw [if_pos ⟨c1, c2⟩, if_neg n]
          · refine hQ2 (.ok _ ⟨payLn (vals tq) z d c, vals tq⟩) ?_ (payLn (vals tq) z d c) tq H2 rfl (fun b' o hb n1 _ => b2 b' o (s1 b' o hb) n1) S2
            show (if z.day ≤ d ∧ d ≤ 100000 then (if 1 ≤ c ∧ c ≤ owedF z.left (begunAt (vals tq) z d) then _ else Rs2.pay) else Rs2.day) = _
            rw [if_pos ⟨c1, c2⟩, if_pos ⟨c3, c4⟩]
        · exact ⟨_, rfl, ifnF (day fun y => c1 y.1)⟩

theorem ok_law_no_desk {f : Addr} {fd : FuncData} (F : Fun K "_law_no_desk" "_law_no_desk" s_law_no_desk f fd) (T : Txt K mg) (D_desk : Df P w K mg base (L2.CX P w) 7 "desk" ["amount", "rate", "lines"] (sp_desk T)) :
    FnOk P w K mg base CX0 8 f fd ["_law_amount", "_law_rate"] (sp_law_no_desk T) := by
  refine F.ok sc_law_no_desk (fun vs H Q E h => ?_) (fun cdv A outer s H vs Q E hr h => ?_)
  · obtain ⟨am, r, rfl, _⟩ := h
    rfl
  · obtain ⟨am, r, rfl, hn, hA, hR⟩ := h
    refine ⟨_, (Evl.pss_cut (ps_try_mix rfl rfl takes0 (fun W pn xe tk po => (pss_one (ps_expr (by exact (pe_callS D_desk.G (hr.mono (by decide)) rfl D_desk.m D_desk.kp D_desk.b (fun σ => passAt tk σ) (by exact (pa_cons (pv 0) (pa_cons (pv 1) (pa_cons (pe_lst (pa_cons pe_str pa_nil)) pa_nil))))))))) (.plain ⟨rfl, by decide, .inl T.g_BadAmount⟩ (fun a oe cls d pn hz hf => (pss_one (ps_ret pe_str))) (.plain ⟨rfl, by decide, .inl T.g_BadRate⟩ (fun a oe cls d pn hz hf => (pss_one (ps_ret pe_str))) .nil)))
            (pss_one (ps_ret pe_str))), ?_⟩
    refine ⟨fun _ _ => False, ?_, fun _ _ z => z.elim⟩
    refine ⟨_, rfl, _, rfl, szl 1, fun p hp => ?_⟩
    have s1 : Same H (L2.upd H p (.lst ((["owe 0"] : List Str).map V.str))) := Same.new hp
    refine ⟨p, am, r, ["owe 0"], rfl, upd_same, by decide, fun a ha => ?_, fun n H' s => ?_, fun a1 a2 n H' s => ?_, fun a1 a2 r0 r1 => absurd ⟨⟨a1, a2⟩, r0, r1⟩ hn⟩
    · obtain rfl : a = "owe 0" := by simpa using ha
      decide +kernel
    · exact ⟨true, T.m_BadAmount_BadAmount, fun _ _ _ => hA n H' (s1.trans s), fun y => Bool.noConfusion y⟩
    · exact ⟨false, T.m_BadRate_BadAmount, fun y => Bool.noConfusion y, fun _ => ⟨true, T.m_BadRate_BadRate, fun _ _ _ => hR a1 a2 H' (s1.trans s), fun y => Bool.noConfusion y⟩⟩

theorem ok_law {f : Addr} {fd : FuncData} (F : Fun K "law" "law" s_law f fd) (T : Txt K mg) (D_law_amount_by : Df P w K mg base CX0 2 "_law_amount_by" ["_law_cell"] (sp_law_amount_by T)) (D_law_cell_at : Df P w K mg base CX0 1 "_law_cell_at" ["_law_script", "_law_k"] (sp_law_cell_at T)) (D_law_rate_by : Df P w K mg base CX0 2 "_law_rate_by" ["_law_cell"] (sp_law_rate_by T)) (D_law_no_desk : Df P w K mg base CX0 8 "_law_no_desk" ["_law_amount", "_law_rate"] (sp_law_no_desk T)) (D_law_line : Df P w K mg base CX0 3 "_law_line" ["_law_state", "_law_cell"] (sp_law_line T)) (D_law_answer : Df P w K mg base CX0 4 "_law_answer" ["_law_state", "_law_line_here", "_law_good"] (sp_law_answer T)) (D_desk : Df P w K mg base (L2.CX P w) 7 "desk" ["amount", "rate", "lines"] (sp_desk T)) :
    FnOk P w K mg base CX0 9 f fd ["_law_script"] (sp_law K) := by
  refine F.ok sc_law (fun vs H Q E h => ?_) (fun cdv A outer s H vs Q E hr h => ?_)
  · obtain ⟨a, ns, rfl, _⟩ := h
    rfl
  · obtain ⟨a, ns, rfl, hS, hlen, k⟩ := h
    refine ⟨_, (pss_cons (ps_set (i := 1) sc_law.nd rfl (Or.inl rfl) (pc0 D_law_amount_by hr (pa_cons (pc0 D_law_cell_at hr (pa_cons (pv 0) (pa_cons pe_int pa_nil))) pa_nil)))
            (pss_cons (ps_set (i := 2) sc_law.nd rfl (Or.inl rfl) (pc0 D_law_rate_by hr (pa_cons (pc0 D_law_cell_at hr (pa_cons (pv 0) (pa_cons pe_int pa_nil))) pa_nil)))
            (pss_cons (ps_set (i := 3) sc_law.nd rfl (Or.inl rfl) (pe_op op_mod (pc0 D_law_cell_at hr (pa_cons (pv 0) (pa_cons pe_int pa_nil))) pe_int))
            (pss_cons (ps_if (pt_cmpR op_eq (pv 3) pe_int (nomark _)) (pss_one (ps_ret (pe_cmpR op_eq (pc0 D_law_no_desk hr (pa_cons (pe_ix ix_list (pe_lst (pa_cons pe_int (pa_cons (pe_op op_add pe_int (pv 1)) pa_nil))) (pe_op op_mod (pv 1) pe_int) (fun _ _ => rfl)) (pa_cons (pe_ix ix_list (pe_lst (pa_cons (pv 2) (pa_cons pe_int pa_nil))) (pe_op op_mod (pe_op op_fdiv (pv 1) pe_int) pe_int) (fun _ _ => rfl)) pa_nil))) pe_str (nomark _)))) pss_nil)
            (pss_cons (ps_if (pt_cmpR op_eq (pv 3) pe_int (nomark _)) (pss_one (ps_ret (pe_cmpR op_eq (pc0 D_law_no_desk hr (pa_cons (pv 1) (pa_cons (pe_ix ix_list (pe_lst (pa_cons pe_int (pa_cons (pe_un un_neg pe_int) pa_nil))) (pe_op op_mod (pv 1) pe_int) (fun _ _ => rfl)) pa_nil))) pe_str (nomark _)))) pss_nil)
            (pss_cons (ps_set (i := 4) sc_law.nd rfl (Or.inl rfl) (pe_lst (pa_cons (pv 1) (pa_cons pe_int (pa_cons pe_int (pa_cons (pe_lst (pa_cons (pe_tup (pa_cons pe_int (pa_cons (pv 2) pa_nil))) pa_nil)) pa_nil))))))
            (pss_cons (ps_set (i := 5) sc_law.nd rfl (Or.inl rfl) (pe_lst pa_nil))
            (pss_cons (ps_set (i := 6) sc_law.nd rfl (Or.inl rfl) (pe_lst pa_nil))
            (pss_cons (ps_for PassesOwn.never rfl (pi_list (pe_slice sl_list (pv 0) (po_some pe_int) po_none)) (pg_name (i := 7) sc_law.nd rfl (Or.inl rfl)) (pss_one (ps_if (pt_cmpR op_lt (pe_callB call_len_seq (by rfl) T.b_len PySem.boot_len (pa_cons (pe_ix ix_list (pv 4) pe_int (fun _ _ => rfl)) pa_nil)) pe_int (nomark _)) (pss_cons (ps_expr (pe_bm PySem.F.plainAttrs_list PySem.F.slot_list_append PySem.F.type_list_append mt_append (pv 5) (pa_cons (pc0 D_law_line hr (pa_cons (pv 4) (pa_cons (pv 7) pa_nil))) pa_nil)))
            (pss_one (ps_expr (pe_bm PySem.F.plainAttrs_list PySem.F.slot_list_append PySem.F.type_list_append mt_append (pv 6) (pa_cons (pc0 D_law_answer hr (pa_cons (pv 4) (pa_cons (pe_ix ix_list (pv 5) (pe_un un_neg pe_int) (fun _ _ => rfl)) (pa_cons (pe_cmpR op_lt (pe_op op_mod (pv 7) pe_int) pe_int (nomark _)) pa_nil)))) pa_nil))))) pss_nil)))
            (pss_cons (ps_set (i := 8) sc_law.nd rfl (Or.inl rfl) (pe_callTy call_list_of (by rfl) T.b_list (by decide +kernel) (pa_cons (pv 5) pa_nil)))
            (pss_cons (ps_set (i := 9) sc_law.nd rfl (Or.inl rfl) (pcL D_desk hr (pa_cons (pv 1) (pa_cons (pv 2) (pa_cons (pv 8) pa_nil)))))
            (pss_cons (ps_if (PW.pt (pw_or (pt_not (pt_val (pe_callB call_isi (by rfl) T.b_isinstance (by decide +kernel) (pa_cons (pv 9) (pa_cons (pe_bltn (v := .ty "list") (u := .type "list") rfl T.b_list (by decide +kernel) rfl) pa_nil))))) (pw_or (pt_cmpR op_ne (pe_callB call_len_seq (by rfl) T.b_len PySem.boot_len (pa_cons (pv 9) pa_nil)) (pe_callB call_len_seq (by rfl) T.b_len PySem.boot_len (pa_cons (pv 6) pa_nil)) (nomark _)) (pw_or1 (pt_cmpR (op_neD hr.units) (pv 8) (pv 5) (nomark _)))))) (pss_one (ps_ret pe_bl)) pss_nil)
            (pss_cons (ps_for PassesOwn.never rfl (pi_range1 rfl T.b_range (pa_cons (pe_callB call_len_seq (by rfl) T.b_len PySem.boot_len (pa_cons (pv 6) pa_nil)) pa_nil)) (pg_name (i := 10) sc_law.nd rfl (Or.inl rfl)) (pss_one (ps_if (PW.pt (pw_or (pt_not (pt_val (pe_callB call_isi (by rfl) T.b_isinstance (by decide +kernel) (pa_cons (pe_ix ix_list (pv 9) (pv 10) (fun _ _ => rfl)) (pa_cons (pe_bltn (v := .ty "str") (u := .type "str") rfl T.b_str (by decide +kernel) rfl) pa_nil))))) (pw_or1 (pt_cmpR op_ne (pe_ix ix_list (pv 9) (pv 10) (fun _ _ => rfl)) (pe_ix ix_list (pv 6) (pv 10) (fun _ _ => rfl)) (nomark _))))) (pss_one (ps_ret pe_bl)) pss_nil)))
            (pss_one (ps_ret (pe_and (pe_cmpR (op_eqD hr.units) (pcL D_desk hr (pa_cons (pv 1) (pa_cons (pv 2) (pa_cons (pv 8) pa_nil)))) (pv 6) (nomark _)) (pe_and (pe_cmpR (op_eqD hr.units) (pv 9) (pv 6) (nomark _)) (pe_one (pe_cmpR (op_eqD hr.units) (pv 8) (pv 5) (nomark _)))))))))))))))))))), ?_⟩
    refine ⟨_, rfl, a, ns, _, rfl, hS, by decide, _, rfl, fun H1 s1 => ?_⟩
    have am0 := amountBy_ok (cellAt ns 0)
    generalize amountBy (cellAt ns 0) = am at am0 ⊢
    refine ⟨_, rfl, a, ns, _, rfl, s1.seq hS, by decide, _, rfl, fun H2 s2 => ?_⟩
    have ro := rateBy_ok (cellAt ns 1)
    generalize rateBy (cellAt ns 1) = r at ro ⊢
    have hS2 := (s1.trans s2).seq hS
    refine ⟨_, rfl, a, ns, _, rfl, hS2, by decide, _, _, rfl, rfl, md, ?_⟩
    refine ⟨_, rfl, rfl, _, rfl, if_eq (fun c7 => ?_) (fun c7 => ?_)⟩
    · obtain ⟨j, ej⟩ : ∃ j : Nat, am % 2 = (j : Int) := ⟨(am % 2).toNat, by omega⟩
      have hj : j < 2 := by omega
      obtain ⟨v, hv, hv2⟩ : ∃ v : Int, ([0, 1000000000000 + am] : List Int)[j]? = some v ∧ ¬ (1 ≤ v ∧ v ≤ 1000000000000) := by
        match j, hj with
        | 0, _ => exact ⟨_, rfl, by omega⟩
        | 1, _ => exact ⟨_, rfl, by omega⟩
      obtain ⟨i, ei⟩ : ∃ i : Nat, am / 2 % 2 = (i : Int) := ⟨(am / 2 % 2).toNat, by omega⟩
      obtain ⟨u, hu⟩ := get_of (l := [r, 100001]) (j := i) (by show i < 2; omega)
      refine ⟨_, rfl, _, _, rfl, rfl, szl 2, fun p1 hp1 => ⟨_, rfl, _, _, rfl, rfl, md, p1, _, _, _, rfl, rfl, SqL.of upd_same, at_m (f := V.int) (l := [0, 1000000000000 + am]) ej hv, ?_⟩⟩
      refine ⟨_, rfl, szl 2, fun p2 hp2 => ⟨_, rfl, _, _, rfl, rfl, dv, _, _, rfl, rfl, md, p2, _, _, _, rfl, rfl, SqL.of upd_same, at_m (f := V.int) (l := [r, 100001]) ei hu, ?_⟩⟩
      refine ⟨v, u, rfl, fun y => hv2 y.1, fun _ H3 s3 => ⟨rfl, ?_⟩, fun y1 y2 => absurd ⟨y1, y2⟩ hv2⟩
      rw [decide_eq_true rfl]
      exact k _
    refine ⟨_, rfl, rfl, _, rfl, if_eq (fun c8 => ?_) (fun c8 => ?_)⟩
    · obtain ⟨j, ej⟩ : ∃ j : Nat, am % 2 = (j : Int) := ⟨(am % 2).toNat, by omega⟩
      have hj : j < 2 := by omega
      obtain ⟨v, hv, hv2⟩ : ∃ v : Int, ([100001, -1] : List Int)[j]? = some v ∧ ¬ (0 ≤ v ∧ v ≤ 100000) := by
        match j, hj with
        | 0, _ => exact ⟨_, rfl, by omega⟩
        | 1, _ => exact ⟨_, rfl, by omega⟩
      refine ⟨_, rfl, _, rfl, szl 2, fun p1 hp1 => ⟨_, rfl, _, _, rfl, rfl, md, p1, _, _, _, rfl, rfl, SqL.of upd_same, at_m (f := V.int) (l := [100001, -1]) ej hv, ?_⟩⟩
      refine ⟨am, v, rfl, fun y => hv2 y.2, fun n => absurd am0 n, fun _ _ H3 s3 => ⟨rfl, ?_⟩⟩
      rw [decide_eq_true rfl]
      exact k _
    -- the state
    refine ⟨_, rfl, _, rfl, szl 2, fun tp htp => ?_⟩
    have z1 : Same H2 (L2.upd H2 tp (tupV (0, r))) := Same.new htp
    have t1 : (L2.upd H2 tp (tupV (0, r))) tp = some (tupV (0, r)) := upd_same
    refine ⟨szl 1, fun lq hlq => ?_⟩
    change (L2.upd H2 tp (tupV (0, r))) lq = none at hlq
    revert hlq
    show _ → _ ∧ ∀ p, (L2.upd (L2.upd H2 tp (tupV (0, r))) lq (.lst [.ref tp])) p = none → gName 4 (.ref p) _ (L2.upd (L2.upd (L2.upd H2 tp (tupV (0, r))) lq (.lst [.ref tp])) p (.lst [.int am, .int 0, .int 0, .ref lq])) _
    generalize L2.upd H2 tp (tupV (0, r)) = H3 at z1 t1 ⊢
    intro hlq
    have z2 : Same H3 (L2.upd H3 lq (.lst [.ref tp])) := Same.new hlq
    have R2 : Row (L2.upd H3 lq (.lst [.ref tp])) lq [(tp, 0, r)] := ⟨upd_same, fun t ht => by
      obtain rfl : t = (tp, 0, r) := by simpa using ht
      exact z2 _ _ t1⟩
    generalize L2.upd H3 lq (.lst [.ref tp]) = H4 at z2 R2 ⊢
    refine ⟨szl 4, fun st hst => ?_⟩
    have z3 : Same H4 (L2.upd H4 st (.lst [.int am, .int 0, .int 0, .ref lq])) := Same.new hst
    have S3 : Std (L2.upd H4 st (.lst [.int am, .int 0, .int 0, .ref lq])) st lq [(tp, 0, r)] ⟨am, 0, 0⟩ := ⟨upd_same, R2.same z3⟩
    generalize L2.upd H4 st (.lst [.int am, .int 0, .int 0, .ref lq]) = H5 at z3 S3 ⊢
    have hS5 := ((z1.trans z2).trans z3).seq hS2
    refine ⟨szl 0, fun lp hlp => ?_⟩
    have z4 : Same H5 (L2.upd H5 lp (.lst [])) := Same.new hlp
    have u4 : (L2.upd H5 lp (.lst [])) lp = some (.lst []) := upd_same
    have n1 : st ≠ lp := ne_of_none S3.lst hlp
    have n2 : lq ≠ lp := ne_of_none S3.row.lst hlp
    show gName 5 (.ref lp) _ (L2.upd H5 lp (.lst [])) _
    generalize L2.upd H5 lp (.lst []) = H6 at z4 u4 ⊢
    have S4 := S3.same z4
    refine ⟨szl 0, fun dp hdp => ?_⟩
    have z5 : Same H6 (L2.upd H6 dp (.lst [])) := Same.new hdp
    have u5 : (L2.upd H6 dp (.lst [])) dp = some (.lst []) := upd_same
    have n3 : st ≠ dp := ne_of_none S4.lst hdp
    have n4 : lq ≠ dp := ne_of_none S4.row.lst hdp
    have n5 : lp ≠ dp := ne_of_none u4 hdp
    show gName 6 (.ref dp) _ (L2.upd H6 dp (.lst [])) _
    generalize L2.upd H6 dp (.lst []) = H7 at z5 u5 ⊢
    have S5 := S4.same z5
    have hS7 := (z4.trans z5).seq hS5
    have u5l := z5 _ _ u4
    clear z1 z2 z3 z4 z5 S3 S4 t1 R2 hS hS2 hS5 u4 s1 s2 hlp hdp hst hlq htp
    refine ⟨_, rfl, _, rfl, a, _, rfl, hS7, fun ap hap => ?_⟩
    rw [show cutV (ns.map V.int) (some 2) none = (ns.drop 2).map V.int from (cut_drop 2).trans (by rw [List.map_drop])]
    have z8 : Same H7 (L2.upd H7 ap (.lst ((ns.drop 2).map V.int))) := Same.new hap
    have u8 : (L2.upd H7 ap (.lst ((ns.drop 2).map V.int))) ap = some (.lst ((ns.drop 2).map V.int)) := upd_same
    have n6 : st ≠ ap := ne_of_none S5.lst hap
    have n7 : lq ≠ ap := ne_of_none S5.row.lst hap
    have n8 : lp ≠ ap := ne_of_none u5l hap
    have n9 : dp ≠ ap := ne_of_none u5 hap
    generalize L2.upd H7 ap (.lst ((ns.drop 2).map V.int)) = H8 at z8 u8 ⊢
    have hcl : (ns.drop 2).length ≤ 61 := by rw [List.length_drop]; omega
    generalize ns.drop 2 = cs at u8 hcl ⊢
    have ok0 : DOk ⟨⟨am, 0, 0⟩, [(0, r)]⟩ 1 := DOk.first am0.1 am0.2 ro.1 ro.2
    generalize eS : (⟨⟨am, 0, 0⟩, [(0, r)]⟩ : Dsk) = S0 at ok0
    refine ⟨ap, rfl, ⟨_, SqL.of u8⟩, for_list (K := K) (a := ap) (xs := cs.map V.int)
      (fun i σ H' => H' ap = some (.lst (cs.map V.int)) ∧ ∃ (ls : List Str) (tq : List Trp) (z : Ln) (v7 : Option V), Wk S0 st lq lp dp H' ls tq z ∧ ls.length ≤ i ∧
        σ = [some (.ref a), some (.int am), some (.int r), some (.int (cellAt ns 1 % 9)), some (.ref st), some (.ref lp), some (.ref dp), v7, none, none, none])
      ⟨u8, [], [(tp, 0, r)], ⟨am, 0, 0⟩, none, ⟨S5.same z8, by rw [← eS]; rfl, z8 _ _ u5l, z8 _ _ u5, fun a ha => (by cases ha), fun a ha => by cases ha⟩, Nat.le_refl 0, rfl⟩ (fun i σ H' _ ⟨u, _⟩ => SqL.of u) ?_ ?_⟩
    · rintro i y σ H9 hi ⟨u9, ls, tq, z, v7, W, hil, rfl⟩
      obtain ⟨c, hc, rfl⟩ := map_get hi
      have hi2 : i < cs.length := (List.getElem?_eq_some_iff.mp hc).1
      have ok := runD_ok ok0 ls.length ls rfl (by omega)
      rw [W.e] at ok
      refine ⟨_, rfl, st, _, _, _, rfl, rfl, SqL.of W.S.lst, at_of (j := 3) rfl rfl, lq, _, rfl, .inl W.S.row.seq, _, _, rfl, rfl, _, rfl, ifd (fun c1 => ?_) (fun c1 => ?_)⟩
      · refine ⟨_, rfl, .inl ⟨rfl, _, SqL.of W.lp⟩, _, rfl, _, rfl, st, lq, tq, z, c, _, rfl, W.S, ok, fun rl Ha hrl hcp hg hb sa => ?_⟩
        have ulp := sa _ _ W.lp
        refine ⟨lp, _, _, rfl, rfl, ulp, sz_lt (by rw [List.length_map]; omega), ?_⟩
        have ba : But lp Ha (L2.upd Ha lp (.lst (ls.map V.str ++ [.str rl]))) := (But.of (Same.refl Ha)).upd _
        have ulp2 : (L2.upd Ha lp (.lst (ls.map V.str ++ [.str rl]))) lp = some (.lst (ls.map V.str ++ [.str rl])) := upd_same
        have Sb := (W.S.same sa).butl ba ulp n1 n2
        have udp := ba _ _ (sa _ _ W.dp) (Ne.symm n5)
        have uap := ba _ _ (sa _ _ u9) (Ne.symm n8)
        generalize L2.upd Ha lp (.lst (ls.map V.str ++ [.str rl])) = Hb at ba ulp2 Sb udp uap ⊢
        refine ⟨_, rfl, .inl ⟨rfl, _, SqL.of udp⟩, _, rfl, _, rfl, _, rfl, lp, _, _, _, rfl, rfl, SqL.of ulp2, atI_last _ _, _, rfl, _, _, rfl, rfl, md, _, _, rfl, rfl, st, lq, tq, z, rl, _, _, rfl, Sb, ok, hrl, fun y => hg (of_decide_eq_true y), fun y => hb (of_decide_eq_false y), fun z2 tq2 Hc e b Sc => ?_⟩
        have udp2 := b _ _ udp (Ne.symm n3) (Ne.symm n4)
        have ulp3 := b _ _ ulp2 (Ne.symm n1) (Ne.symm n2)
        have uap2 := b _ _ uap (Ne.symm n6) (Ne.symm n7)
        refine ⟨dp, _, _, rfl, rfl, udp2, sz_lt (by rw [List.length_map, runD_len]; omega), ?_⟩
        have bc : But dp Hc (L2.upd Hc dp (.lst ((runD S0 ls).1.map V.str ++ [.str (ansO ⟨z, vals tq⟩ (ntOf rl)).1]))) := (But.of (Same.refl Hc)).upd _
        refine ⟨bc _ _ uap2 (Ne.symm n9), ls ++ [rl], tq2, z2, _, ⟨Sc.butl bc udp2 n3 n4, ?_, ?_, ?_, fun b' hb' => ?_, fun b' hb' => ?_⟩, by rw [List.length_append]; show ls.length + 1 ≤ i + 1; omega, rfl⟩
        · rw [runD_snoc, W.e]
          exact e
        · rw [List.map_append]
          exact bc _ _ ulp3 n5
        · rw [runD_snoc, W.e, List.map_append]
          exact upd_same
        · rcases List.mem_append.mp hb' with h | h
          · exact W.len b' h
          · obtain rfl : b' = rl := by simpa using h
            exact hrl
        · rcases List.mem_append.mp hb' with h | h
          · exact W.cp b' h
          · obtain rfl : b' = rl := by simpa using h
            exact hcp
      · exact ⟨u9, ls, tq, z, _, W, by omega, rfl⟩
    · rintro σ H9 ⟨_, ls, tq, z, v7, W, hil, rfl⟩
      rw [List.length_map] at hil
      have hl100 : ls.length ≤ 100 := by omega
      have hla : ∀ a ∈ ls, a.length ≤ 100000 := fun a ha => Nat.le_trans (W.len a ha) (by decide)
      refine ⟨_, rfl, lp, _, rfl, .inl (SqL.of W.lp), fun hp hhp => ?_⟩
      have s1 : Same H9 (L2.upd H9 hp (.lst (ls.map V.str))) := Same.new hhp
      have uh : (L2.upd H9 hp (.lst (ls.map V.str))) hp = some (.lst (ls.map V.str)) := upd_same
      show gName 8 (.ref hp) _ (L2.upd H9 hp (.lst (ls.map V.str))) _
      generalize L2.upd H9 hp (.lst (ls.map V.str)) = Ha at s1 uh ⊢
      have ul := s1 _ _ W.lp
      have ud := s1 _ _ W.dp
      refine ⟨_, rfl, _, rfl, _, rfl, hp, am, r, ls, rfl, uh, hl100, hla, fun n => absurd am0 n, fun _ _ n => absurd ro n, fun _ _ _ _ fp Hb s2 hfp uf => ?_⟩
      rw [eS] at uf
      have uh2 := s2 _ _ uh
      have ul2 := s2 _ _ ul
      have ud2 := s2 _ _ ud
      refine ⟨_, rfl, _, _, _, _, _, rfl, .ty "list", .base (.lst uf), kit_ty (r := true) (by decide +kernel), true, rfl, ifnT ?_⟩
      refine ⟨_, rfl, fp, _, rfl, .inl (SqL.of uf), _, rfl, dp, _, rfl, .inl (SqL.of ud2), rfl, _, rfl, if_ne (fun n => absurd rfl n) fun _ => ?_⟩
      refine ⟨_, rfl, _, rfl, strs_ne W.cp (SqL.of uh2) (SqL.of ul2) ⟨_, rfl, iteF ?_⟩⟩
      have hdc := runD_cp ok0 ls.length ls rfl (by omega)
      generalize edu : (runD S0 ls).1 = du at uf ud2 hdc
      have hdl : du.length ≤ 100 := by rw [← edu, runD_len]; exact hl100
      refine ⟨_, rfl, dp, _, rfl, .inl (SqL.of ud2), _, rfl, by omega, by rw [List.length_map]; omega, for_range (lo := 0) (n := (((du.map V.str).length : Int)).toNat)
        (fun i σ H' => H' = Hb ∧ ∃ v10 : Option V, σ = [some (.ref a), some (.int am), some (.int r), some (.int (cellAt ns 1 % 9)), some (.ref st), some (.ref lp), some (.ref dp), v7, some (.ref hp), some (.ref fp), v10]) ⟨rfl, none, rfl⟩ ?_ ?_⟩
      · rintro i σ H' hi ⟨rfl, v10, rfl⟩
        rw [List.length_map] at hi
        obtain ⟨t, ht⟩ := get_of (l := du) (j := i) (by omega)
        refine ⟨_, rfl, _, rfl, fp, _, _, _, rfl, rfl, SqL.of uf, at_m (f := V.str) (by omega) ht, _, _, _, _, _, rfl, .ty "str", .base (.str _), kit_ty (r := true) (by decide +kernel), true, rfl, ifnT ?_⟩
        exact ⟨_, rfl, _, rfl, fp, _, _, _, rfl, rfl, SqL.of uf, at_m (f := V.str) (by omega) ht, _, rfl, _, rfl, dp, _, _, _, rfl, rfl, SqL.of ud2, at_m (f := V.str) (by omega) ht, rfl, _, rfl, ifdn (fun n => absurd rfl n) fun _ => ⟨rfl, _, rfl⟩⟩
      · rintro σ H' ⟨rfl, v10, rfl⟩
        refine ⟨_, rfl, _, rfl, _, rfl, hp, am, r, ls, rfl, uh2, hl100, hla, fun n => absurd am0 n, fun _ _ n => absurd ro n, fun _ _ _ _ fp2 Hc s3 hfp2 uf2 => ?_⟩
        rw [eS, edu] at uf2
        have uh3 := s3 _ _ uh2
        have ul3 := s3 _ _ ul2
        have ud3 := s3 _ _ ud2
        have uf3 := s3 _ _ uf
        refine ⟨_, rfl, strs_eq hdc (SqL.of uf2) (SqL.of ud3) ⟨true, rfl, iteT ?_⟩⟩
        refine ⟨_, rfl, _, rfl, strs_eq hdc (SqL.of uf3) (SqL.of ud3) ⟨true, rfl, iteT ?_⟩⟩
        exact ⟨_, rfl, _, rfl, strs_eq W.cp (SqL.of uh3) (SqL.of ul3) (k _)⟩

end
theorem all_mk {l : PySem.W.OpenLaw} {w : World} {K : PySem.W.Frag} {h : Heap} {mg : Str → Option Value} (X : K.In h) (G : h.Ns mainGlobals mg) {fa a_LoanError a_BadAmount a_BadRate a_BadDay a_BadPay a_NoNote a_Loan f_need_rate f_checked f_grown f_need_amount f_Loan_init f_Loan_stand f_Loan_owed f_Loan_pay f_Loan_change f_number_of f_read f_done f_answered f_desk f_law_cell_at f_law_mixed f_law_rate_by f_law_sum_by f_law_amount_by f_law_owed f_law_parts f_law_then f_law_odd_line f_law_line f_law_paid f_law_answer f_law_no_desk f_law : Addr}
    {od_need_rate an_need_rate : Option Addr} {sl_need_rate : Array (Option Value)} {oc_need_rate kV_need_rate dc_need_rate pm_need_rate cd_need_rate ct_need_rate : Value}
    {od_checked an_checked : Option Addr} {sl_checked : Array (Option Value)} {oc_checked kV_checked dc_checked pm_checked cd_checked ct_checked : Value}
    {od_grown an_grown : Option Addr} {sl_grown : Array (Option Value)} {oc_grown kV_grown dc_grown pm_grown cd_grown ct_grown : Value}
    {od_need_amount an_need_amount : Option Addr} {sl_need_amount : Array (Option Value)} {oc_need_amount kV_need_amount dc_need_amount pm_need_amount cd_need_amount ct_need_amount : Value}
    {od_Loan_init an_Loan_init : Option Addr} {sl_Loan_init : Array (Option Value)} {oc_Loan_init kV_Loan_init dc_Loan_init pm_Loan_init cd_Loan_init ct_Loan_init : Value}
    {od_Loan_stand an_Loan_stand : Option Addr} {sl_Loan_stand : Array (Option Value)} {oc_Loan_stand kV_Loan_stand dc_Loan_stand pm_Loan_stand cd_Loan_stand ct_Loan_stand : Value}
    {od_Loan_owed an_Loan_owed : Option Addr} {sl_Loan_owed : Array (Option Value)} {oc_Loan_owed kV_Loan_owed dc_Loan_owed pm_Loan_owed cd_Loan_owed ct_Loan_owed : Value}
    {od_Loan_pay an_Loan_pay : Option Addr} {sl_Loan_pay : Array (Option Value)} {oc_Loan_pay kV_Loan_pay dc_Loan_pay pm_Loan_pay cd_Loan_pay ct_Loan_pay : Value}
    {od_Loan_change an_Loan_change : Option Addr} {sl_Loan_change : Array (Option Value)} {oc_Loan_change kV_Loan_change dc_Loan_change pm_Loan_change cd_Loan_change ct_Loan_change : Value}
    {od_number_of an_number_of : Option Addr} {sl_number_of : Array (Option Value)} {oc_number_of kV_number_of dc_number_of pm_number_of cd_number_of ct_number_of : Value}
    {od_read an_read : Option Addr} {sl_read : Array (Option Value)} {oc_read kV_read dc_read pm_read cd_read ct_read : Value}
    {od_done an_done : Option Addr} {sl_done : Array (Option Value)} {oc_done kV_done dc_done pm_done cd_done ct_done : Value}
    {od_answered an_answered : Option Addr} {sl_answered : Array (Option Value)} {oc_answered kV_answered dc_answered pm_answered cd_answered ct_answered : Value}
    {od_desk an_desk : Option Addr} {sl_desk : Array (Option Value)} {oc_desk kV_desk dc_desk pm_desk cd_desk ct_desk : Value}
    {od_law_cell_at an_law_cell_at : Option Addr} {sl_law_cell_at : Array (Option Value)} {oc_law_cell_at kV_law_cell_at dc_law_cell_at pm_law_cell_at cd_law_cell_at ct_law_cell_at : Value}
    {od_law_mixed an_law_mixed : Option Addr} {sl_law_mixed : Array (Option Value)} {oc_law_mixed kV_law_mixed dc_law_mixed pm_law_mixed cd_law_mixed ct_law_mixed : Value}
    {od_law_rate_by an_law_rate_by : Option Addr} {sl_law_rate_by : Array (Option Value)} {oc_law_rate_by kV_law_rate_by dc_law_rate_by pm_law_rate_by cd_law_rate_by ct_law_rate_by : Value}
    {od_law_sum_by an_law_sum_by : Option Addr} {sl_law_sum_by : Array (Option Value)} {oc_law_sum_by kV_law_sum_by dc_law_sum_by pm_law_sum_by cd_law_sum_by ct_law_sum_by : Value}
    {od_law_amount_by an_law_amount_by : Option Addr} {sl_law_amount_by : Array (Option Value)} {oc_law_amount_by kV_law_amount_by dc_law_amount_by pm_law_amount_by cd_law_amount_by ct_law_amount_by : Value}
    {od_law_owed an_law_owed : Option Addr} {sl_law_owed : Array (Option Value)} {oc_law_owed kV_law_owed dc_law_owed pm_law_owed cd_law_owed ct_law_owed : Value}
    {od_law_parts an_law_parts : Option Addr} {sl_law_parts : Array (Option Value)} {oc_law_parts kV_law_parts dc_law_parts pm_law_parts cd_law_parts ct_law_parts : Value}
    {od_law_then an_law_then : Option Addr} {sl_law_then : Array (Option Value)} {oc_law_then kV_law_then dc_law_then pm_law_then cd_law_then ct_law_then : Value}
    {od_law_odd_line an_law_odd_line : Option Addr} {sl_law_odd_line : Array (Option Value)} {oc_law_odd_line kV_law_odd_line dc_law_odd_line pm_law_odd_line cd_law_odd_line ct_law_odd_line : Value}
    {od_law_line an_law_line : Option Addr} {sl_law_line : Array (Option Value)} {oc_law_line kV_law_line dc_law_line pm_law_line cd_law_line ct_law_line : Value}
    {od_law_paid an_law_paid : Option Addr} {sl_law_paid : Array (Option Value)} {oc_law_paid kV_law_paid dc_law_paid pm_law_paid cd_law_paid ct_law_paid : Value}
    {od_law_answer an_law_answer : Option Addr} {sl_law_answer : Array (Option Value)} {oc_law_answer kV_law_answer dc_law_answer pm_law_answer cd_law_answer ct_law_answer : Value}
    {od_law_no_desk an_law_no_desk : Option Addr} {sl_law_no_desk : Array (Option Value)} {oc_law_no_desk kV_law_no_desk dc_law_no_desk pm_law_no_desk cd_law_no_desk ct_law_no_desk : Value}
    {od_law an_law : Option Addr} {sl_law : Array (Option Value)} {oc_law kV_law dc_law pm_law cd_law ct_law : Value}
    {tk_MOST_DAY : Tok}
    {tk_MOST_RATE : Tok}
    {tk_MOST_AMOUNT : Tok}
    {tk_MILLION : Tok}
    {tk_FIGURES : Tok}
    {tk_MOST_FIGURES : Tok} (hfa : mg "law" = some (.ref fa))
    (z_len : PySem.W.nsIn K mainGlobals "len" = some none)
    (z_max : PySem.W.nsIn K mainGlobals "max" = some none)
    (z_min : PySem.W.nsIn K mainGlobals "min" = some none)
    (z_int : PySem.W.nsIn K mainGlobals "int" = some none)
    (z_str : PySem.W.nsIn K mainGlobals "str" = some none)
    (z_list : PySem.W.nsIn K mainGlobals "list" = some none)
    (z_range : PySem.W.nsIn K mainGlobals "range" = some none)
    (z_isinstance : PySem.W.nsIn K mainGlobals "isinstance" = some none)
    (z_ValueError : PySem.W.nsIn K mainGlobals "ValueError" = some none)
    (q_MOST_DAY : PySem.W.nsIn K mainGlobals "MOST_DAY" = some (some (.int 100000 tk_MOST_DAY)))
    (q_MOST_RATE : PySem.W.nsIn K mainGlobals "MOST_RATE" = some (some (.int 100000 tk_MOST_RATE)))
    (q_MOST_AMOUNT : PySem.W.nsIn K mainGlobals "MOST_AMOUNT" = some (some (.int 1000000000000 tk_MOST_AMOUNT)))
    (q_MILLION : PySem.W.nsIn K mainGlobals "MILLION" = some (some (.int 1000000 tk_MILLION)))
    (q_FIGURES : PySem.W.nsIn K mainGlobals "FIGURES" = some (some (.str "0123456789" tk_FIGURES)))
    (q_MOST_FIGURES : PySem.W.nsIn K mainGlobals "MOST_FIGURES" = some (some (.int 30 tk_MOST_FIGURES)))
    (ac_LoanError : PySem.W.nsIn K mainGlobals "LoanError" = some (some (.ref a_LoanError)))
    (xc_LoanError : PySem.W.excIn K a_LoanError [.type "ValueError", .type "Exception", .type "BaseException", .type "object"] "ValueError.__new__" = true)
    (xk_LoanError : PySem.W.keepIn K (.ref a_LoanError) = true)
    (xs_LoanError : PySem.W.subIn K (.ref a_LoanError) (.type "BaseException") = some true)
    (xt_LoanError : PySem.W.typeIn K (.ref a_LoanError) = some (.type "type"))
    (ac_BadAmount : PySem.W.nsIn K mainGlobals "BadAmount" = some (some (.ref a_BadAmount)))
    (xc_BadAmount : PySem.W.excIn K a_BadAmount [.type "ValueError", .type "Exception", .type "BaseException", .type "object"] "ValueError.__new__" = true)
    (xk_BadAmount : PySem.W.keepIn K (.ref a_BadAmount) = true)
    (xs_BadAmount : PySem.W.subIn K (.ref a_BadAmount) (.type "BaseException") = some true)
    (xt_BadAmount : PySem.W.typeIn K (.ref a_BadAmount) = some (.type "type"))
    (ac_BadRate : PySem.W.nsIn K mainGlobals "BadRate" = some (some (.ref a_BadRate)))
    (xc_BadRate : PySem.W.excIn K a_BadRate [.type "ValueError", .type "Exception", .type "BaseException", .type "object"] "ValueError.__new__" = true)
    (xk_BadRate : PySem.W.keepIn K (.ref a_BadRate) = true)
    (xs_BadRate : PySem.W.subIn K (.ref a_BadRate) (.type "BaseException") = some true)
    (xt_BadRate : PySem.W.typeIn K (.ref a_BadRate) = some (.type "type"))
    (ac_BadDay : PySem.W.nsIn K mainGlobals "BadDay" = some (some (.ref a_BadDay)))
    (xc_BadDay : PySem.W.excIn K a_BadDay [.type "ValueError", .type "Exception", .type "BaseException", .type "object"] "ValueError.__new__" = true)
    (xk_BadDay : PySem.W.keepIn K (.ref a_BadDay) = true)
    (xs_BadDay : PySem.W.subIn K (.ref a_BadDay) (.type "BaseException") = some true)
    (xt_BadDay : PySem.W.typeIn K (.ref a_BadDay) = some (.type "type"))
    (ac_BadPay : PySem.W.nsIn K mainGlobals "BadPay" = some (some (.ref a_BadPay)))
    (xc_BadPay : PySem.W.excIn K a_BadPay [.type "ValueError", .type "Exception", .type "BaseException", .type "object"] "ValueError.__new__" = true)
    (xk_BadPay : PySem.W.keepIn K (.ref a_BadPay) = true)
    (xs_BadPay : PySem.W.subIn K (.ref a_BadPay) (.type "BaseException") = some true)
    (xt_BadPay : PySem.W.typeIn K (.ref a_BadPay) = some (.type "type"))
    (ac_NoNote : PySem.W.nsIn K mainGlobals "NoNote" = some (some (.ref a_NoNote)))
    (xc_NoNote : PySem.W.excIn K a_NoNote [.type "ValueError", .type "Exception", .type "BaseException", .type "object"] "ValueError.__new__" = true)
    (xk_NoNote : PySem.W.keepIn K (.ref a_NoNote) = true)
    (xs_NoNote : PySem.W.subIn K (.ref a_NoNote) (.type "BaseException") = some true)
    (xt_NoNote : PySem.W.typeIn K (.ref a_NoNote) = some (.type "type"))
    (ac_Loan : PySem.W.nsIn K mainGlobals "Loan" = some (some (.ref a_Loan)))
    (pg_Loan : PySem.W.plainGet K a_Loan Str.empty = true)
    (hd_Loan : PySem.W.hasDictIn K a_Loan = true)
    (po_Loan : PySem.W.plainOver K a_Loan = true)
    (sa_Loan : PySem.W.findIn K (.ref a_Loan) "__setattr__" = some (some (.builtin "object.__setattr__")))
    (mk_Loan : PySem.W.makesIn K a_Loan = true)
    (kc_Loan : PySem.W.keepIn K (.ref a_Loan) = true)
    (nf_Loan_left : PySem.W.findIn K (.ref a_Loan) "left" = some none)
    (nf_Loan_begun : PySem.W.findIn K (.ref a_Loan) "begun" = some none)
    (nf_Loan_day : PySem.W.findIn K (.ref a_Loan) "day" = some none)
    (nf_Loan_rates : PySem.W.findIn K (.ref a_Loan) "rates" = some none)
    (sb_BadAmount_BadAmount : PySem.W.subIn K (.ref a_BadAmount) (.ref a_BadAmount) = some true)
    (sb_BadAmount_BadDay : PySem.W.subIn K (.ref a_BadAmount) (.ref a_BadDay) = some false)
    (sb_BadAmount_BadPay : PySem.W.subIn K (.ref a_BadAmount) (.ref a_BadPay) = some false)
    (sb_BadAmount_BadRate : PySem.W.subIn K (.ref a_BadAmount) (.ref a_BadRate) = some false)
    (sb_BadAmount_NoNote : PySem.W.subIn K (.ref a_BadAmount) (.ref a_NoNote) = some false)
    (sb_BadDay_BadAmount : PySem.W.subIn K (.ref a_BadDay) (.ref a_BadAmount) = some false)
    (sb_BadDay_BadDay : PySem.W.subIn K (.ref a_BadDay) (.ref a_BadDay) = some true)
    (sb_BadDay_BadPay : PySem.W.subIn K (.ref a_BadDay) (.ref a_BadPay) = some false)
    (sb_BadDay_BadRate : PySem.W.subIn K (.ref a_BadDay) (.ref a_BadRate) = some false)
    (sb_BadDay_NoNote : PySem.W.subIn K (.ref a_BadDay) (.ref a_NoNote) = some false)
    (sb_BadPay_BadAmount : PySem.W.subIn K (.ref a_BadPay) (.ref a_BadAmount) = some false)
    (sb_BadPay_BadDay : PySem.W.subIn K (.ref a_BadPay) (.ref a_BadDay) = some false)
    (sb_BadPay_BadPay : PySem.W.subIn K (.ref a_BadPay) (.ref a_BadPay) = some true)
    (sb_BadPay_BadRate : PySem.W.subIn K (.ref a_BadPay) (.ref a_BadRate) = some false)
    (sb_BadPay_NoNote : PySem.W.subIn K (.ref a_BadPay) (.ref a_NoNote) = some false)
    (sb_BadRate_BadAmount : PySem.W.subIn K (.ref a_BadRate) (.ref a_BadAmount) = some false)
    (sb_BadRate_BadDay : PySem.W.subIn K (.ref a_BadRate) (.ref a_BadDay) = some false)
    (sb_BadRate_BadPay : PySem.W.subIn K (.ref a_BadRate) (.ref a_BadPay) = some false)
    (sb_BadRate_BadRate : PySem.W.subIn K (.ref a_BadRate) (.ref a_BadRate) = some true)
    (sb_BadRate_NoNote : PySem.W.subIn K (.ref a_BadRate) (.ref a_NoNote) = some false)
    (sb_NoNote_BadAmount : PySem.W.subIn K (.ref a_NoNote) (.ref a_BadAmount) = some false)
    (sb_NoNote_BadDay : PySem.W.subIn K (.ref a_NoNote) (.ref a_BadDay) = some false)
    (sb_NoNote_BadPay : PySem.W.subIn K (.ref a_NoNote) (.ref a_BadPay) = some false)
    (sb_NoNote_BadRate : PySem.W.subIn K (.ref a_NoNote) (.ref a_BadRate) = some false)
    (sb_NoNote_NoNote : PySem.W.subIn K (.ref a_NoNote) (.ref a_NoNote) = some true)
    (dd_BadAmount : PySem.W.hasDictIn K a_BadAmount = true)
    (dd_BadDay : PySem.W.hasDictIn K a_BadDay = true)
    (dd_BadPay : PySem.W.hasDictIn K a_BadPay = true)
    (dd_BadRate : PySem.W.hasDictIn K a_BadRate = true)
    (dd_NoNote : PySem.W.hasDictIn K a_NoNote = true)
    (at_need_rate : PySem.W.nsIn K mainGlobals "need_rate" = some (some (.ref f_need_rate)))
    (lk_need_rate : K.lookup f_need_rate = some ⟨oc_need_rate, od_need_rate, .func (PySem.W.fnOf "need_rate" "need_rate" (defArgs s_need_rate) (defBody s_need_rate) (defScope s_need_rate) .none kV_need_rate dc_need_rate pm_need_rate an_need_rate cd_need_rate ct_need_rate), sl_need_rate⟩)
    (cd_need_rate_in : PySem.W.codeIn K cd_need_rate "need_rate" = true)
    (kp_need_rate : PySem.W.keepIn K (.ref f_need_rate) = true)
    (at_checked : PySem.W.nsIn K mainGlobals "checked" = some (some (.ref f_checked)))
    (lk_checked : K.lookup f_checked = some ⟨oc_checked, od_checked, .func (PySem.W.fnOf "checked" "checked" (defArgs s_checked) (defBody s_checked) (defScope s_checked) .none kV_checked dc_checked pm_checked an_checked cd_checked ct_checked), sl_checked⟩)
    (cd_checked_in : PySem.W.codeIn K cd_checked "checked" = true)
    (kp_checked : PySem.W.keepIn K (.ref f_checked) = true)
    (at_grown : PySem.W.nsIn K mainGlobals "grown" = some (some (.ref f_grown)))
    (lk_grown : K.lookup f_grown = some ⟨oc_grown, od_grown, .func (PySem.W.fnOf "grown" "grown" (defArgs s_grown) (defBody s_grown) (defScope s_grown) .none kV_grown dc_grown pm_grown an_grown cd_grown ct_grown), sl_grown⟩)
    (cd_grown_in : PySem.W.codeIn K cd_grown "grown" = true)
    (kp_grown : PySem.W.keepIn K (.ref f_grown) = true)
    (at_need_amount : PySem.W.nsIn K mainGlobals "need_amount" = some (some (.ref f_need_amount)))
    (lk_need_amount : K.lookup f_need_amount = some ⟨oc_need_amount, od_need_amount, .func (PySem.W.fnOf "need_amount" "need_amount" (defArgs s_need_amount) (defBody s_need_amount) (defScope s_need_amount) .none kV_need_amount dc_need_amount pm_need_amount an_need_amount cd_need_amount ct_need_amount), sl_need_amount⟩)
    (cd_need_amount_in : PySem.W.codeIn K cd_need_amount "need_amount" = true)
    (kp_need_amount : PySem.W.keepIn K (.ref f_need_amount) = true)
    (at_Loan_init : PySem.W.findIn K (.ref a_Loan) "__init__" = some (some (.ref f_Loan_init)))
    (is_Loan_init : PySem.W.isFn K (.ref f_Loan_init) = true)
    (lk_Loan_init : K.lookup f_Loan_init = some ⟨oc_Loan_init, od_Loan_init, .func (PySem.W.fnOf "__init__" "Loan.__init__" (defArgs s_Loan_init) (defBody s_Loan_init) (defScope s_Loan_init) .none kV_Loan_init dc_Loan_init pm_Loan_init an_Loan_init cd_Loan_init ct_Loan_init), sl_Loan_init⟩)
    (cd_Loan_init_in : PySem.W.codeIn K cd_Loan_init "Loan.__init__" = true)
    (kp_Loan_init : PySem.W.keepIn K (.ref f_Loan_init) = true)
    (at_Loan_stand : PySem.W.findIn K (.ref a_Loan) "stand" = some (some (.ref f_Loan_stand)))
    (is_Loan_stand : PySem.W.isFn K (.ref f_Loan_stand) = true)
    (lk_Loan_stand : K.lookup f_Loan_stand = some ⟨oc_Loan_stand, od_Loan_stand, .func (PySem.W.fnOf "stand" "Loan.stand" (defArgs s_Loan_stand) (defBody s_Loan_stand) (defScope s_Loan_stand) .none kV_Loan_stand dc_Loan_stand pm_Loan_stand an_Loan_stand cd_Loan_stand ct_Loan_stand), sl_Loan_stand⟩)
    (cd_Loan_stand_in : PySem.W.codeIn K cd_Loan_stand "Loan.stand" = true)
    (kp_Loan_stand : PySem.W.keepIn K (.ref f_Loan_stand) = true)
    (at_Loan_owed : PySem.W.findIn K (.ref a_Loan) "owed" = some (some (.ref f_Loan_owed)))
    (is_Loan_owed : PySem.W.isFn K (.ref f_Loan_owed) = true)
    (lk_Loan_owed : K.lookup f_Loan_owed = some ⟨oc_Loan_owed, od_Loan_owed, .func (PySem.W.fnOf "owed" "Loan.owed" (defArgs s_Loan_owed) (defBody s_Loan_owed) (defScope s_Loan_owed) .none kV_Loan_owed dc_Loan_owed pm_Loan_owed an_Loan_owed cd_Loan_owed ct_Loan_owed), sl_Loan_owed⟩)
    (cd_Loan_owed_in : PySem.W.codeIn K cd_Loan_owed "Loan.owed" = true)
    (kp_Loan_owed : PySem.W.keepIn K (.ref f_Loan_owed) = true)
    (at_Loan_pay : PySem.W.findIn K (.ref a_Loan) "pay" = some (some (.ref f_Loan_pay)))
    (is_Loan_pay : PySem.W.isFn K (.ref f_Loan_pay) = true)
    (lk_Loan_pay : K.lookup f_Loan_pay = some ⟨oc_Loan_pay, od_Loan_pay, .func (PySem.W.fnOf "pay" "Loan.pay" (defArgs s_Loan_pay) (defBody s_Loan_pay) (defScope s_Loan_pay) .none kV_Loan_pay dc_Loan_pay pm_Loan_pay an_Loan_pay cd_Loan_pay ct_Loan_pay), sl_Loan_pay⟩)
    (cd_Loan_pay_in : PySem.W.codeIn K cd_Loan_pay "Loan.pay" = true)
    (kp_Loan_pay : PySem.W.keepIn K (.ref f_Loan_pay) = true)
    (at_Loan_change : PySem.W.findIn K (.ref a_Loan) "change" = some (some (.ref f_Loan_change)))
    (is_Loan_change : PySem.W.isFn K (.ref f_Loan_change) = true)
    (lk_Loan_change : K.lookup f_Loan_change = some ⟨oc_Loan_change, od_Loan_change, .func (PySem.W.fnOf "change" "Loan.change" (defArgs s_Loan_change) (defBody s_Loan_change) (defScope s_Loan_change) .none kV_Loan_change dc_Loan_change pm_Loan_change an_Loan_change cd_Loan_change ct_Loan_change), sl_Loan_change⟩)
    (cd_Loan_change_in : PySem.W.codeIn K cd_Loan_change "Loan.change" = true)
    (kp_Loan_change : PySem.W.keepIn K (.ref f_Loan_change) = true)
    (at_number_of : PySem.W.nsIn K mainGlobals "number_of" = some (some (.ref f_number_of)))
    (lk_number_of : K.lookup f_number_of = some ⟨oc_number_of, od_number_of, .func (PySem.W.fnOf "number_of" "number_of" (defArgs s_number_of) (defBody s_number_of) (defScope s_number_of) .none kV_number_of dc_number_of pm_number_of an_number_of cd_number_of ct_number_of), sl_number_of⟩)
    (cd_number_of_in : PySem.W.codeIn K cd_number_of "number_of" = true)
    (kp_number_of : PySem.W.keepIn K (.ref f_number_of) = true)
    (at_read : PySem.W.nsIn K mainGlobals "read" = some (some (.ref f_read)))
    (lk_read : K.lookup f_read = some ⟨oc_read, od_read, .func (PySem.W.fnOf "read" "read" (defArgs s_read) (defBody s_read) (defScope s_read) .none kV_read dc_read pm_read an_read cd_read ct_read), sl_read⟩)
    (cd_read_in : PySem.W.codeIn K cd_read "read" = true)
    (kp_read : PySem.W.keepIn K (.ref f_read) = true)
    (at_done : PySem.W.nsIn K mainGlobals "done" = some (some (.ref f_done)))
    (lk_done : K.lookup f_done = some ⟨oc_done, od_done, .func (PySem.W.fnOf "done" "done" (defArgs s_done) (defBody s_done) (defScope s_done) .none kV_done dc_done pm_done an_done cd_done ct_done), sl_done⟩)
    (cd_done_in : PySem.W.codeIn K cd_done "done" = true)
    (kp_done : PySem.W.keepIn K (.ref f_done) = true)
    (at_answered : PySem.W.nsIn K mainGlobals "answered" = some (some (.ref f_answered)))
    (lk_answered : K.lookup f_answered = some ⟨oc_answered, od_answered, .func (PySem.W.fnOf "answered" "answered" (defArgs s_answered) (defBody s_answered) (defScope s_answered) .none kV_answered dc_answered pm_answered an_answered cd_answered ct_answered), sl_answered⟩)
    (cd_answered_in : PySem.W.codeIn K cd_answered "answered" = true)
    (kp_answered : PySem.W.keepIn K (.ref f_answered) = true)
    (at_desk : PySem.W.nsIn K mainGlobals "desk" = some (some (.ref f_desk)))
    (lk_desk : K.lookup f_desk = some ⟨oc_desk, od_desk, .func (PySem.W.fnOf "desk" "desk" (defArgs s_desk) (defBody s_desk) (defScope s_desk) .none kV_desk dc_desk pm_desk an_desk cd_desk ct_desk), sl_desk⟩)
    (cd_desk_in : PySem.W.codeIn K cd_desk "desk" = true)
    (kp_desk : PySem.W.keepIn K (.ref f_desk) = true)
    (at_law_cell_at : PySem.W.nsIn K mainGlobals "_law_cell_at" = some (some (.ref f_law_cell_at)))
    (lk_law_cell_at : K.lookup f_law_cell_at = some ⟨oc_law_cell_at, od_law_cell_at, .func (PySem.W.fnOf "_law_cell_at" "_law_cell_at" (defArgs s_law_cell_at) (defBody s_law_cell_at) (defScope s_law_cell_at) .none kV_law_cell_at dc_law_cell_at pm_law_cell_at an_law_cell_at cd_law_cell_at ct_law_cell_at), sl_law_cell_at⟩)
    (cd_law_cell_at_in : PySem.W.codeIn K cd_law_cell_at "_law_cell_at" = true)
    (kp_law_cell_at : PySem.W.keepIn K (.ref f_law_cell_at) = true)
    (at_law_mixed : PySem.W.nsIn K mainGlobals "_law_mixed" = some (some (.ref f_law_mixed)))
    (lk_law_mixed : K.lookup f_law_mixed = some ⟨oc_law_mixed, od_law_mixed, .func (PySem.W.fnOf "_law_mixed" "_law_mixed" (defArgs s_law_mixed) (defBody s_law_mixed) (defScope s_law_mixed) .none kV_law_mixed dc_law_mixed pm_law_mixed an_law_mixed cd_law_mixed ct_law_mixed), sl_law_mixed⟩)
    (cd_law_mixed_in : PySem.W.codeIn K cd_law_mixed "_law_mixed" = true)
    (kp_law_mixed : PySem.W.keepIn K (.ref f_law_mixed) = true)
    (at_law_rate_by : PySem.W.nsIn K mainGlobals "_law_rate_by" = some (some (.ref f_law_rate_by)))
    (lk_law_rate_by : K.lookup f_law_rate_by = some ⟨oc_law_rate_by, od_law_rate_by, .func (PySem.W.fnOf "_law_rate_by" "_law_rate_by" (defArgs s_law_rate_by) (defBody s_law_rate_by) (defScope s_law_rate_by) .none kV_law_rate_by dc_law_rate_by pm_law_rate_by an_law_rate_by cd_law_rate_by ct_law_rate_by), sl_law_rate_by⟩)
    (cd_law_rate_by_in : PySem.W.codeIn K cd_law_rate_by "_law_rate_by" = true)
    (kp_law_rate_by : PySem.W.keepIn K (.ref f_law_rate_by) = true)
    (at_law_sum_by : PySem.W.nsIn K mainGlobals "_law_sum_by" = some (some (.ref f_law_sum_by)))
    (lk_law_sum_by : K.lookup f_law_sum_by = some ⟨oc_law_sum_by, od_law_sum_by, .func (PySem.W.fnOf "_law_sum_by" "_law_sum_by" (defArgs s_law_sum_by) (defBody s_law_sum_by) (defScope s_law_sum_by) .none kV_law_sum_by dc_law_sum_by pm_law_sum_by an_law_sum_by cd_law_sum_by ct_law_sum_by), sl_law_sum_by⟩)
    (cd_law_sum_by_in : PySem.W.codeIn K cd_law_sum_by "_law_sum_by" = true)
    (kp_law_sum_by : PySem.W.keepIn K (.ref f_law_sum_by) = true)
    (at_law_amount_by : PySem.W.nsIn K mainGlobals "_law_amount_by" = some (some (.ref f_law_amount_by)))
    (lk_law_amount_by : K.lookup f_law_amount_by = some ⟨oc_law_amount_by, od_law_amount_by, .func (PySem.W.fnOf "_law_amount_by" "_law_amount_by" (defArgs s_law_amount_by) (defBody s_law_amount_by) (defScope s_law_amount_by) .none kV_law_amount_by dc_law_amount_by pm_law_amount_by an_law_amount_by cd_law_amount_by ct_law_amount_by), sl_law_amount_by⟩)
    (cd_law_amount_by_in : PySem.W.codeIn K cd_law_amount_by "_law_amount_by" = true)
    (kp_law_amount_by : PySem.W.keepIn K (.ref f_law_amount_by) = true)
    (at_law_owed : PySem.W.nsIn K mainGlobals "_law_owed" = some (some (.ref f_law_owed)))
    (lk_law_owed : K.lookup f_law_owed = some ⟨oc_law_owed, od_law_owed, .func (PySem.W.fnOf "_law_owed" "_law_owed" (defArgs s_law_owed) (defBody s_law_owed) (defScope s_law_owed) .none kV_law_owed dc_law_owed pm_law_owed an_law_owed cd_law_owed ct_law_owed), sl_law_owed⟩)
    (cd_law_owed_in : PySem.W.codeIn K cd_law_owed "_law_owed" = true)
    (kp_law_owed : PySem.W.keepIn K (.ref f_law_owed) = true)
    (at_law_parts : PySem.W.nsIn K mainGlobals "_law_parts" = some (some (.ref f_law_parts)))
    (lk_law_parts : K.lookup f_law_parts = some ⟨oc_law_parts, od_law_parts, .func (PySem.W.fnOf "_law_parts" "_law_parts" (defArgs s_law_parts) (defBody s_law_parts) (defScope s_law_parts) .none kV_law_parts dc_law_parts pm_law_parts an_law_parts cd_law_parts ct_law_parts), sl_law_parts⟩)
    (cd_law_parts_in : PySem.W.codeIn K cd_law_parts "_law_parts" = true)
    (kp_law_parts : PySem.W.keepIn K (.ref f_law_parts) = true)
    (at_law_then : PySem.W.nsIn K mainGlobals "_law_then" = some (some (.ref f_law_then)))
    (lk_law_then : K.lookup f_law_then = some ⟨oc_law_then, od_law_then, .func (PySem.W.fnOf "_law_then" "_law_then" (defArgs s_law_then) (defBody s_law_then) (defScope s_law_then) .none kV_law_then dc_law_then pm_law_then an_law_then cd_law_then ct_law_then), sl_law_then⟩)
    (cd_law_then_in : PySem.W.codeIn K cd_law_then "_law_then" = true)
    (kp_law_then : PySem.W.keepIn K (.ref f_law_then) = true)
    (at_law_odd_line : PySem.W.nsIn K mainGlobals "_law_odd_line" = some (some (.ref f_law_odd_line)))
    (lk_law_odd_line : K.lookup f_law_odd_line = some ⟨oc_law_odd_line, od_law_odd_line, .func (PySem.W.fnOf "_law_odd_line" "_law_odd_line" (defArgs s_law_odd_line) (defBody s_law_odd_line) (defScope s_law_odd_line) .none kV_law_odd_line dc_law_odd_line pm_law_odd_line an_law_odd_line cd_law_odd_line ct_law_odd_line), sl_law_odd_line⟩)
    (cd_law_odd_line_in : PySem.W.codeIn K cd_law_odd_line "_law_odd_line" = true)
    (kp_law_odd_line : PySem.W.keepIn K (.ref f_law_odd_line) = true)
    (at_law_line : PySem.W.nsIn K mainGlobals "_law_line" = some (some (.ref f_law_line)))
    (lk_law_line : K.lookup f_law_line = some ⟨oc_law_line, od_law_line, .func (PySem.W.fnOf "_law_line" "_law_line" (defArgs s_law_line) (defBody s_law_line) (defScope s_law_line) .none kV_law_line dc_law_line pm_law_line an_law_line cd_law_line ct_law_line), sl_law_line⟩)
    (cd_law_line_in : PySem.W.codeIn K cd_law_line "_law_line" = true)
    (kp_law_line : PySem.W.keepIn K (.ref f_law_line) = true)
    (at_law_paid : PySem.W.nsIn K mainGlobals "_law_paid" = some (some (.ref f_law_paid)))
    (lk_law_paid : K.lookup f_law_paid = some ⟨oc_law_paid, od_law_paid, .func (PySem.W.fnOf "_law_paid" "_law_paid" (defArgs s_law_paid) (defBody s_law_paid) (defScope s_law_paid) .none kV_law_paid dc_law_paid pm_law_paid an_law_paid cd_law_paid ct_law_paid), sl_law_paid⟩)
    (cd_law_paid_in : PySem.W.codeIn K cd_law_paid "_law_paid" = true)
    (kp_law_paid : PySem.W.keepIn K (.ref f_law_paid) = true)
    (at_law_answer : PySem.W.nsIn K mainGlobals "_law_answer" = some (some (.ref f_law_answer)))
    (lk_law_answer : K.lookup f_law_answer = some ⟨oc_law_answer, od_law_answer, .func (PySem.W.fnOf "_law_answer" "_law_answer" (defArgs s_law_answer) (defBody s_law_answer) (defScope s_law_answer) .none kV_law_answer dc_law_answer pm_law_answer an_law_answer cd_law_answer ct_law_answer), sl_law_answer⟩)
    (cd_law_answer_in : PySem.W.codeIn K cd_law_answer "_law_answer" = true)
    (kp_law_answer : PySem.W.keepIn K (.ref f_law_answer) = true)
    (at_law_no_desk : PySem.W.nsIn K mainGlobals "_law_no_desk" = some (some (.ref f_law_no_desk)))
    (lk_law_no_desk : K.lookup f_law_no_desk = some ⟨oc_law_no_desk, od_law_no_desk, .func (PySem.W.fnOf "_law_no_desk" "_law_no_desk" (defArgs s_law_no_desk) (defBody s_law_no_desk) (defScope s_law_no_desk) .none kV_law_no_desk dc_law_no_desk pm_law_no_desk an_law_no_desk cd_law_no_desk ct_law_no_desk), sl_law_no_desk⟩)
    (cd_law_no_desk_in : PySem.W.codeIn K cd_law_no_desk "_law_no_desk" = true)
    (kp_law_no_desk : PySem.W.keepIn K (.ref f_law_no_desk) = true)
    (at_law : PySem.W.nsIn K mainGlobals "law" = some (some (.ref f_law)))
    (lk_law : K.lookup f_law = some ⟨oc_law, od_law, .func (PySem.W.fnOf "law" "law" (defArgs s_law) (defBody s_law) (defScope s_law) .none kV_law dc_law pm_law an_law cd_law ct_law), sl_law⟩)
    (cd_law_in : PySem.W.codeIn K cd_law "law" = true)
    (kp_law : PySem.W.keepIn K (.ref f_law) = true) :
    ∃ fd : FuncData, (∀ (s : Shared) (v : Value), BindsTo s fd ⟨[v], []⟩ [("_law_script", v)]) ∧ ∀ base : Heap, K.In base → base.Ns mainGlobals mg → FnOk l.prog w K mg base CX0 9 fa fd ["_law_script"] (sp_law K) := by
  have e := hfa.symm.trans (PySem.W.mg_of X G at_law)
  cases e
  let T : Txt K mg := ⟨PySem.W.mg_none_of X G z_len, PySem.W.mg_none_of X G z_max, PySem.W.mg_none_of X G z_min, PySem.W.mg_none_of X G z_int, PySem.W.mg_none_of X G z_str, PySem.W.mg_none_of X G z_list, PySem.W.mg_none_of X G z_range, PySem.W.mg_none_of X G z_isinstance, PySem.W.mg_none_of X G z_ValueError, ⟨_, PySem.W.mg_of X G q_MOST_DAY⟩, ⟨_, PySem.W.mg_of X G q_MOST_RATE⟩, ⟨_, PySem.W.mg_of X G q_MOST_AMOUNT⟩, ⟨_, PySem.W.mg_of X G q_MILLION⟩, ⟨_, PySem.W.mg_of X G q_FIGURES⟩, ⟨_, PySem.W.mg_of X G q_MOST_FIGURES⟩, a_LoanError, PySem.W.mg_of X G ac_LoanError, ⟨xc_LoanError, xk_LoanError, xs_LoanError, xt_LoanError⟩, a_BadAmount, PySem.W.mg_of X G ac_BadAmount, ⟨xc_BadAmount, xk_BadAmount, xs_BadAmount, xt_BadAmount⟩, a_BadRate, PySem.W.mg_of X G ac_BadRate, ⟨xc_BadRate, xk_BadRate, xs_BadRate, xt_BadRate⟩, a_BadDay, PySem.W.mg_of X G ac_BadDay, ⟨xc_BadDay, xk_BadDay, xs_BadDay, xt_BadDay⟩, a_BadPay, PySem.W.mg_of X G ac_BadPay, ⟨xc_BadPay, xk_BadPay, xs_BadPay, xt_BadPay⟩, a_NoNote, PySem.W.mg_of X G ac_NoNote, ⟨xc_NoNote, xk_NoNote, xs_NoNote, xt_NoNote⟩, a_Loan, PySem.W.mg_of X G ac_Loan, ⟨pg_Loan, hd_Loan, po_Loan, sa_Loan⟩, nf_Loan_left, nf_Loan_begun, nf_Loan_day, nf_Loan_rates, PySem.W.exm_ref xs_BadAmount dd_BadAmount xt_BadAmount sb_BadAmount_BadAmount, PySem.W.exm_ref xs_BadDay dd_BadDay xt_BadDay sb_BadAmount_BadDay, PySem.W.exm_ref xs_BadPay dd_BadPay xt_BadPay sb_BadAmount_BadPay, PySem.W.exm_ref xs_BadRate dd_BadRate xt_BadRate sb_BadAmount_BadRate, PySem.W.exm_ref xs_NoNote dd_NoNote xt_NoNote sb_BadAmount_NoNote, PySem.W.exm_ref xs_BadAmount dd_BadAmount xt_BadAmount sb_BadDay_BadAmount, PySem.W.exm_ref xs_BadDay dd_BadDay xt_BadDay sb_BadDay_BadDay, PySem.W.exm_ref xs_BadPay dd_BadPay xt_BadPay sb_BadDay_BadPay, PySem.W.exm_ref xs_BadRate dd_BadRate xt_BadRate sb_BadDay_BadRate, PySem.W.exm_ref xs_NoNote dd_NoNote xt_NoNote sb_BadDay_NoNote, PySem.W.exm_ref xs_BadAmount dd_BadAmount xt_BadAmount sb_BadPay_BadAmount, PySem.W.exm_ref xs_BadDay dd_BadDay xt_BadDay sb_BadPay_BadDay, PySem.W.exm_ref xs_BadPay dd_BadPay xt_BadPay sb_BadPay_BadPay, PySem.W.exm_ref xs_BadRate dd_BadRate xt_BadRate sb_BadPay_BadRate, PySem.W.exm_ref xs_NoNote dd_NoNote xt_NoNote sb_BadPay_NoNote, PySem.W.exm_ref xs_BadAmount dd_BadAmount xt_BadAmount sb_BadRate_BadAmount, PySem.W.exm_ref xs_BadDay dd_BadDay xt_BadDay sb_BadRate_BadDay, PySem.W.exm_ref xs_BadPay dd_BadPay xt_BadPay sb_BadRate_BadPay, PySem.W.exm_ref xs_BadRate dd_BadRate xt_BadRate sb_BadRate_BadRate, PySem.W.exm_ref xs_NoNote dd_NoNote xt_NoNote sb_BadRate_NoNote, PySem.W.exm_ref xs_BadAmount dd_BadAmount xt_BadAmount sb_NoNote_BadAmount, PySem.W.exm_ref xs_BadDay dd_BadDay xt_BadDay sb_NoNote_BadDay, PySem.W.exm_ref xs_BadPay dd_BadPay xt_BadPay sb_NoNote_BadPay, PySem.W.exm_ref xs_BadRate dd_BadRate xt_BadRate sb_NoNote_BadRate, PySem.W.exm_ref xs_NoNote dd_NoNote xt_NoNote sb_NoNote_NoNote⟩
  have F_need_rate := fun_mk (st := s_need_rate) lk_need_rate cd_need_rate_in kp_need_rate
  have B_need_rate := F_need_rate.binds (ps := ["rate"]) fun _ _ _ _ _ _ us hl => match us, hl with | [_], _ => rfl
  have F_checked := fun_mk (st := s_checked) lk_checked cd_checked_in kp_checked
  have B_checked := F_checked.binds (ps := ["rates"]) fun _ _ _ _ _ _ us hl => match us, hl with | [_], _ => rfl
  have F_grown := fun_mk (st := s_grown) lk_grown cd_grown_in kp_grown
  have B_grown := F_grown.binds (ps := ["rates", "start", "end"]) fun _ _ _ _ _ _ us hl => match us, hl with | [_, _, _], _ => rfl
  have F_need_amount := fun_mk (st := s_need_amount) lk_need_amount cd_need_amount_in kp_need_amount
  have B_need_amount := F_need_amount.binds (ps := ["amount"]) fun _ _ _ _ _ _ us hl => match us, hl with | [_], _ => rfl
  have F_Loan_init := fun_mk (st := s_Loan_init) lk_Loan_init cd_Loan_init_in kp_Loan_init
  have B_Loan_init := F_Loan_init.binds (ps := ["self", "amount", "rates"]) fun _ _ _ _ _ _ us hl => match us, hl with | [_, _, _], _ => rfl
  have F_Loan_stand := fun_mk (st := s_Loan_stand) lk_Loan_stand cd_Loan_stand_in kp_Loan_stand
  have B_Loan_stand := F_Loan_stand.binds (ps := ["self", "day"]) fun _ _ _ _ _ _ us hl => match us, hl with | [_, _], _ => rfl
  have F_Loan_owed := fun_mk (st := s_Loan_owed) lk_Loan_owed cd_Loan_owed_in kp_Loan_owed
  have B_Loan_owed := F_Loan_owed.binds (ps := ["self", "day"]) fun _ _ _ _ _ _ us hl => match us, hl with | [_, _], _ => rfl
  have F_Loan_pay := fun_mk (st := s_Loan_pay) lk_Loan_pay cd_Loan_pay_in kp_Loan_pay
  have B_Loan_pay := F_Loan_pay.binds (ps := ["self", "day", "cents"]) fun _ _ _ _ _ _ us hl => match us, hl with | [_, _, _], _ => rfl
  have F_Loan_change := fun_mk (st := s_Loan_change) lk_Loan_change cd_Loan_change_in kp_Loan_change
  have B_Loan_change := F_Loan_change.binds (ps := ["self", "day", "rate"]) fun _ _ _ _ _ _ us hl => match us, hl with | [_, _, _], _ => rfl
  have F_number_of := fun_mk (st := s_number_of) lk_number_of cd_number_of_in kp_number_of
  have B_number_of := F_number_of.binds (ps := ["word"]) fun _ _ _ _ _ _ us hl => match us, hl with | [_], _ => rfl
  have F_read := fun_mk (st := s_read) lk_read cd_read_in kp_read
  have B_read := F_read.binds (ps := ["line"]) fun _ _ _ _ _ _ us hl => match us, hl with | [_], _ => rfl
  have F_done := fun_mk (st := s_done) lk_done cd_done_in kp_done
  have B_done := F_done.binds (ps := ["loan", "note"]) fun _ _ _ _ _ _ us hl => match us, hl with | [_, _], _ => rfl
  have F_answered := fun_mk (st := s_answered) lk_answered cd_answered_in kp_answered
  have B_answered := F_answered.binds (ps := ["loan", "line"]) fun _ _ _ _ _ _ us hl => match us, hl with | [_, _], _ => rfl
  have F_desk := fun_mk (st := s_desk) lk_desk cd_desk_in kp_desk
  have B_desk := F_desk.binds (ps := ["amount", "rate", "lines"]) fun _ _ _ _ _ _ us hl => match us, hl with | [_, _, _], _ => rfl
  have F_law_cell_at := fun_mk (st := s_law_cell_at) lk_law_cell_at cd_law_cell_at_in kp_law_cell_at
  have B_law_cell_at := F_law_cell_at.binds (ps := ["_law_script", "_law_k"]) fun _ _ _ _ _ _ us hl => match us, hl with | [_, _], _ => rfl
  have F_law_mixed := fun_mk (st := s_law_mixed) lk_law_mixed cd_law_mixed_in kp_law_mixed
  have B_law_mixed := F_law_mixed.binds (ps := ["_law_cell", "_law_many"]) fun _ _ _ _ _ _ us hl => match us, hl with | [_, _], _ => rfl
  have F_law_rate_by := fun_mk (st := s_law_rate_by) lk_law_rate_by cd_law_rate_by_in kp_law_rate_by
  have B_law_rate_by := F_law_rate_by.binds (ps := ["_law_cell"]) fun _ _ _ _ _ _ us hl => match us, hl with | [_], _ => rfl
  have F_law_sum_by := fun_mk (st := s_law_sum_by) lk_law_sum_by cd_law_sum_by_in kp_law_sum_by
  have B_law_sum_by := F_law_sum_by.binds (ps := ["_law_row", "_law_start", "_law_end"]) fun _ _ _ _ _ _ us hl => match us, hl with | [_, _, _], _ => rfl
  have F_law_amount_by := fun_mk (st := s_law_amount_by) lk_law_amount_by cd_law_amount_by_in kp_law_amount_by
  have B_law_amount_by := F_law_amount_by.binds (ps := ["_law_cell"]) fun _ _ _ _ _ _ us hl => match us, hl with | [_], _ => rfl
  have F_law_owed := fun_mk (st := s_law_owed) lk_law_owed cd_law_owed_in kp_law_owed
  have B_law_owed := F_law_owed.binds (ps := ["_law_left", "_law_begun"]) fun _ _ _ _ _ _ us hl => match us, hl with | [_, _], _ => rfl
  have F_law_parts := fun_mk (st := s_law_parts) lk_law_parts cd_law_parts_in kp_law_parts
  have B_law_parts := F_law_parts.binds (ps := ["_law_left", "_law_begun", "_law_cents"]) fun _ _ _ _ _ _ us hl => match us, hl with | [_, _, _], _ => rfl
  have F_law_then := fun_mk (st := s_law_then) lk_law_then cd_law_then_in kp_law_then
  have B_law_then := F_law_then.binds (ps := ["_law_state", "_law_day"]) fun _ _ _ _ _ _ us hl => match us, hl with | [_, _], _ => rfl
  have F_law_odd_line := fun_mk (st := s_law_odd_line) lk_law_odd_line cd_law_odd_line_in kp_law_odd_line
  have B_law_odd_line := F_law_odd_line.binds (ps := ["_law_line_here", "_law_cell"]) fun _ _ _ _ _ _ us hl => match us, hl with | [_, _], _ => rfl
  have F_law_line := fun_mk (st := s_law_line) lk_law_line cd_law_line_in kp_law_line
  have B_law_line := F_law_line.binds (ps := ["_law_state", "_law_cell"]) fun _ _ _ _ _ _ us hl => match us, hl with | [_, _], _ => rfl
  have F_law_paid := fun_mk (st := s_law_paid) lk_law_paid cd_law_paid_in kp_law_paid
  have B_law_paid := F_law_paid.binds (ps := ["_law_state", "_law_day", "_law_cents"]) fun _ _ _ _ _ _ us hl => match us, hl with | [_, _, _], _ => rfl
  have F_law_answer := fun_mk (st := s_law_answer) lk_law_answer cd_law_answer_in kp_law_answer
  have B_law_answer := F_law_answer.binds (ps := ["_law_state", "_law_line_here", "_law_good"]) fun _ _ _ _ _ _ us hl => match us, hl with | [_, _, _], _ => rfl
  have F_law_no_desk := fun_mk (st := s_law_no_desk) lk_law_no_desk cd_law_no_desk_in kp_law_no_desk
  have B_law_no_desk := F_law_no_desk.binds (ps := ["_law_amount", "_law_rate"]) fun _ _ _ _ _ _ us hl => match us, hl with | [_, _], _ => rfl
  have F_law := fun_mk (st := s_law) lk_law cd_law_in kp_law
  have B_law := F_law.binds (ps := ["_law_script"]) fun _ _ _ _ _ _ us hl => match us, hl with | [_], _ => rfl
  refine ⟨PySem.W.fnOf "law" "law" (defArgs s_law) (defBody s_law) (defScope s_law) .none kV_law dc_law pm_law an_law cd_law ct_law, fun s v => .of_eq rfl, fun base _ _ => ?_⟩
  let D_need_rate : Df l.prog w K mg base (L2.CX l.prog w) 1 "need_rate" ["rate"] (sp_need_rate T) := ⟨f_need_rate, _, ok_need_rate F_need_rate T , PySem.W.mg_of X G at_need_rate, kp_need_rate, B_need_rate⟩
  let D_checked : Df l.prog w K mg base (L2.CX l.prog w) 2 "checked" ["rates"] (sp_checked T) := ⟨f_checked, _, ok_checked F_checked T D_need_rate, PySem.W.mg_of X G at_checked, kp_checked, B_checked⟩
  let D_grown : Df l.prog w K mg base CX0 1 "grown" ["rates", "start", "end"] (sp_grown T) := ⟨f_grown, _, ok_grown F_grown T , PySem.W.mg_of X G at_grown, kp_grown, B_grown⟩
  let D_need_amount : Df l.prog w K mg base (L2.CX l.prog w) 1 "need_amount" ["amount"] (sp_need_amount T) := ⟨f_need_amount, _, ok_need_amount F_need_amount T , PySem.W.mg_of X G at_need_amount, kp_need_amount, B_need_amount⟩
  let D_Loan_init : Di l.prog w K mg base (L2.CX l.prog w) 3 T.a_Loan "Loan" ["self", "amount", "rates"] (sp_Loan_init T) := ⟨f_Loan_init, _, ok_Loan_init F_Loan_init T D_need_amount D_checked, ⟨mk_Loan, at_Loan_init, is_Loan_init, kc_Loan⟩, PySem.W.mg_of X G ac_Loan, B_Loan_init⟩
  let D_Loan_stand : Dm l.prog w K mg base (L2.CX l.prog w) 2 T.a_Loan "stand" ["self", "day"] (sp_Loan_stand T) := ⟨f_Loan_stand, _, ok_Loan_stand F_Loan_stand T D_grown, ⟨at_Loan_stand, is_Loan_stand, kp_Loan_stand⟩, B_Loan_stand⟩
  let D_Loan_owed : Dm l.prog w K mg base (L2.CX l.prog w) 3 T.a_Loan "owed" ["self", "day"] (sp_Loan_owed T) := ⟨f_Loan_owed, _, ok_Loan_owed F_Loan_owed T D_Loan_stand, ⟨at_Loan_owed, is_Loan_owed, kp_Loan_owed⟩, B_Loan_owed⟩
  let D_Loan_pay : Dm l.prog w K mg base (L2.CX l.prog w) 4 T.a_Loan "pay" ["self", "day", "cents"] (sp_Loan_pay T) := ⟨f_Loan_pay, _, ok_Loan_pay F_Loan_pay T D_Loan_stand D_Loan_owed, ⟨at_Loan_pay, is_Loan_pay, kp_Loan_pay⟩, B_Loan_pay⟩
  let D_Loan_change : Dm l.prog w K mg base (L2.CX l.prog w) 2 T.a_Loan "change" ["self", "day", "rate"] (sp_Loan_change T) := ⟨f_Loan_change, _, ok_Loan_change F_Loan_change T D_need_rate, ⟨at_Loan_change, is_Loan_change, kp_Loan_change⟩, B_Loan_change⟩
  let D_number_of : Df l.prog w K mg base (L2.CX l.prog w) 1 "number_of" ["word"] (sp_number_of T) := ⟨f_number_of, _, ok_number_of F_number_of T , PySem.W.mg_of X G at_number_of, kp_number_of, B_number_of⟩
  let D_read : Df l.prog w K mg base (L2.CX l.prog w) 2 "read" ["line"] (sp_read T) := ⟨f_read, _, ok_read F_read T D_number_of, PySem.W.mg_of X G at_read, kp_read, B_read⟩
  let D_done : Df l.prog w K mg base (L2.CX l.prog w) 5 "done" ["loan", "note"] (sp_done T) := ⟨f_done, _, ok_done F_done T D_Loan_change D_Loan_owed D_Loan_pay, PySem.W.mg_of X G at_done, kp_done, B_done⟩
  let D_answered : Df l.prog w K mg base CX0 6 "answered" ["loan", "line"] (sp_answered T) := ⟨f_answered, _, ok_answered F_answered T D_done D_read, PySem.W.mg_of X G at_answered, kp_answered, B_answered⟩
  let D_desk : Df l.prog w K mg base (L2.CX l.prog w) 7 "desk" ["amount", "rate", "lines"] (sp_desk T) := ⟨f_desk, _, ok_desk F_desk T D_Loan_init D_answered, PySem.W.mg_of X G at_desk, kp_desk, B_desk⟩
  let D_law_cell_at : Df l.prog w K mg base CX0 1 "_law_cell_at" ["_law_script", "_law_k"] (sp_law_cell_at T) := ⟨f_law_cell_at, _, ok_law_cell_at F_law_cell_at T , PySem.W.mg_of X G at_law_cell_at, kp_law_cell_at, B_law_cell_at⟩
  let D_law_mixed : Df l.prog w K mg base CX0 1 "_law_mixed" ["_law_cell", "_law_many"] (sp_law_mixed T) := ⟨f_law_mixed, _, ok_law_mixed F_law_mixed T , PySem.W.mg_of X G at_law_mixed, kp_law_mixed, B_law_mixed⟩
  let D_law_rate_by : Df l.prog w K mg base CX0 2 "_law_rate_by" ["_law_cell"] (sp_law_rate_by T) := ⟨f_law_rate_by, _, ok_law_rate_by F_law_rate_by T D_law_mixed, PySem.W.mg_of X G at_law_rate_by, kp_law_rate_by, B_law_rate_by⟩
  let D_law_sum_by : Df l.prog w K mg base CX0 1 "_law_sum_by" ["_law_row", "_law_start", "_law_end"] (sp_law_sum_by T) := ⟨f_law_sum_by, _, ok_law_sum_by F_law_sum_by T , PySem.W.mg_of X G at_law_sum_by, kp_law_sum_by, B_law_sum_by⟩
  let D_law_amount_by : Df l.prog w K mg base CX0 2 "_law_amount_by" ["_law_cell"] (sp_law_amount_by T) := ⟨f_law_amount_by, _, ok_law_amount_by F_law_amount_by T D_law_mixed, PySem.W.mg_of X G at_law_amount_by, kp_law_amount_by, B_law_amount_by⟩
  let D_law_owed : Df l.prog w K mg base CX0 1 "_law_owed" ["_law_left", "_law_begun"] (sp_law_owed T) := ⟨f_law_owed, _, ok_law_owed F_law_owed T , PySem.W.mg_of X G at_law_owed, kp_law_owed, B_law_owed⟩
  let D_law_parts : Df l.prog w K mg base CX0 1 "_law_parts" ["_law_left", "_law_begun", "_law_cents"] (sp_law_parts T) := ⟨f_law_parts, _, ok_law_parts F_law_parts T , PySem.W.mg_of X G at_law_parts, kp_law_parts, B_law_parts⟩
  let D_law_then : Df l.prog w K mg base CX0 2 "_law_then" ["_law_state", "_law_day"] (sp_law_then T) := ⟨f_law_then, _, ok_law_then F_law_then T D_law_sum_by, PySem.W.mg_of X G at_law_then, kp_law_then, B_law_then⟩
  let D_law_odd_line : Df l.prog w K mg base CX0 1 "_law_odd_line" ["_law_line_here", "_law_cell"] (sp_law_odd_line T) := ⟨f_law_odd_line, _, ok_law_odd_line F_law_odd_line T , PySem.W.mg_of X G at_law_odd_line, kp_law_odd_line, B_law_odd_line⟩
  let D_law_line : Df l.prog w K mg base CX0 3 "_law_line" ["_law_state", "_law_cell"] (sp_law_line T) := ⟨f_law_line, _, ok_law_line F_law_line T D_law_odd_line D_law_mixed D_law_rate_by D_law_owed D_law_then, PySem.W.mg_of X G at_law_line, kp_law_line, B_law_line⟩
  let D_law_paid : Df l.prog w K mg base CX0 3 "_law_paid" ["_law_state", "_law_day", "_law_cents"] (sp_law_paid T) := ⟨f_law_paid, _, ok_law_paid F_law_paid T D_law_then D_law_owed D_law_parts, PySem.W.mg_of X G at_law_paid, kp_law_paid, B_law_paid⟩
  let D_law_answer : Df l.prog w K mg base CX0 4 "_law_answer" ["_law_state", "_law_line_here", "_law_good"] (sp_law_answer T) := ⟨f_law_answer, _, ok_law_answer F_law_answer T D_law_owed D_law_then D_law_paid, PySem.W.mg_of X G at_law_answer, kp_law_answer, B_law_answer⟩
  let D_law_no_desk : Df l.prog w K mg base CX0 8 "_law_no_desk" ["_law_amount", "_law_rate"] (sp_law_no_desk T) := ⟨f_law_no_desk, _, ok_law_no_desk F_law_no_desk T D_desk, PySem.W.mg_of X G at_law_no_desk, kp_law_no_desk, B_law_no_desk⟩
  exact ok_law F_law T D_law_amount_by D_law_cell_at D_law_rate_by D_law_no_desk D_law_line D_law_answer D_desk
theorem walk {l : PySem.W.OpenLaw} {q : Program} {loose : List Str} {XP : (Str → Option Value) → Heap → Prop} {YP : World → Heap → Prop} {d : DefRec} {K : Params → PySem.W.Frag} (hn : l.most = some 63) (hdf : d.params.defaults = [])
    (hY : ∀ (w : World) (h : Heap), YP w h → (K w.params).In h)
    (F : ∀ (w : World) (mg : Str → Option Value) (fa : Addr) (h : Heap), (K w.params).In h → h.Ns mainGlobals mg → mg d.name = some (.ref fa) →
      ∃ fd : FuncData, (∀ (s : Shared) (u : Value), BindsTo s fd ⟨[u], []⟩ [("_law_script", u)]) ∧ ∀ base : Heap, (K w.params).In base → base.Ns mainGlobals mg → FnOk l.prog w (K w.params) mg base CX0 9 fa fd ["_law_script"] (sp_law (K w.params))) :
    PySem.W.WalkO q loose XP YP l.row.toRowW d [] (fun f vs => PySem.call f vs) :=
  L2.walk_of (n := 63) (k := 9) (x := "_law_script") (CX := fun _ => CX0) (sp := fun w => sp_law (K w.params)) hn (by decide) hdf ⟨rfl, by decide, by decide⟩ hY F (fun _ _ a ns hl _ hS => ⟨a, ns, rfl, hS, hl, fun _ => rfl⟩) fun _ _ _ _ _ z => z
end Toy
open PySem PySem.W PyProof.Rows
set_option maxRecDepth 100000 in
set_option maxHeartbeats 0 in
theorem PySem.Challenge.cw_loanplan_k14_whole_desk_holds : PySem.Challenge.rw_loanplan_k14_whole_desk.Holds := by
  w_on; o_law; k_head; (case hw => w_witness2)
  k_fill
  refine Toy.walk (l := PySem.Challenge.rw_loanplan_k14_whole_desk) rfl rfl (fun w h Y => PySem.W.kIn_of Y) ?F
  case F =>
    intro w mg fa h KX G hmg
    refine' Toy.all_mk KX G hmg ?z_len ?z_max ?z_min ?z_int ?z_str ?z_list ?z_range ?z_isinstance ?z_ValueError ?q_MOST_DAY ?q_MOST_RATE ?q_MOST_AMOUNT ?q_MILLION ?q_FIGURES ?q_MOST_FIGURES ?ac_LoanError ?xc_LoanError ?xk_LoanError ?xs_LoanError ?xt_LoanError ?ac_BadAmount ?xc_BadAmount ?xk_BadAmount ?xs_BadAmount ?xt_BadAmount ?ac_BadRate ?xc_BadRate ?xk_BadRate ?xs_BadRate ?xt_BadRate ?ac_BadDay ?xc_BadDay ?xk_BadDay ?xs_BadDay ?xt_BadDay ?ac_BadPay ?xc_BadPay ?xk_BadPay ?xs_BadPay ?xt_BadPay ?ac_NoNote ?xc_NoNote ?xk_NoNote ?xs_NoNote ?xt_NoNote ?ac_Loan ?pg_Loan ?hd_Loan ?po_Loan ?sa_Loan ?mk_Loan ?kc_Loan ?nf_Loan_left ?nf_Loan_begun ?nf_Loan_day ?nf_Loan_rates ?sb_BadAmount_BadAmount ?sb_BadAmount_BadDay ?sb_BadAmount_BadPay ?sb_BadAmount_BadRate ?sb_BadAmount_NoNote ?sb_BadDay_BadAmount ?sb_BadDay_BadDay ?sb_BadDay_BadPay ?sb_BadDay_BadRate ?sb_BadDay_NoNote ?sb_BadPay_BadAmount ?sb_BadPay_BadDay ?sb_BadPay_BadPay ?sb_BadPay_BadRate ?sb_BadPay_NoNote ?sb_BadRate_BadAmount ?sb_BadRate_BadDay ?sb_BadRate_BadPay ?sb_BadRate_BadRate ?sb_BadRate_NoNote ?sb_NoNote_BadAmount ?sb_NoNote_BadDay ?sb_NoNote_BadPay ?sb_NoNote_BadRate ?sb_NoNote_NoNote ?dd_BadAmount ?dd_BadDay ?dd_BadPay ?dd_BadRate ?dd_NoNote ?at_need_rate ?lk_need_rate ?cd_need_rate_in ?kp_need_rate ?at_checked ?lk_checked ?cd_checked_in ?kp_checked ?at_grown ?lk_grown ?cd_grown_in ?kp_grown ?at_need_amount ?lk_need_amount ?cd_need_amount_in ?kp_need_amount ?at_Loan_init ?is_Loan_init ?lk_Loan_init ?cd_Loan_init_in ?kp_Loan_init ?at_Loan_stand ?is_Loan_stand ?lk_Loan_stand ?cd_Loan_stand_in ?kp_Loan_stand ?at_Loan_owed ?is_Loan_owed ?lk_Loan_owed ?cd_Loan_owed_in ?kp_Loan_owed ?at_Loan_pay ?is_Loan_pay ?lk_Loan_pay ?cd_Loan_pay_in ?kp_Loan_pay ?at_Loan_change ?is_Loan_change ?lk_Loan_change ?cd_Loan_change_in ?kp_Loan_change ?at_number_of ?lk_number_of ?cd_number_of_in ?kp_number_of ?at_read ?lk_read ?cd_read_in ?kp_read ?at_done ?lk_done ?cd_done_in ?kp_done ?at_answered ?lk_answered ?cd_answered_in ?kp_answered ?at_desk ?lk_desk ?cd_desk_in ?kp_desk ?at_law_cell_at ?lk_law_cell_at ?cd_law_cell_at_in ?kp_law_cell_at ?at_law_mixed ?lk_law_mixed ?cd_law_mixed_in ?kp_law_mixed ?at_law_rate_by ?lk_law_rate_by ?cd_law_rate_by_in ?kp_law_rate_by ?at_law_sum_by ?lk_law_sum_by ?cd_law_sum_by_in ?kp_law_sum_by ?at_law_amount_by ?lk_law_amount_by ?cd_law_amount_by_in ?kp_law_amount_by ?at_law_owed ?lk_law_owed ?cd_law_owed_in ?kp_law_owed ?at_law_parts ?lk_law_parts ?cd_law_parts_in ?kp_law_parts ?at_law_then ?lk_law_then ?cd_law_then_in ?kp_law_then ?at_law_odd_line ?lk_law_odd_line ?cd_law_odd_line_in ?kp_law_odd_line ?at_law_line ?lk_law_line ?cd_law_line_in ?kp_law_line ?at_law_paid ?lk_law_paid ?cd_law_paid_in ?kp_law_paid ?at_law_answer ?lk_law_answer ?cd_law_answer_in ?kp_law_answer ?at_law_no_desk ?lk_law_no_desk ?cd_law_no_desk_in ?kp_law_no_desk ?at_law ?lk_law ?cd_law_in ?kp_law
    (case z_len => k_is)
    (case z_max => k_is)
    (case z_min => k_is)
    (case z_int => k_is)
    (case z_str => k_is)
    (case z_list => k_is)
    (case z_range => k_is)
    (case z_isinstance => k_is)
    (case z_ValueError => k_is)
    (case q_MOST_DAY => k_is)
    (case q_MOST_RATE => k_is)
    (case q_MOST_AMOUNT => k_is)
    (case q_MILLION => k_is)
    (case q_FIGURES => k_is)
    (case q_MOST_FIGURES => k_is)
    (case ac_LoanError => k_is)
    (case xc_LoanError => k_exc)
    (case xk_LoanError => k_is)
    (case xs_LoanError => k_is)
    (case xt_LoanError => k_is)
    (case ac_BadAmount => k_is)
    (case xc_BadAmount => k_exc)
    (case xk_BadAmount => k_is)
    (case xs_BadAmount => k_is)
    (case xt_BadAmount => k_is)
    (case ac_BadRate => k_is)
    (case xc_BadRate => k_exc)
    (case xk_BadRate => k_is)
    (case xs_BadRate => k_is)
    (case xt_BadRate => k_is)
    (case ac_BadDay => k_is)
    (case xc_BadDay => k_exc)
    (case xk_BadDay => k_is)
    (case xs_BadDay => k_is)
    (case xt_BadDay => k_is)
    (case ac_BadPay => k_is)
    (case xc_BadPay => k_exc)
    (case xk_BadPay => k_is)
    (case xs_BadPay => k_is)
    (case xt_BadPay => k_is)
    (case ac_NoNote => k_is)
    (case xc_NoNote => k_exc)
    (case xk_NoNote => k_is)
    (case xs_NoNote => k_is)
    (case xt_NoNote => k_is)
    (case ac_Loan => k_is)
    (case pg_Loan => k_is)
    (case hd_Loan => k_is)
    (case po_Loan => k_is)
    (case sa_Loan => k_is)
    (case mk_Loan => k_is)
    (case kc_Loan => k_is)
    (case nf_Loan_left => k_is)
    (case nf_Loan_begun => k_is)
    (case nf_Loan_day => k_is)
    (case nf_Loan_rates => k_is)
    (case sb_BadAmount_BadAmount => first | k_is | rfl)
    (case sb_BadAmount_BadDay => first | k_is | rfl)
    (case sb_BadAmount_BadPay => first | k_is | rfl)
    (case sb_BadAmount_BadRate => first | k_is | rfl)
    (case sb_BadAmount_NoNote => first | k_is | rfl)
    (case sb_BadDay_BadAmount => first | k_is | rfl)
    (case sb_BadDay_BadDay => first | k_is | rfl)
    (case sb_BadDay_BadPay => first | k_is | rfl)
    (case sb_BadDay_BadRate => first | k_is | rfl)
    (case sb_BadDay_NoNote => first | k_is | rfl)
    (case sb_BadPay_BadAmount => first | k_is | rfl)
    (case sb_BadPay_BadDay => first | k_is | rfl)
    (case sb_BadPay_BadPay => first | k_is | rfl)
    (case sb_BadPay_BadRate => first | k_is | rfl)
    (case sb_BadPay_NoNote => first | k_is | rfl)
    (case sb_BadRate_BadAmount => first | k_is | rfl)
    (case sb_BadRate_BadDay => first | k_is | rfl)
    (case sb_BadRate_BadPay => first | k_is | rfl)
    (case sb_BadRate_BadRate => first | k_is | rfl)
    (case sb_BadRate_NoNote => first | k_is | rfl)
    (case sb_NoNote_BadAmount => first | k_is | rfl)
    (case sb_NoNote_BadDay => first | k_is | rfl)
    (case sb_NoNote_BadPay => first | k_is | rfl)
    (case sb_NoNote_BadRate => first | k_is | rfl)
    (case sb_NoNote_NoNote => first | k_is | rfl)
    (case dd_BadAmount => k_is)
    (case dd_BadDay => k_is)
    (case dd_BadPay => k_is)
    (case dd_BadRate => k_is)
    (case dd_NoNote => k_is)
    (case at_need_rate => k_is)
    (case lk_need_rate => k_is)
    (case cd_need_rate_in => k_is)
    (case kp_need_rate => k_is)
    (case at_checked => k_is)
    (case lk_checked => k_is)
    (case cd_checked_in => k_is)
    (case kp_checked => k_is)
    (case at_grown => k_is)
    (case lk_grown => k_is)
    (case cd_grown_in => k_is)
    (case kp_grown => k_is)
    (case at_need_amount => k_is)
    (case lk_need_amount => k_is)
    (case cd_need_amount_in => k_is)
    (case kp_need_amount => k_is)
    (case at_Loan_init => k_is)
    (case is_Loan_init => k_is)
    (case lk_Loan_init => k_is)
    (case cd_Loan_init_in => k_is)
    (case kp_Loan_init => k_is)
    (case at_Loan_stand => k_is)
    (case is_Loan_stand => k_is)
    (case lk_Loan_stand => k_is)
    (case cd_Loan_stand_in => k_is)
    (case kp_Loan_stand => k_is)
    (case at_Loan_owed => k_is)
    (case is_Loan_owed => k_is)
    (case lk_Loan_owed => k_is)
    (case cd_Loan_owed_in => k_is)
    (case kp_Loan_owed => k_is)
    (case at_Loan_pay => k_is)
    (case is_Loan_pay => k_is)
    (case lk_Loan_pay => k_is)
    (case cd_Loan_pay_in => k_is)
    (case kp_Loan_pay => k_is)
    (case at_Loan_change => k_is)
    (case is_Loan_change => k_is)
    (case lk_Loan_change => k_is)
    (case cd_Loan_change_in => k_is)
    (case kp_Loan_change => k_is)
    (case at_number_of => k_is)
    (case lk_number_of => k_is)
    (case cd_number_of_in => k_is)
    (case kp_number_of => k_is)
    (case at_read => k_is)
    (case lk_read => k_is)
    (case cd_read_in => k_is)
    (case kp_read => k_is)
    (case at_done => k_is)
    (case lk_done => k_is)
    (case cd_done_in => k_is)
    (case kp_done => k_is)
    (case at_answered => k_is)
    (case lk_answered => k_is)
    (case cd_answered_in => k_is)
    (case kp_answered => k_is)
    (case at_desk => k_is)
    (case lk_desk => k_is)
    (case cd_desk_in => k_is)
    (case kp_desk => k_is)
    (case at_law_cell_at => k_is)
    (case lk_law_cell_at => k_is)
    (case cd_law_cell_at_in => k_is)
    (case kp_law_cell_at => k_is)
    (case at_law_mixed => k_is)
    (case lk_law_mixed => k_is)
    (case cd_law_mixed_in => k_is)
    (case kp_law_mixed => k_is)
    (case at_law_rate_by => k_is)
    (case lk_law_rate_by => k_is)
    (case cd_law_rate_by_in => k_is)
    (case kp_law_rate_by => k_is)
    (case at_law_sum_by => k_is)
    (case lk_law_sum_by => k_is)
    (case cd_law_sum_by_in => k_is)
    (case kp_law_sum_by => k_is)
    (case at_law_amount_by => k_is)
    (case lk_law_amount_by => k_is)
    (case cd_law_amount_by_in => k_is)
    (case kp_law_amount_by => k_is)
    (case at_law_owed => k_is)
    (case lk_law_owed => k_is)
    (case cd_law_owed_in => k_is)
    (case kp_law_owed => k_is)
    (case at_law_parts => k_is)
    (case lk_law_parts => k_is)
    (case cd_law_parts_in => k_is)
    (case kp_law_parts => k_is)
    (case at_law_then => k_is)
    (case lk_law_then => k_is)
    (case cd_law_then_in => k_is)
    (case kp_law_then => k_is)
    (case at_law_odd_line => k_is)
    (case lk_law_odd_line => k_is)
    (case cd_law_odd_line_in => k_is)
    (case kp_law_odd_line => k_is)
    (case at_law_line => k_is)
    (case lk_law_line => k_is)
    (case cd_law_line_in => k_is)
    (case kp_law_line => k_is)
    (case at_law_paid => k_is)
    (case lk_law_paid => k_is)
    (case cd_law_paid_in => k_is)
    (case kp_law_paid => k_is)
    (case at_law_answer => k_is)
    (case lk_law_answer => k_is)
    (case cd_law_answer_in => k_is)
    (case kp_law_answer => k_is)
    (case at_law_no_desk => k_is)
    (case lk_law_no_desk => k_is)
    (case cd_law_no_desk_in => k_is)
    (case kp_law_no_desk => k_is)
    (case at_law => k_is)
    (case lk_law => k_is)
    (case cd_law_in => k_is)
    (case kp_law => k_is)
