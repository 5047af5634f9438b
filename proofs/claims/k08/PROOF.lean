import PyProof.Rows.All
import Wide.All
import OpenK.AllK
import Wide.FinOn
import HandS.ForMost
import HandS.ForExc
import HandS.Evl
import HandS.IsInst
import HandS.TryMany
import HandS.TryOnly
import HandS.Style
import HandS.Conv
import HandS.FStr
import HandS.EndBits
import HandS.HotCalls
import HandS.ExcIs
import PySem.Challenge.RW_loanplan_k08_whole_days_walked
set_option Elab.async false
set_option linter.all false
set_option maxRecDepth 100000
set_option maxHeartbeats 4000000
/-! ### short words -/
namespace L2
open PySem PySem.Spec PyProof.Rows
section
variable {X : Cx}
/-- * of ints of any size that the machine takes -/
theorem op_mulX : OpR X (binaryOp .Mult) (rI IntMulOk fun i j => .int (i * j)) := opI fun _ _ _ _ _ _ _ hc q => mul_int q hc
end
/-- a def of the text with its promise, as its callers see it -/
structure Df (P : Program) (w : World) (K : PySem.W.Frag) (mg : Str → Option Value) (base : Heap) (CX : CXT) (k : Nat) (x : Str) (ps : List Str) (sp : Sp) where
  f : Addr
  fd : FuncData
  G : FnOk P w K mg base CX k f fd ps sp
  m : mg x = some (.ref f)
  kp : PySem.W.keepIn K (.ref f) = true
  b : Binds K fd ps []
/-- a method of the class at C -/
structure Dm (P : Program) (w : World) (K : PySem.W.Frag) (mg : Str → Option Value) (base : Heap) (CX : CXT) (k : Nat) (C : Addr) (x : Str) (ps : List Str) (sp : Sp) where
  f : Addr
  fd : FuncData
  G : FnOk P w K mg base CX k f fd ps sp
  me : Meth K C x f
  b : Binds K fd ps []
/-- the class's __init__ -/
structure Di (P : Program) (w : World) (K : PySem.W.Frag) (mg : Str → Option Value) (base : Heap) (CX : CXT) (k : Nat) (C : Addr) (x : Str) (ps : List Str) (sp : Sp) where
  f : Addr
  fd : FuncData
  G : FnOk P w K mg base CX k f fd ps sp
  mC : Mk K C f
  g : mg x = some (.ref C)
  b : Binds K fd ps []
section
variable {X : Cx} {k j : Nat} {x m : Str} {ps : List Str} {sp : Sp} {e o : Expr} {es : List Expr} {t : TA} {ta : TE} {p pos apos : Pos} {C : Addr}
/-- a call of a def that lets nothing out -/
theorem pc0 (D : Df X.prog X.w X.K X.mg X.base CX0 k x ps sp) (hr : Room j X.A) (ha : PA X (e :: es) t) (hle : k ≤ j := by decide) (hg : Gl X x := by rfl) (hdb : (x == ("__debug__" : Str)) = false := by decide) (he : starEach (e :: es) X.env = (false, eval e X.env) :: starEach es X.env := by rfl) (hpl : (backTo pos (starEach es X.env)).any (·.1) = false := by rfl) :
    PE X (.Call (.Name x p) (e :: es) [] pos) (tCall sp [] E0 t) := pe_call D.G (hr.mono hle) hg D.m D.kp D.b .nil pass0 ha hdb he hpl
/-- a call of a def that may raise, where nothing may be let out -/
theorem pcL (D : Df X.prog X.w X.K X.mg X.base (L2.CX X.prog X.w) k x ps sp) (hr : Room j X.A) (ha : PA X (e :: es) t) (hle : k ≤ j := by decide) (hg : Gl X x := by rfl) (hdb : (x == ("__debug__" : Str)) = false := by decide) (he : starEach (e :: es) X.env = (false, eval e X.env) :: starEach es X.env := by rfl) (hpl : (backTo pos (starEach es X.env)).any (·.1) = false := by rfl) :
    PE X (.Call (.Name x p) (e :: es) [] pos) (tCall sp [] E0 t) := pe_call D.G (hr.mono hle) hg D.m D.kp D.b .nil passL ha hdb he hpl
end
section
variable {X : Cx} {x : Str} {pos : Pos}
theorem pe_gint {i : Int} (hm : ∃ t, X.mg x = some (.int i t)) (hg : Gl X x := by rfl) (hd : (x == ("__debug__" : Str)) = false := by decide) : PE X (.Name x pos) (tC (.int i)) := by
  obtain ⟨t, hm⟩ := hm
  exact pe_glob hg hm ⟨t, rfl⟩ hd
theorem pe_gstr {z : Str} (hm : ∃ t, X.mg x = some (.str z t)) (hg : Gl X x := by rfl) (hd : (x == ("__debug__" : Str)) = false := by decide) : PE X (.Name x pos) (tC (.str z)) := by
  obtain ⟨t, hm⟩ := hm
  exact pe_glob hg hm ⟨t, rfl⟩ hd
end
theorem pe_gref {X : Cx} {x : Str} {pos : Pos} {a : Addr} (hm : X.mg x = some (.ref a)) (hg : Gl X x := by rfl) (hd : (x == ("__debug__" : Str)) = false := by decide) : PE X (.Name x pos) (tC (.ref a)) := pe_glob hg hm rfl hd
/-- what the top says of an own exception class -/
structure ExC (K : PySem.W.Frag) (C : Addr) : Prop where
  x : PySem.W.excIn K C [.type "ValueError", .type "Exception", .type "BaseException", .type "object"] "ValueError.__new__" = true
  k : PySem.W.keepIn K (.ref C) = true
  s : PySem.W.subIn K (.ref C) (.type "BaseException") = some true
  t : PySem.W.typeIn K (.ref C) = some (.type "type")
theorem md {j : Int} (h : 0 < j := by decide) : 0 < j := h
theorem dv {i j : Int} (h : 0 < j := by decide) (h2 : j < 1073741824 := by decide) : CDiv i j := ⟨h, h2⟩
theorem mulR {i j : Int} (h : Builtin.Int.intBits j ≤ 64 := by decide) : IntMulOk i j := IntMulOk.of_right h
theorem mulL {i j : Int} (h : Builtin.Int.intBits i ≤ 64 := by decide) : IntMulOk i j := IntMulOk.of_left h
/-! ### ifs -/
theorem ifd {c A B : Prop} [Decidable c] (h1 : c → A) (h2 : ¬ c → B) : if decide c = true then A else B := by
  by_cases h : c
  · rw [if_pos (decide_eq_true h)]
    exact h1 h
  · rw [if_neg (by rw [decide_eq_false h]; exact Bool.false_ne_true)]
    exact h2 h
theorem ifdn {c A B : Prop} [Decidable c] (h1 : ¬ c → A) (h2 : c → B) : if (!decide c) = true then A else B := by
  by_cases h : c
  · rw [if_neg (by rw [decide_eq_true h]; decide)]
    exact h2 h
  · rw [if_pos (by rw [decide_eq_false h]; rfl)]
    exact h1 h
theorem if_eq {i j : Int} {A B : Prop} (h1 : i = j → A) (h2 : i ≠ j → B) : if decide (V.int i = V.int j) = true then A else B := ifd (fun h => h1 (V.int.inj h)) (fun h => h2 fun e => h (by rw [e]))
theorem if_ne {i j : Int} {A B : Prop} (h1 : i ≠ j → A) (h2 : i = j → B) : if (!decide (V.int i = V.int j)) = true then A else B := ifdn (fun h => h1 fun e => h (by rw [e])) (fun h => h2 (V.int.inj h))
theorem ifb {b : Bool} {A B : Prop} (h1 : b = true → A) (h2 : b = false → B) : if b = true then A else B := by
  cases b with
  | true => rw [if_pos rfl]; exact h1 rfl
  | false => rw [if_neg Bool.false_ne_true]; exact h2 rfl
theorem ifnT {A B : Prop} (h : B) : if (!true) = true then A else B := h
theorem ifnF {A B : Prop} (h : A) : if (!false) = true then A else B := h
theorem decT {c : Prop} [Decidable c] (h : c) : decide c = true := decide_eq_true h
/-- what follows, of an equal value -/
theorem vq {Q : V → Hp → Prop} {v u : V} {H : Hp} (e : v = u) (q : Q u H) : Q v H := by
  rw [e]
  exact q
theorem eqInt {i j : Int} (h : i = j) : decide (V.int i = V.int j) = true := decide_eq_true (by rw [h])
/-! ### heaps -/
theorem Same.upd {H H' : Hp} (e : Same H H') {p : Addr} {o : HO} (h : H' p = none) : Same H (L2.upd H' p o) := fun b u q => by
  rw [upd_ne (ne_of_none (e b u q) h)]
  exact e b u q
theorem Same.new {H : Hp} {p : Addr} {o : HO} (h : H p = none) : Same H (L2.upd H p o) := Same.upd (Same.refl H) h
/-- an object that H does not know may change -/
theorem Same.mut {H H' : Hp} (e : Same H H') {p : Addr} {o : HO} (h : H p = none) : Same H (L2.upd H' p o) := fun b u q => by
  rw [upd_ne (ne_of_none q h)]
  exact e b u q
theorem Same.seqT {K : PySem.W.Frag} {H H' : Hp} {a : Addr} {xs : List V} (e : Same H H') (h : SqT K H a xs) : SqT K H' a xs := by
  rcases h with (h | ⟨o, h⟩) | h
  · exact .inl (.inl (e _ _ h))
  · exact .inl (.inr ⟨o, e _ _ h⟩)
  · exact .inr h
theorem pow62 {i : Int} (h0 : 0 ≤ i) (h1 : i ≤ 1000000) : -(2 ^ 62) ≤ i ∧ i < 2 ^ 62 := ⟨by omega, by omega⟩
theorem sz_small {n : Nat} (h : n ≤ 100000) : n ≤ sizeLine := Nat.le_trans h (by decide)
theorem szl {xs : List V} (n : Nat) (h : xs.length = n := by rfl) (h2 : n ≤ 100000 := by decide) : xs.length ≤ sizeLine := by rw [h]; exact sz_small h2
theorem sz_lt {n : Nat} (h : n < 100000) : n < sizeLine := Nat.lt_of_lt_of_le h (by decide)
theorem at0 {xs : List V} {v : V} (h : xs[0]? = some v) : atI xs 0 = some v := atI_nat (j := 0) h
theorem at_m {α : Type} {f : α → V} {l : List α} {z : Int} {j : Nat} {a : α} (e : z = (j : Int)) (h : l[j]? = some a) : atI (l.map f) z = some (f a) := at_of e (by rw [List.getElem?_map, h]; rfl)
theorem map_get {α : Type} {f : α → V} {l : List α} {j : Nat} {v : V} (h : (l.map f)[j]? = some v) : ∃ a, l[j]? = some a ∧ v = f a := by
  rw [List.getElem?_map] at h
  cases e : l[j]? with
  | none => rw [e] at h; cases h
  | some a => rw [e] at h; exact ⟨a, rfl, (Option.some.inj h).symm⟩
end L2

local macro_rules | `(tactic| walk_at "rd1") => `(tactic| first
  | refine ⟨_, rfl, ?_⟩
  | refine ⟨_, _, rfl, rfl, ?_⟩
  | refine ⟨L2.dv, ?_⟩
  | refine ⟨L2.md, ?_⟩
  | refine ⟨L2.mulL, ?_⟩
  | refine ⟨L2.mulR, ?_⟩
  | refine ⟨rfl, ?_⟩
  | refine ⟨_, _, _, rfl, by assumption, by decide, ?_⟩
  | refine ⟨_, _, rfl, ?_⟩)
local macro_rules | `(tactic| walk_at "rd") => `(tactic| repeat (walk_at "rd1"))
/-! ### the mathematics: what the program and the laws reckon, as plain functions -/
namespace Toy
/-- a cell of the script -/
def cellAt (ns : List Int) (k : Int) : Int := ns.getD k.toNat 0
def mixed (c m : Int) : Int := (c * 48271 + 12345) % 2147483647 % m
theorem mixed_ge {c m : Int} (h : 0 < m) : 0 ≤ mixed c m := Int.emod_nonneg _ (by omega)
theorem mixed_lt {c m : Int} (h : 0 < m) : mixed c m < m := Int.emod_lt_of_pos _ h
def rateBy (c : Int) : Int := if c % 5 = 0 then ([0, 1, 99999, 100000] : List Int).getD (c / 5 % 4).toNat 0 else if c % 5 = 1 then c / 5 % 400 else mixed c 100001
theorem rateBy_ok (c : Int) : 0 ≤ rateBy c ∧ rateBy c ≤ 100000 := by
  unfold rateBy
  split
  · have h0 : 0 ≤ c / 5 % 4 := by omega
    have h1 : c / 5 % 4 < 4 := by omega
    obtain ⟨j, ej⟩ : ∃ j : Nat, c / 5 % 4 = (j : Int) := ⟨(c / 5 % 4).toNat, by omega⟩
    rw [ej]
    have hj : j < 4 := by omega
    match j, hj with
    | 0, _ => decide
    | 1, _ => decide
    | 2, _ => decide
    | 3, _ => decide
  · split
    · omega
    · have h1 := mixed_ge (c := c) (m := 100001) (by decide)
      have h2 := mixed_lt (c := c) (m := 100001) (by decide)
      omega
abbrev Pr := Int × Int
/-- the last pair's day -/
def lastDay (ps : List Pr) : Int := (ps.getLastD (0, 0)).1
def rowUp (c wide : Int) : Nat → List Pr
  | 0 => [(0, rateBy c)]
  | n + 1 => rowUp c wide n ++ [(lastDay (rowUp c wide n) + 1 + mixed (c + 13 * ((n : Int) + 1)) wide, rateBy (c / 7 + 31 * ((n : Int) + 1)))]
def rowBy (c many wide : Int) : List Pr := rowUp c wide (many - 1).toNat
theorem rowUp_len (c wide : Int) : ∀ n, (rowUp c wide n).length = n + 1
  | 0 => rfl
  | n + 1 => by
    show (rowUp c wide n ++ [_]).length = _
    rw [List.length_append, rowUp_len c wide n]
    rfl
/-- the days go up, behind d -/
def Up : Int → List Pr → Prop
  | _, [] => True
  | d, p :: r => d < p.1 ∧ Up p.1 r
theorem Up.snoc : ∀ {d : Int} {ps : List Pr} {p : Pr}, Up d ps → (ps.getLastD (d, 0)).1 < p.1 → Up d (ps ++ [p])
  | d, [], p, _, h => ⟨h, trivial⟩
  | d, q :: r, p, h, h2 => by
    refine ⟨h.1, Up.snoc (d := q.1) (ps := r) h.2 ?_⟩
    cases r with
    | nil => exact h2
    | cons a b => exact h2
/-- a good row of rates -/
structure Good (ps : List Pr) : Prop where
  ne : ∃ r rest, ps = (0, r) :: rest
  up : Up (-1) ps
  rate : ∀ p ∈ ps, 0 ≤ p.2 ∧ p.2 ≤ 100000
theorem getLastD_append {α : Type} (l : List α) (a d : α) : (l ++ [a]).getLastD d = a := by
  rw [List.getLastD_eq_getLast?, List.getLast?_append]
  rfl
theorem lastDay_ge {ps : List Pr} (g : Good ps) : 0 ≤ lastDay ps := by
  obtain ⟨r, rest, rfl⟩ := g.ne
  have h2 : Up 0 rest := g.up.2
  clear g
  have go : ∀ (l : List Pr) (q : Pr), 0 ≤ q.1 → Up q.1 l → 0 ≤ ((q :: l).getLastD (0, 0)).1 := by
    intro l
    induction l with
    | nil => intro q h _; exact h
    | cons a b ih => intro q h u; exact ih a (by have := u.1; omega) u.2
  exact go rest (0, r) (by show (0 : Int) ≤ 0; decide) h2
theorem getLastD_ne {α : Type} : ∀ {l : List α} (_ : l ≠ []) (a b : α), l.getLastD a = l.getLastD b
  | [], h, _, _ => absurd rfl h
  | _ :: _, _, _, _ => rfl
theorem Good.snoc {ps : List Pr} {p : Pr} (g : Good ps) (h : lastDay ps < p.1) (h0 : 0 ≤ p.2) (h1 : p.2 ≤ 100000) : Good (ps ++ [p]) := by
  refine ⟨?_, g.up.snoc ?_, ?_⟩
  · obtain ⟨r, rest, rfl⟩ := g.ne
    exact ⟨r, rest ++ [p], rfl⟩
  · obtain ⟨r, rest, e⟩ := g.ne
    rw [getLastD_ne (by rw [e]; simp) _ (0, 0)]
    exact h
  · intro q hq
    rcases List.mem_append.mp hq with e | e
    · exact g.rate q e
    · have e2 : q = p := by simpa using e
      rw [e2]
      exact ⟨h0, h1⟩
theorem rowUp_good {c wide : Int} (hw : 0 < wide) : ∀ n, Good (rowUp c wide n) ∧ lastDay (rowUp c wide n) ≤ n * wide
  | 0 => ⟨⟨⟨_, _, rfl⟩, ⟨by show (-1 : Int) < 0; decide, trivial⟩, fun p hp => by
      have e : p = (0, rateBy c) := by simpa [rowUp] using hp
      rw [e]
      exact rateBy_ok c⟩, by show (0 : Int) ≤ _; simp⟩
  | n + 1 => by
    obtain ⟨g, l⟩ := rowUp_good (c := c) hw n
    have h1 := mixed_ge (c := c + 13 * ((n : Int) + 1)) hw
    have h2 := mixed_lt (c := c + 13 * ((n : Int) + 1)) hw
    have h3 := rateBy_ok (c / 7 + 31 * ((n : Int) + 1))
    refine ⟨g.snoc (by show lastDay _ < lastDay _ + 1 + _; omega) h3.1 h3.2, ?_⟩
    unfold lastDay at l ⊢
    show ((rowUp c wide n ++ [_]).getLastD (0, 0)).1 ≤ _
    rw [getLastD_append]
    show lastDay _ + 1 + _ ≤ _
    have e : ((n + 1 : Nat) : Int) * wide = n * wide + wide := by
      rw [Int.natCast_add, Int.add_mul]
      simp
    rw [e]
    unfold lastDay
    omega
/-- the rate of a day -/
def rateOn (ps : List Pr) (d : Int) : Int := ps.foldl (fun f p => if p.1 ≤ d then p.2 else f) 0
end Toy
namespace Toy
theorem rateOn_at {A B : List Pr} {p : Pr} {d : Int} (h : p.1 ≤ d) (hB : ∀ q ∈ B, d < q.1) : rateOn (A ++ p :: B) d = p.2 := by
  unfold rateOn
  rw [List.foldl_append, List.foldl_cons, if_pos h]
  generalize p.2 = x
  clear h
  induction B with
  | nil => rfl
  | cons q B ih =>
    rw [List.foldl_cons, if_neg (by have := hB q (by simp); omega)]
    exact ih fun u hu => hB u (by simp [hu])
/-- by the place in the row -/
theorem rateOn_place {ps : List Pr} {j : Nat} {p : Pr} {d : Int} (hj : ps[j]? = some p) (h : p.1 ≤ d) (hB : ∀ (i : Nat) q, j < i → ps[i]? = some q → d < q.1) : rateOn ps d = p.2 := by
  have hl := (List.getElem?_eq_some_iff.mp hj).1
  have e : ps = ps.take j ++ p :: ps.drop (j + 1) := by
    have h2 : ps[j] = p := (List.getElem?_eq_some_iff.mp hj).2
    rw [← h2, List.getElem_cons_drop, List.take_append_drop]
  rw [e]
  refine rateOn_at h fun q hq => ?_
  obtain ⟨i, hi⟩ := List.mem_iff_getElem?.mp hq
  rw [List.getElem?_drop] at hi
  exact hB (j + 1 + i) q (by omega) hi
theorem rowBy_len {c many wide : Int} (h : 1 ≤ many) : (rowBy c many wide).length = many.toNat := by
  unfold rowBy
  rw [rowUp_len]
  omega
theorem rowBy_good {c many wide : Int} (hw : 0 < wide) : Good (rowBy c many wide) := (rowUp_good hw _).1
theorem rowBy_last {c many wide : Int} (hw : 0 < wide) (h : 1 ≤ many) : lastDay (rowBy c many wide) ≤ (many - 1) * wide := by
  have := (rowUp_good (c := c) hw (many - 1).toNat).2
  have e : (((many - 1).toNat : Nat) : Int) = many - 1 := by omega
  rw [e] at this
  exact this
theorem Good.first {ps : List Pr} (g : Good ps) : ∃ r, ps[0]? = some (0, r) := by
  obtain ⟨r, rest, e⟩ := g.ne
  exact ⟨r, by rw [e]; rfl⟩
theorem get_of {α : Type} {l : List α} {j : Nat} (h : j < l.length) : ∃ a, l[j]? = some a := ⟨l[j], List.getElem?_eq_getElem h⟩
end Toy
namespace Toy
theorem cellAt_bits {ns : List Int} (hb : ∀ z ∈ ns, PySem.Builtin.Int.intBits z ≤ 1048576) (k : Int) : PySem.Builtin.Int.intBits (cellAt ns k) ≤ 1048576 := by
  unfold cellAt
  rw [List.getD_eq_getElem?_getD]
  cases e : ns[k.toNat]? with
  | none => decide
  | some z => exact hb z (List.mem_of_getElem? e)
end Toy
/-! ### rows of rates in the heap -/
namespace Toy
open PySem L2
/-- a pair's address, its day, its rate -/
abbrev Trp := Addr × Int × Int
def rowV (ts : List Trp) : List V := ts.map fun t => V.ref t.1
def vals (ts : List Trp) : List Pr := ts.map fun t => t.2
def tupV (p : Pr) : HO := .tup [.int p.1, .int p.2]
def Prs (H : Hp) (ts : List Trp) : Prop := ∀ t ∈ ts, H t.1 = some (tupV t.2)
structure Row (H : Hp) (l : Addr) (ts : List Trp) : Prop where
  lst : H l = some (.lst (rowV ts))
  prs : Prs H ts
theorem rowV_len (ts : List Trp) : (rowV ts).length = ts.length := by unfold rowV; rw [List.length_map]
theorem vals_len (ts : List Trp) : (vals ts).length = ts.length := by unfold vals; rw [List.length_map]
theorem rowV_append (a b : List Trp) : rowV (a ++ b) = rowV a ++ rowV b := by unfold rowV; rw [List.map_append]
theorem vals_append (a b : List Trp) : vals (a ++ b) = vals a ++ vals b := by unfold vals; rw [List.map_append]
theorem Prs.same {H H' : Hp} {ts : List Trp} (h : Prs H ts) (e : Same H H') : Prs H' ts := fun t ht => e _ _ (h t ht)
/-- a list may change, the pairs stay -/
theorem Prs.lst {H : Hp} {ts : List Trp} {l : Addr} {xs ys : List V} (h : Prs H ts) (hl : H l = some (.lst xs)) : Prs (L2.upd H l (.lst ys)) ts := fun t ht => by
  have q := h t ht
  rw [L2.upd_ne (ne_of q hl (by intro z; cases z))]
  exact q
theorem Row.same {H H' : Hp} {l : Addr} {ts : List Trp} (R : Row H l ts) (e : Same H H') : Row H' l ts := ⟨e _ _ R.lst, R.prs.same e⟩
theorem Row.seq {K : PySem.W.Frag} {H : Hp} {l : Addr} {ts : List Trp} (R : Row H l ts) : SqL K H l (rowV ts) := SqL.of R.lst
theorem Row.get {H : Hp} {l : Addr} {ts : List Trp} (R : Row H l ts) {j : Nat} {p : Pr} (h : (vals ts)[j]? = some p) : ∃ a, (rowV ts)[j]? = some (.ref a) ∧ H a = some (tupV p) ∧ (a, p) ∈ ts := by
  unfold vals at h
  rw [List.getElem?_map] at h
  cases e : ts[j]? with
  | none => rw [e] at h; cases h
  | some t =>
    rw [e] at h
    obtain rfl : t.2 = p := Option.some.inj h
    have m := List.mem_of_getElem? e
    exact ⟨t.1, by unfold rowV; rw [List.getElem?_map, e]; rfl, R.prs t m, m⟩
theorem Row.getV {H : Hp} {l : Addr} {ts : List Trp} (R : Row H l ts) {j : Nat} {v : V} (h : (rowV ts)[j]? = some v) : ∃ a p, v = .ref a ∧ (vals ts)[j]? = some p ∧ H a = some (tupV p) := by
  obtain ⟨t, e, rfl⟩ := map_get h
  exact ⟨t.1, t.2, rfl, by unfold vals; rw [List.getElem?_map, e]; rfl, R.prs t (List.mem_of_getElem? e)⟩
theorem Row.at {H : Hp} {l : Addr} {ts : List Trp} (R : Row H l ts) {z : Int} {j : Nat} {p : Pr} (e : z = (j : Int)) (h : (vals ts)[j]? = some p) : ∃ a, atI (rowV ts) z = some (.ref a) ∧ H a = some (tupV p) := by
  obtain ⟨a, h1, h2, _⟩ := R.get h
  exact ⟨a, at_of e h1, h2⟩
theorem snoc_of {α : Type} : ∀ {l : List α}, l ≠ [] → ∃ r a, l = r ++ [a]
  | [], h => absurd rfl h
  | [a], _ => ⟨[], a, rfl⟩
  | a :: b :: l, _ => by
    obtain ⟨r, c, e⟩ := snoc_of (l := b :: l) (by simp)
    exact ⟨a :: r, c, by rw [e]; rfl⟩
theorem Row.last {H : Hp} {l : Addr} {ts : List Trp} (R : Row H l ts) (h : ts ≠ []) : ∃ a r, atI (rowV ts) (-1) = some (.ref a) ∧ H a = some (tupV (lastDay (vals ts), r)) ∧ (vals ts).getLast? = some (lastDay (vals ts), r) := by
  obtain ⟨q, t, rfl⟩ := snoc_of h
  have e : lastDay (vals (q ++ [t])) = t.2.1 := by
    unfold lastDay
    rw [vals_append]
    exact congrArg Prod.fst (getLastD_append _ _ _)
  refine ⟨t.1, t.2.2, ?_, ?_, ?_⟩
  · rw [rowV_append]
    exact atI_last _ _
  · rw [e]
    exact R.prs t (by simp)
  · rw [e, vals_append, List.getLast?_append]
    rfl
theorem Row.snoc {H : Hp} {l p : Addr} {ts : List Trp} (R : Row H l ts) (d r : Int) (hp : H p = some (tupV (d, r))) : Row (L2.upd H l (.lst (rowV ts ++ [.ref p]))) l (ts ++ [(p, d, r)]) := by
  refine ⟨by rw [rowV_append]; exact upd_same, ?_⟩
  have q : Prs H (ts ++ [(p, d, r)]) := fun t ht => by
    rcases List.mem_append.mp ht with e | e
    · exact R.prs t e
    · obtain rfl : t = (p, d, r) := by simpa using e
      exact hp
  exact q.lst R.lst
theorem vals_ne {ts : List Trp} (h : vals ts ≠ []) : ts ≠ [] := fun e => h (by rw [e]; rfl)
theorem good_ne {ts : List Trp} (g : Good (vals ts)) : ts ≠ [] := by
  obtain ⟨r, rest, e⟩ := g.ne
  exact vals_ne (by rw [e]; simp)
/-- the data of a row -/
def prD (p : Pr) : PyData := .tuple [.int p.1, .int p.2]
def rowD (ps : List Pr) : PyData := .list (ps.map prD)
theorem prs_dp {K : PySem.W.Frag} {H : Hp} : ∀ {ts : List Trp}, Prs H ts → DpAll K H (rowV ts) ((vals ts).map prD)
  | [], _ => .nil
  | t :: r, h => .cons (.tup (SqT.of (h t (by simp))) (.cons (.int _) (.cons (.int _) .nil))) (prs_dp fun u hu => h u (by simp [hu]))
theorem Row.dp {K : PySem.W.Frag} {H : Hp} {l : Addr} {ts : List Trp} (R : Row H l ts) : Dp K H (.ref l) (rowD (vals ts)) := .lst R.seq (prs_dp R.prs)
theorem can_all {α : Type} {f : α → PyData} (h : ∀ a, (f a).canLay0 = true) : ∀ l : List α, PyData.canLayAll0 (l.map f) = true
  | [] => by simp only [List.map_nil, PyData.canLayAll0]
  | a :: l => by simp only [List.map_cons, PyData.canLayAll0, h a, can_all h l, Bool.and_self]
theorem dep_all {α : Type} {f : α → PyData} {n : Nat} (h : ∀ a, (f a).depth ≤ n) : ∀ l : List α, PyData.depthAll (l.map f) ≤ n
  | [] => by simp only [List.map_nil, PyData.depthAll, Nat.zero_le]
  | a :: l => by
    have h1 := h a
    have h2 := dep_all h l
    simp only [List.map_cons, PyData.depthAll]
    omega
theorem shaped_of {d : PyData} (h1 : d.canLay0 = true) (h2 : d.depth ≤ 64) : SeqAt.shaped d = true := by
  unfold SeqAt.shaped
  rw [h1, decide_eq_true h2]
  rfl
/-- a tuple of ints, a list of ints -/
def tupD (l : List Int) : PyData := .tuple (l.map .int)
def intsD (l : List Int) : PyData := .list (l.map .int)
theorem int_can (i : Int) : (PyData.int i).canLay0 = true := by simp only [PyData.canLay0]
theorem int_dep (i : Int) : (PyData.int i).depth ≤ 0 := by simp only [PyData.depth, Nat.le_refl]
theorem tupD_can (l : List Int) : (tupD l).canLay0 = true := by
  unfold tupD
  simp only [PyData.canLay0]
  exact can_all int_can l
theorem tupD_dep (l : List Int) : (tupD l).depth ≤ 1 := by
  unfold tupD
  simp only [PyData.depth]
  have := dep_all int_dep l
  omega
theorem intsD_can (l : List Int) : (intsD l).canLay0 = true := by
  unfold intsD
  simp only [PyData.canLay0]
  exact can_all int_can l
theorem intsD_dep (l : List Int) : (intsD l).depth ≤ 1 := by
  unfold intsD
  simp only [PyData.depth]
  have := dep_all int_dep l
  omega
theorem tupD_shaped (l : List Int) : SeqAt.shaped (tupD l) = true := shaped_of (tupD_can l) (Nat.le_trans (tupD_dep l) (by decide))
theorem intsD_shaped (l : List Int) : SeqAt.shaped (intsD l) = true := shaped_of (intsD_can l) (Nat.le_trans (intsD_dep l) (by decide))
theorem prD_eq (p : Pr) : prD p = tupD [p.1, p.2] := rfl
theorem rowD_can (ps : List Pr) : (rowD ps).canLay0 = true := by
  unfold rowD
  simp only [PyData.canLay0]
  exact can_all (fun p => tupD_can [p.1, p.2]) ps
theorem rowD_dep (ps : List Pr) : (rowD ps).depth ≤ 2 := by
  unfold rowD
  simp only [PyData.depth]
  have := dep_all (f := prD) (n := 1) (fun p => tupD_dep [p.1, p.2]) ps
  omega
theorem rowD_shaped (ps : List Pr) : SeqAt.shaped (rowD ps) = true := shaped_of (rowD_can ps) (Nat.le_trans (rowD_dep ps) (by decide))
theorem rowD_eqv (ps : List Pr) : PyData.eqv (rowD ps) (rowD ps) = true := SeqAt.eqv_refl _ (rowD_can ps)
theorem tupD_eqv (l : List Int) : PyData.eqv (tupD l) (tupD l) = true := SeqAt.eqv_refl _ (tupD_can l)
theorem intsD_eqv (l : List Int) : PyData.eqv (intsD l) (intsD l) = true := SeqAt.eqv_refl _ (intsD_can l)
theorem ints_dpAll {K : PySem.W.Frag} {H : Hp} : ∀ l : List Int, DpAll K H (l.map V.int) (l.map PyData.int)
  | [] => .nil
  | i :: l => .cons (.int i) (ints_dpAll l)
theorem tup_dp {K : PySem.W.Frag} {H : Hp} {a : Addr} {l : List Int} (h : SqT K H a (l.map V.int)) : Dp K H (.ref a) (tupD l) := .tup h (ints_dpAll l)
theorem ints_dp {K : PySem.W.Frag} {H : Hp} {a : Addr} {l : List Int} (h : SqL K H a (l.map V.int)) : Dp K H (.ref a) (intsD l) := .lst h (ints_dpAll l)
/-- two rows that say the same -/
theorem row_eq {K : PySem.W.Frag} {H : Hp} {a b : Addr} {ts us : List Trp} {Q : V → Hp → Prop} (R : Row H a ts) (S : Row H b us) (e : vals ts = vals us) (q : Q (.bl true) H) : rEqD K (.ref a) (.ref b) H Q :=
  ⟨_, _, R.dp, S.dp, rowD_shaped _, rowD_shaped _, by rw [e, rowD_eqv]; exact q⟩
theorem row_ne {K : PySem.W.Frag} {H : Hp} {a b : Addr} {ts us : List Trp} {Q : V → Hp → Prop} (R : Row H a ts) (S : Row H b us) (e : vals ts = vals us) (q : Q (.bl false) H) : rNeD K (.ref a) (.ref b) H Q :=
  ⟨_, _, R.dp, S.dp, rowD_shaped _, rowD_shaped _, by rw [e, rowD_eqv]; exact q⟩
theorem tups_eq {K : PySem.W.Frag} {H : Hp} {a b : Addr} {l : List Int} {Q : V → Hp → Prop} (h1 : SqT K H a (l.map V.int)) (h2 : SqT K H b (l.map V.int)) (q : Q (.bl true) H) : rEqD K (.ref a) (.ref b) H Q :=
  ⟨_, _, tup_dp h1, tup_dp h2, tupD_shaped _, tupD_shaped _, by rw [tupD_eqv]; exact q⟩
theorem tups_ne {K : PySem.W.Frag} {H : Hp} {a b : Addr} {l : List Int} {Q : V → Hp → Prop} (h1 : SqT K H a (l.map V.int)) (h2 : SqT K H b (l.map V.int)) (q : Q (.bl false) H) : rNeD K (.ref a) (.ref b) H Q :=
  ⟨_, _, tup_dp h1, tup_dp h2, tupD_shaped _, tupD_shaped _, by rw [tupD_eqv]; exact q⟩
theorem ints_eq {K : PySem.W.Frag} {H : Hp} {a b : Addr} {l : List Int} {Q : V → Hp → Prop} (h1 : SqL K H a (l.map V.int)) (h2 : SqL K H b (l.map V.int)) (q : Q (.bl true) H) : rEqD K (.ref a) (.ref b) H Q :=
  ⟨_, _, ints_dp h1, ints_dp h2, intsD_shaped _, intsD_shaped _, by rw [intsD_eqv]; exact q⟩
theorem ints_ne {K : PySem.W.Frag} {H : Hp} {a b : Addr} {l : List Int} {Q : V → Hp → Prop} (h1 : SqL K H a (l.map V.int)) (h2 : SqL K H b (l.map V.int)) (q : Q (.bl false) H) : rNeD K (.ref a) (.ref b) H Q :=
  ⟨_, _, ints_dp h1, ints_dp h2, intsD_shaped _, intsD_shaped _, by rw [intsD_eqv]; exact q⟩
end Toy
/-! ### sums over days -/
namespace Toy
def daySum (f : Int → Int) (s : Int) : Nat → Int
  | 0 => 0
  | n + 1 => daySum f s n + f (s + n + 1)
theorem daySum_congr {f g : Int → Int} {s : Int} : ∀ {n : Nat}, (∀ d, s < d → d ≤ s + n → f d = g d) → daySum f s n = daySum g s n
  | 0, _ => rfl
  | n + 1, h => by
    show daySum f s n + f (s + n + 1) = daySum g s n + g (s + n + 1)
    rw [daySum_congr (n := n) fun d h1 h2 => h d h1 (by omega), h (s + n + 1) (by omega) (by omega)]
theorem daySum_const {f : Int → Int} {s c : Int} : ∀ {n : Nat}, (∀ d, s < d → d ≤ s + n → f d = c) → daySum f s n = n * c
  | 0, _ => by simp [daySum]
  | n + 1, h => by
    show daySum f s n + f (s + n + 1) = _
    rw [daySum_const (n := n) fun d h1 h2 => h d h1 (by omega), h (s + n + 1) (by omega) (by omega), Int.natCast_add, Int.add_mul]
    simp
theorem daySum_add {f : Int → Int} {s : Int} (m : Nat) : ∀ n : Nat, daySum f s (m + n) = daySum f s m + daySum f (s + m) n
  | 0 => by simp [daySum]
  | n + 1 => by
    show daySum f s (m + n) + f (s + (m + n : Nat) + 1) = daySum f s m + (daySum f (s + m) n + f (s + m + n + 1))
    rw [daySum_add m n, Int.natCast_add, ← Int.add_assoc s m n]
    omega
/-- what a stretch of days brings -/
def gsum (ps : List Pr) (s e : Int) : Int := daySum (rateOn ps) s (e - s).toNat
theorem gsum_self (ps : List Pr) (s : Int) : gsum ps s s = 0 := by
  unfold gsum
  rw [Int.sub_self]
  rfl
theorem gsum_split {ps : List Pr} {s m e : Int} (h1 : s ≤ m) (h2 : m ≤ e) : gsum ps s e = gsum ps s m + gsum ps m e := by
  unfold gsum
  have e1 : (e - s).toNat = (m - s).toNat + (e - m).toNat := by omega
  have e2 : s + ((m - s).toNat : Int) = m := by omega
  rw [e1, daySum_add, e2]
theorem gsum_const {ps : List Pr} {s e c : Int} (h : s ≤ e) (hc : ∀ d, s < d → d ≤ e → rateOn ps d = c) : gsum ps s e = (e - s) * c := by
  unfold gsum
  have e1 : ((e - s).toNat : Int) = e - s := by omega
  rw [daySum_const (c := c) fun d h1 h2 => hc d h1 (by omega), e1]
theorem gsum_one {ps : List Pr} {s : Int} : gsum ps s (s + 1) = rateOn ps (s + 1) := by
  rw [gsum_const (c := rateOn ps (s + 1)) (by omega) fun d h1 h2 => by rw [show d = s + 1 by omega]]
  rw [show s + 1 - s = 1 by omega, Int.one_mul]
theorem Up.mem : ∀ {d : Int} {ps : List Pr}, Up d ps → ∀ q ∈ ps, d < q.1
  | _, [], _, q, hq => by cases hq
  | d, p :: r, h, q, hq => by
    rcases List.mem_cons.mp hq with e | e
    · rw [e]; exact h.1
    · have := Up.mem h.2 q e
      have := h.1
      omega
theorem Up.drop : ∀ {d : Int} {A B : List Pr} {p : Pr}, Up d (A ++ p :: B) → Up p.1 B
  | _, [], _, _, h => h.2
  | _, a :: A, _, _, h => Up.drop (A := A) h.2
/-- one turn of grown: behind the start s; what is summed, where it stops -/
def gStep (s : Int) (acc : Int × Int) (p : Pr) : Int × Int :=
  if (if p.1 - 1 > s then p.1 - 1 else s) < acc.2 then (acc.1 + (acc.2 - (if p.1 - 1 > s then p.1 - 1 else s)) * p.2, if p.1 - 1 > s then p.1 - 1 else s) else acc
def grown (ps : List Pr) (s e : Int) : Int := (ps.reverse.foldl (gStep s) (0, e)).1
theorem grown_go {ps : List Pr} {s e : Int} (hse : s ≤ e) (u : Up (-1) ps) : ∀ (B A : List Pr), ps = A ++ B →
    s ≤ (B.foldr (fun p acc => gStep s acc p) (0, e)).2 ∧ (B.foldr (fun p acc => gStep s acc p) (0, e)).2 ≤ e ∧
    (B.foldr (fun p acc => gStep s acc p) (0, e)).1 = gsum ps (B.foldr (fun p acc => gStep s acc p) (0, e)).2 e ∧
    ((B.foldr (fun p acc => gStep s acc p) (0, e)).2 = s ∨ ∀ q ∈ B, (B.foldr (fun p acc => gStep s acc p) (0, e)).2 < q.1)
  | [], A, h => ⟨hse, Int.le_refl _, (gsum_self _ _).symm, .inr fun q hq => by cases hq⟩
  | p :: B, A, h => by
    obtain ⟨h1, h2, h3, h4⟩ := grown_go hse u B (A ++ [p]) (by rw [h, List.append_assoc]; rfl)
    rw [List.foldr_cons]
    generalize B.foldr (fun p acc => gStep s acc p) (0, e) = r at h1 h2 h3 h4 ⊢
    obtain ⟨t, st⟩ := r
    simp only at h1 h2 h3 h4
    have hb : ∃ b, (if p.1 - 1 > s then p.1 - 1 else s) = b ∧ s ≤ b ∧ p.1 - 1 ≤ b ∧ (b = s ∨ b = p.1 - 1) := by
      refine ⟨_, rfl, ?_⟩
      split <;> omega
    obtain ⟨b, eb, b1, b2, b3⟩ := hb
    unfold gStep
    rw [eb]
    have hB : ∀ q ∈ B, p.1 < q.1 := by
      have u2 : Up (-1) (A ++ p :: B) := by rw [← h]; exact u
      exact u2.drop.mem
    by_cases c : b < st
    · rw [if_pos c]
      refine ⟨b1, by show b ≤ e; omega, ?_, ?_⟩
      · show t + (st - b) * p.2 = gsum ps b e
        rw [gsum_split (m := st) (by omega) h2, ← h3, gsum_const (c := p.2) (by omega) fun d d1 d2 => ?_]
        · omega
        · rw [h]
          refine rateOn_at (by omega) fun q hq => ?_
          rcases h4 with h4 | h4
          · omega
          · have := h4 q hq
            omega
      · show b = s ∨ ∀ q ∈ p :: B, b < q.1
        rcases b3 with b3 | b3
        · exact .inl b3
        · refine .inr fun q hq => ?_
          rcases List.mem_cons.mp hq with e1 | e1
          · rw [e1]; omega
          · have := hB q e1
            omega
    · rw [if_neg c]
      refine ⟨h1, h2, h3, ?_⟩
      show st = s ∨ ∀ q ∈ p :: B, st < q.1
      rcases h4 with h4 | h4
      · exact .inl h4
      · rcases b3 with b3 | b3
        · exact .inl (by omega)
        · refine .inr fun q hq => ?_
          rcases List.mem_cons.mp hq with e1 | e1
          · rw [e1]; omega
          · exact h4 q e1
theorem grown_eq {ps : List Pr} {s e : Int} (g : Good ps) (h0 : 0 ≤ s) (hse : s ≤ e) : grown ps s e = gsum ps s e := by
  unfold grown
  rw [List.foldl_reverse]
  obtain ⟨h1, h2, h3, h4⟩ := grown_go hse g.up ps [] rfl
  obtain ⟨r, rest, er⟩ := g.ne
  have hs : (ps.foldr (fun p acc => gStep s acc p) (0, e)).2 = s := by
    rcases h4 with h4 | h4
    · exact h4
    · have := h4 (0, r) (by rw [er]; simp)
      have : (ps.foldr (fun p acc => gStep s acc p) (0, e)).2 < 0 := this
      omega
  rw [h3, hs]
theorem rateOn_snoc {ps : List Pr} {p : Pr} {d : Int} : rateOn (ps ++ [p]) d = if p.1 ≤ d then p.2 else rateOn ps d := by
  unfold rateOn
  rw [List.foldl_append]
  rfl
theorem rateOn_ok {ps : List Pr} (hr : ∀ p ∈ ps, 0 ≤ p.2 ∧ p.2 ≤ 100000) (d : Int) : 0 ≤ rateOn ps d ∧ rateOn ps d ≤ 100000 := by
  have go : ∀ (l : List Pr) (x : Int), (∀ p ∈ l, 0 ≤ p.2 ∧ p.2 ≤ 100000) → 0 ≤ x ∧ x ≤ 100000 → 0 ≤ l.foldl (fun f p => if p.1 ≤ d then p.2 else f) x ∧ l.foldl (fun f p => if p.1 ≤ d then p.2 else f) x ≤ 100000 := by
    intro l
    induction l with
    | nil => intro x _ h; exact h
    | cons p l ih =>
      intro x hl h
      rw [List.foldl_cons]
      refine ih _ (fun q hq => hl q (by simp [hq])) ?_
      split
      · exact hl p (by simp)
      · exact h
  exact go ps 0 hr (by decide)
theorem daySum_ok {f : Int → Int} {s c : Int} (h : ∀ d, 0 ≤ f d ∧ f d ≤ c) : ∀ n : Nat, 0 ≤ daySum f s n ∧ daySum f s n ≤ n * c
  | 0 => by simp [daySum]
  | n + 1 => by
    have h1 := daySum_ok (s := s) h n
    have h2 := h (s + n + 1)
    show 0 ≤ daySum f s n + f (s + n + 1) ∧ daySum f s n + f (s + n + 1) ≤ _
    rw [Int.natCast_add, Int.add_mul]
    simp
    omega
theorem gsum_ok {ps : List Pr} (hr : ∀ p ∈ ps, 0 ≤ p.2 ∧ p.2 ≤ 100000) {s e : Int} (h : s ≤ e) : 0 ≤ gsum ps s e ∧ gsum ps s e ≤ (e - s) * 100000 := by
  have := daySum_ok (s := s) (rateOn_ok hr) (e - s).toNat
  have e1 : ((e - s).toNat : Int) = e - s := by omega
  rw [e1] at this
  exact this
end Toy
namespace Toy
theorem Good.le_last {ps : List Pr} (g : Good ps) {p : Pr} (h : p ∈ ps) : p.1 ≤ lastDay ps := by
  have go : ∀ (l : List Pr) (d : Int) (q : Pr), Up d l → q ∈ l → q.1 ≤ (l.getLastD (0, 0)).1 := by
    intro l
    induction l with
    | nil => intro d q _ h; cases h
    | cons a b ih =>
      intro d q u h
      cases b with
      | nil =>
        have e : q = a := by simpa using h
        rw [e]
        exact Int.le_refl _
      | cons c r =>
        have hl : ((a :: c :: r).getLastD (0, 0)).1 = ((c :: r).getLastD (0, 0)).1 := rfl
        rw [hl]
        rcases List.mem_cons.mp h with e | e
        · rw [e]
          have h1 := ih a.1 c u.2 (by simp)
          have := u.2.1
          omega
        · exact ih a.1 q u.2 e
  exact go ps (-1) p g.up h
theorem Up.to : ∀ {d : Int} {A : List Pr} {p : Pr} {B : List Pr}, Up d (A ++ p :: B) → ∀ q ∈ A, q.1 < p.1
  | _, [], _, _, _, _, hq => by cases hq
  | d, a :: A, p, B, u, q, hq => by
    rcases List.mem_cons.mp hq with e | e
    · rw [e]
      exact u.2.mem p (by simp)
    · exact Up.to (A := A) u.2 q e
end Toy
namespace Toy
theorem gsum_congr {ps qs : List Pr} {s e : Int} (h : ∀ d, s < d → d ≤ e → rateOn ps d = rateOn qs d) : gsum ps s e = gsum qs s e := by
  unfold gsum
  by_cases c : s ≤ e
  · exact daySum_congr fun d h1 h2 => h d h1 (by omega)
  · rw [show (e - s).toNat = 0 by omega]
    rfl
/-- the law's own way: how much each pair is more than the one ahead of it -/
def sumUp (ps : List Pr) (s e : Int) : Nat → Int
  | 0 => (ps.getD 0 (0, 0)).2 * (e - s)
  | k + 1 => if e - (if (ps.getD (k + 1) (0, 0)).1 - 1 > s then (ps.getD (k + 1) (0, 0)).1 - 1 else s) > 0 then sumUp ps s e k + ((ps.getD (k + 1) (0, 0)).2 - (ps.getD k (0, 0)).2) * (e - (if (ps.getD (k + 1) (0, 0)).1 - 1 > s then (ps.getD (k + 1) (0, 0)).1 - 1 else s)) else sumUp ps s e k
theorem getD_of {α : Type} {l : List α} {j : Nat} {a d : α} (h : l[j]? = some a) : l.getD j d = a := by
  rw [List.getD_eq_getElem?_getD, h]
  rfl
theorem sumUp_eq {ps : List Pr} {s e : Int} (g : Good ps) (h0 : 0 ≤ s) (hse : s ≤ e) : ∀ k, k < ps.length → sumUp ps s e k = gsum (ps.take (k + 1)) s e
  | 0, hk => by
    obtain ⟨r, rest, er⟩ := g.ne
    rw [er]
    show r * (e - s) = gsum [(0, r)] s e
    rw [gsum_const (c := r) hse fun d h1 h2 => ?_, Int.mul_comm]
    exact rateOn_at (A := []) (B := []) (p := (0, r)) (by show 0 ≤ d; omega) fun q hq => by cases hq
  | k + 1, hk => by
    have ih := sumUp_eq g h0 hse k (by omega)
    obtain ⟨p, hp⟩ := get_of (l := ps) (j := k + 1) hk
    obtain ⟨q, hq⟩ := get_of (l := ps) (j := k) (by omega)
    have et : ps.take (k + 1 + 1) = ps.take (k + 1) ++ [p] := by
      rw [List.take_add_one, hp]
      rfl
    have et2 : ps.take (k + 1) = ps.take k ++ [q] := by
      rw [List.take_add_one, hq]
      rfl
    have eall : ps = ps.take (k + 1) ++ p :: ps.drop (k + 2) := by
      have h2 : ps[k + 1] = p := (List.getElem?_eq_some_iff.mp hp).2
      rw [← h2, List.getElem_cons_drop, List.take_append_drop]
    have hA : ∀ u ∈ ps.take (k + 1), u.1 < p.1 := by
      have u2 : Up (-1) (ps.take (k + 1) ++ p :: ps.drop (k + 2)) := by rw [← eall]; exact g.up
      exact u2.to
    have hqp : q.1 < p.1 := hA q (by rw [et2]; simp)
    have hlo : ∀ d, d ≤ p.1 - 1 → rateOn (ps.take (k + 1) ++ [p]) d = rateOn (ps.take (k + 1)) d := fun d hd => by
      rw [rateOn_snoc, if_neg (by omega)]
    unfold sumUp
    rw [getD_of hp, getD_of hq, ih, et]
    have hb : ∃ b, (if p.1 - 1 > s then p.1 - 1 else s) = b ∧ s ≤ b ∧ p.1 - 1 ≤ b ∧ (b = s ∨ b = p.1 - 1) := by
      refine ⟨_, rfl, ?_⟩
      split <;> omega
    obtain ⟨b, eb, b1, b2, b3⟩ := hb
    rw [eb]
    by_cases c : e - b > 0
    · rw [if_pos c, gsum_split (ps := ps.take (k + 1) ++ [p]) (m := b) b1 (by omega), gsum_split (ps := ps.take (k + 1)) (m := b) b1 (by omega)]
      have e1 : gsum (ps.take (k + 1) ++ [p]) s b = gsum (ps.take (k + 1)) s b := gsum_congr fun d d1 d2 => by
        refine hlo d ?_
        omega
      have e2 : gsum (ps.take (k + 1) ++ [p]) b e = (e - b) * p.2 := gsum_const (by omega) fun d d1 d2 => by
        rw [rateOn_snoc, if_pos (by omega)]
      have e3 : gsum (ps.take (k + 1)) b e = (e - b) * q.2 := gsum_const (by omega) fun d d1 d2 => by
        rw [et2, rateOn_snoc, if_pos (by omega)]
      rw [e1, e2, e3, Int.sub_mul p.2 q.2, Int.mul_comm p.2, Int.mul_comm q.2]
      omega
    · rw [if_neg c]
      refine (gsum_congr fun d d1 d2 => hlo d ?_).symm
      omega
theorem sumUp_all {ps : List Pr} {s e : Int} (g : Good ps) (h0 : 0 ≤ s) (hse : s ≤ e) : sumUp ps s e (ps.length - 1) = gsum ps s e := by
  obtain ⟨r, rest, er⟩ := g.ne
  have hl : 0 < ps.length := by rw [er]; simp
  rw [sumUp_eq g h0 hse _ (by omega), List.take_of_length_le (by omega)]
theorem perm3 {ns : List Int} {a b c : Int} (p : ns.Perm [a, b, c]) (w : ns.Pairwise (· ≤ ·)) {lo hi : Int} (h1 : lo ≤ a ∧ a ≤ hi) (h2 : lo ≤ b ∧ b ≤ hi) (h3 : lo ≤ c ∧ c ≤ hi) :
    ∃ x y z, ns = [x, y, z] ∧ lo ≤ x ∧ x ≤ y ∧ y ≤ z ∧ z ≤ hi := by
  have hl := p.length_eq
  match ns, hl with
  | [x, y, z], _ =>
    have hb : ∀ u ∈ [x, y, z], lo ≤ u ∧ u ≤ hi := fun u hu => by
      have := p.mem_iff.mp hu
      simp only [List.mem_cons, List.not_mem_nil, or_false] at this
      rcases this with e | e | e <;> rw [e] <;> assumption
    have hx := hb x (by simp)
    have hz := hb z (by simp)
    simp only [List.pairwise_cons] at w
    exact ⟨x, y, z, rfl, hx.1, w.1 y (by simp), w.2.1 z (by simp), hz.2⟩
end Toy
/-! ### a loan: the mathematics, and how it stands in the heap -/
namespace Toy
open PySem L2
/-- what a row of rates is told -/
inductive Vd where | ok | day | rate
  deriving DecidableEq
def chk : Int → List Pr → Vd
  | a, [] => if a = -1 then .day else .ok
  | a, p :: r => if p.1 ≤ a ∨ p.1 > 100000 ∨ (a = -1 ∧ p.1 > 0) then .day else if 0 ≤ p.2 ∧ p.2 ≤ 100000 then chk p.1 r else .rate
theorem chk_nil (a : Int) : chk a [] = if a = -1 then .day else .ok := rfl
theorem chk_cons (a : Int) (p : Pr) (r : List Pr) : chk a (p :: r) = if p.1 ≤ a ∨ p.1 > 100000 ∨ (a = -1 ∧ p.1 > 0) then .day else if 0 ≤ p.2 ∧ p.2 ≤ 100000 then chk p.1 r else .rate := rfl
theorem chk_up : ∀ {ps : List Pr} {a : Int}, Up a ps → 0 ≤ a → (∀ p ∈ ps, 0 ≤ p.2 ∧ p.2 ≤ 100000) → (∀ p ∈ ps, p.1 ≤ 100000) → chk a ps = .ok
  | [], a, _, h, _, _ => by
    unfold chk
    rw [if_neg (by omega)]
  | p :: r, a, u, h, h1, h2 => by
    unfold chk
    have := u.1
    have := h2 p (by simp)
    rw [if_neg (by omega), if_pos (h1 p (by simp))]
    exact chk_up u.2 (by omega) (fun q hq => h1 q (by simp [hq])) fun q hq => h2 q (by simp [hq])
theorem chk_good {ps : List Pr} (g : Good ps) (h : lastDay ps ≤ 100000) : chk (-1) ps = .ok := by
  have h2 : ∀ p ∈ ps, p.1 ≤ 100000 := fun p hp => Int.le_trans (g.le_last hp) h
  obtain ⟨r, rest, e⟩ := g.ne
  have gu := g.up
  have gr := g.rate
  rw [e] at gu gr h2 ⊢
  unfold chk
  rw [if_neg (by simp), if_pos (gr (0, r) (by simp))]
  exact chk_up gu.2 (Int.le_refl 0) (fun q hq => gr q (by simp [hq])) fun q hq => h2 q (by simp [hq])
/-- the whole cents that settle it -/
def owedF (left begun : Int) : Int := left + (begun + 1000000 - 1) / 1000000
/-- a payment's interest, its part off the amount, what is left, what is begun -/
def payF (left begun cents : Int) : Int × Int × Int × Int :=
  if cents = owedF left begun then (owedF left begun - left, left, 0, 0)
  else ((if begun / 1000000 < cents then begun / 1000000 else cents), cents - (if begun / 1000000 < cents then begun / 1000000 else cents),
    left - (cents - (if begun / 1000000 < cents then begun / 1000000 else cents)), begun - (if begun / 1000000 < cents then begun / 1000000 else cents) * 1000000)
structure Ln where
  left : Int
  begun : Int
  day : Int
/-- a loan's numbers are in their bounds -/
structure LnOk (z : Ln) : Prop where
  l0 : 0 ≤ z.left
  l1 : z.left ≤ 1000000000000
  b0 : 0 ≤ z.begun
  d0 : 0 ≤ z.day
  d1 : z.day ≤ 100000
/-- a good row whose days are in bounds -/
structure Rok (ps : List Pr) : Prop where
  g : Good ps
  last : lastDay ps ≤ 100000
  len : ps.length ≤ 1000
/-- what is begun on a day -/
def begunAt (ps : List Pr) (z : Ln) (d : Int) : Int := z.begun + z.left * gsum ps z.day d
theorem begunAt_ge {ps : List Pr} {z : Ln} {d : Int} (h : LnOk z) (g : Good ps) (hd : z.day ≤ d) : 0 ≤ begunAt ps z d := by
  have h1 := (gsum_ok g.rate hd).1
  have h2 := Int.mul_nonneg h.l0 h1
  have := h.b0
  unfold begunAt
  omega
def payLn (ps : List Pr) (z : Ln) (d c : Int) : Ln := ⟨(payF z.left (begunAt ps z d) c).2.2.1, (payF z.left (begunAt ps z d) c).2.2.2, d⟩
theorem payF_ok {l b c : Int} (hl : 0 ≤ l) (hb : 0 ≤ b) (h1 : 1 ≤ c) (h2 : c ≤ owedF l b) : 0 ≤ (payF l b c).1 ∧ 0 ≤ (payF l b c).2.1 ∧ (payF l b c).1 + (payF l b c).2.1 = c ∧ 0 ≤ (payF l b c).2.2.1 ∧ (payF l b c).2.2.1 ≤ l ∧ 0 ≤ (payF l b c).2.2.2 ∧ (payF l b c).2.2.2 ≤ b := by
  unfold payF
  by_cases c1 : c = owedF l b
  · rw [if_pos c1]
    unfold owedF at *
    simp only
    omega
  · rw [if_neg c1]
    unfold owedF at *
    simp only
    have := Int.mul_comm (b / 1000000) 1000000
    split <;> omega
theorem payLn_ok {ps : List Pr} {z : Ln} {d c : Int} (h : LnOk z) (g : Good ps) (hd : z.day ≤ d) (hd2 : d ≤ 100000) (h1 : 1 ≤ c) (h2 : c ≤ owedF z.left (begunAt ps z d)) : LnOk (payLn ps z d c) := by
  have p := payF_ok h.l0 (begunAt_ge h g hd) h1 h2
  have := h.l1
  have := h.d0
  exact ⟨p.2.2.2.1, by show (payF z.left (begunAt ps z d) c).2.2.1 ≤ _; omega, p.2.2.2.2.2.1, by show 0 ≤ d; omega, hd2⟩
/-! ### in the heap -/
def lf (l : Addr) (z : Ln) : List (Str × V) := [("rates", .ref l), ("left", .int z.left), ("begun", .int z.begun), ("day", .int z.day)]
theorem str_ne {a b : Str} (h : decide (a = b) = false) : (a == b) = false := by
  have : ¬ a = b := of_decide_eq_false h
  exact beq_eq_false_iff_ne.mpr this
theorem lf_rates (l : Addr) (z : Ln) : (lf l z).lookup ("rates" : Str) = some (.ref l) := by simp [lf, List.lookup]
theorem lf_left (l : Addr) (z : Ln) : (lf l z).lookup ("left" : Str) = some (.int z.left) := by
  simp [lf, List.lookup, str_ne (a := "left") (b := "rates") (by decide +kernel)]
theorem lf_begun (l : Addr) (z : Ln) : (lf l z).lookup ("begun" : Str) = some (.int z.begun) := by
  simp [lf, List.lookup, str_ne (a := "begun") (b := "rates") (by decide +kernel), str_ne (a := "begun") (b := "left") (by decide +kernel)]
theorem lf_day (l : Addr) (z : Ln) : (lf l z).lookup ("day" : Str) = some (.int z.day) := by
  simp [lf, List.lookup, str_ne (a := "day") (b := "rates") (by decide +kernel), str_ne (a := "day") (b := "left") (by decide +kernel), str_ne (a := "day") (b := "begun") (by decide +kernel)]
theorem lf_no (l : Addr) (z : Ln) {m : Str} (h1 : decide (m = "rates") = false) (h2 : decide (m = "left") = false) (h3 : decide (m = "begun") = false) (h4 : decide (m = "day") = false) : (lf l z).lookup m = none := by
  simp [lf, List.lookup, str_ne h1, str_ne h2, str_ne h3, str_ne h4]
theorem putF_hit (f : Str) (v x : V) (r : List (Str × V)) : putF f v ((f, x) :: r) = (f, v) :: r := by
  show (if f = f then _ else _) = _
  rw [if_pos rfl]
theorem putF_miss {f g : Str} (h : decide (g = f) = false) (v x : V) (r : List (Str × V)) : putF f v ((g, x) :: r) = (g, x) :: putF f v r := by
  show (if g = f then _ else _) = _
  rw [if_neg (of_decide_eq_false h)]
theorem lf_putLeft (l : Addr) (z : Ln) (y : Int) : putF "left" (.int y) (lf l z) = lf l { z with left := y } := by
  unfold lf
  rw [putF_miss (by decide +kernel), putF_hit]
theorem lf_putBegun (l : Addr) (z : Ln) (y : Int) : putF "begun" (.int y) (lf l z) = lf l { z with begun := y } := by
  unfold lf
  rw [putF_miss (by decide +kernel), putF_miss (by decide +kernel), putF_hit]
theorem lf_putDay (l : Addr) (z : Ln) (y : Int) : putF "day" (.int y) (lf l z) = lf l { z with day := y } := by
  unfold lf
  rw [putF_miss (by decide +kernel), putF_miss (by decide +kernel), putF_miss (by decide +kernel), putF_hit]
theorem lf_len (l : Addr) (z : Ln) : (lf l z).length < 1000 := by show 4 < 1000; decide
theorem lf_made (l : Addr) (am : Int) : putF "day" (V.int 0) (putF "begun" (V.int 0) (putF "left" (V.int am) (putF "rates" (V.ref l) []))) = lf l ⟨am, 0, 0⟩ := by
  show putF "day" (V.int 0) (putF "begun" (V.int 0) (putF "left" (V.int am) [("rates", V.ref l)])) = _
  rw [putF_miss (by decide +kernel)]
  show putF "day" (V.int 0) (putF "begun" (V.int 0) [("rates", V.ref l), ("left", V.int am)]) = _
  rw [putF_miss (by decide +kernel), putF_miss (by decide +kernel)]
  show putF "day" (V.int 0) [("rates", V.ref l), ("left", V.int am), ("begun", V.int 0)] = _
  rw [putF_miss (by decide +kernel), putF_miss (by decide +kernel), putF_miss (by decide +kernel)]
  rfl
/-- a loan stands at x (its dict at dx), its row of rates at l -/
structure LoanAt (C : Addr) (H : Hp) (x dx l : Addr) (ts : List Trp) (z : Ln) : Prop where
  ob : H x = some (.ins C dx (lf l z))
  row : Row H l ts
theorem LoanAt.same {C : Addr} {H H' : Hp} {x dx l : Addr} {ts : List Trp} {z : Ln} (h : LoanAt C H x dx l ts z) (e : Same H H') : LoanAt C H' x dx l ts z := ⟨e _ _ h.ob, h.row.same e⟩
/-- all but what stands at x is as it was -/
def But (x : Addr) (H H' : Hp) : Prop := ∀ b o, H b = some o → b ≠ x → H' b = some o
theorem But.of {x : Addr} {H H' : Hp} (e : Same H H') : But x H H' := fun b o h _ => e b o h
theorem But.trans {x : Addr} {H H1 H2 : Hp} (a : But x H H1) (b : But x H1 H2) : But x H H2 := fun c o h n => b c o (a c o h n) n
theorem But.upd {x : Addr} {H H' : Hp} (a : But x H H') (o : HO) : But x H (L2.upd H' x o) := fun b u h n => by
  rw [L2.upd_ne n]
  exact a b u h n
theorem But.new {x p : Addr} {H H' : Hp} (a : But x H H') {o : HO} (hp : H' p = none) : But x H (L2.upd H' p o) := fun b u h n => by
  have q := a b u h n
  rw [L2.upd_ne (ne_of_none q hp)]
  exact q
theorem But.row {x l : Addr} {H H' : Hp} {ts : List Trp} {C dx : Addr} {fs : List (Str × V)} (a : But x H H') (hx : H x = some (.ins C dx fs)) (R : Row H l ts) : Row H' l ts :=
  ⟨a _ _ R.lst (ne_of R.lst hx (by intro q; cases q)), fun t ht => a _ _ (R.prs t ht) (ne_of (R.prs t ht) hx (by intro q; cases q))⟩
/-- another object that was not known before -/
theorem But.fresh {x : Addr} {H H' : Hp} (a : But x H H') (hx : H x = none) : Same H H' := fun b o h => a b o h (ne_of_none h hx)
end Toy
namespace Toy
open PySem L2
theorem cut_to {xs : List V} {k : Int} {n : Nat} (e : k = (n : Int)) (h : n ≤ xs.length) : cutV xs none (some k) = xs.take n := by
  subst e
  unfold cutV
  rw [HT.sIx_none, HT.sIx_nat, List.drop_zero, Nat.min_eq_left h, Nat.sub_zero]
theorem cut_from {xs : List V} {k : Int} {n : Nat} (e : k = (n : Int)) (h : n ≤ xs.length) : cutV xs (some k) none = xs.drop n := by
  subst e
  unfold cutV
  rw [HT.sIx_none, HT.sIx_nat, Nat.min_eq_left h]
  exact List.take_of_length_le (by rw [List.length_drop]; exact Nat.le_refl _)
theorem rowV_take (ts : List Trp) (n : Nat) : (rowV ts).take n = rowV (ts.take n) := by unfold rowV; rw [List.map_take]
theorem rowV_drop (ts : List Trp) (n : Nat) : (rowV ts).drop n = rowV (ts.drop n) := by unfold rowV; rw [List.map_drop]
theorem vals_take (ts : List Trp) (n : Nat) : vals (ts.take n) = (vals ts).take n := by unfold vals; rw [List.map_take]
theorem vals_drop (ts : List Trp) (n : Nat) : vals (ts.drop n) = (vals ts).drop n := by unfold vals; rw [List.map_drop]
theorem Up.take : ∀ {d : Int} {ps : List Pr}, Up d ps → ∀ n, Up d (ps.take n)
  | _, [], _, 0 => trivial
  | _, [], _, _ + 1 => trivial
  | _, _ :: _, _, 0 => trivial
  | _, p :: r, h, n + 1 => ⟨h.1, Up.take h.2 n⟩
theorem Good.take {ps : List Pr} (g : Good ps) (n : Nat) : Good (ps.take (n + 1)) := by
  obtain ⟨r, rest, e⟩ := g.ne
  refine ⟨⟨r, rest.take n, by rw [e]; rfl⟩, g.up.take _, fun p hp => g.rate p (List.mem_of_mem_take hp)⟩
/-- the last pair's day is that pair's -/
theorem lastDay_mem {ps : List Pr} (h : ps ≠ []) : ∃ p ∈ ps, p.1 = lastDay ps := by
  obtain ⟨r, a, e⟩ := snoc_of h
  refine ⟨a, by rw [e]; simp, ?_⟩
  rw [e]
  unfold lastDay
  rw [getLastD_append]
theorem Rok.take {ps : List Pr} (k : Rok ps) (n : Nat) : Rok (ps.take (n + 1)) := by
  have g := k.g.take n
  refine ⟨g, ?_, Nat.le_trans (List.length_take_le' _ _) k.len⟩
  obtain ⟨p, hp, e⟩ := lastDay_mem (ps := ps.take (n + 1)) (by obtain ⟨r, rest, e⟩ := g.ne; rw [e]; simp)
  rw [← e]
  exact Int.le_trans (k.g.le_last (List.mem_of_mem_take hp)) k.last
/-- the next pair's day lies behind those ahead of it -/
theorem next_day {ps : List Pr} (g : Good ps) {n : Nat} {p : Pr} (h : ps[n + 1]? = some p) : lastDay (ps.take (n + 1)) < p.1 := by
  have g2 := g.take n
  obtain ⟨q, hq, e⟩ := lastDay_mem (ps := ps.take (n + 1)) (by obtain ⟨r, rest, e⟩ := g2.ne; rw [e]; simp)
  rw [← e]
  have eall : ps = ps.take (n + 1) ++ p :: ps.drop (n + 2) := by
    have h2 : ps[n + 1]'(List.getElem?_eq_some_iff.mp h).1 = p := (List.getElem?_eq_some_iff.mp h).2
    rw [← h2, List.getElem_cons_drop, List.take_append_drop]
  have u2 : Up (-1) (ps.take (n + 1) ++ p :: ps.drop (n + 2)) := by rw [← eall]; exact g.up
  exact u2.to q hq
def amountBy (c : Int) : Int := if c % 4 = 0 then ([1, 2, 999999999999, 1000000000000] : List Int).getD (c / 4 % 4).toNat 0 else if c % 4 = 1 then 1 + c / 4 % 5000 else 1 + (mixed c 2147483647 * 467 + 5) % 1000000000000
theorem amountBy_ok (c : Int) : 1 ≤ amountBy c ∧ amountBy c ≤ 1000000000000 := by
  unfold amountBy
  split
  · obtain ⟨j, ej⟩ : ∃ j : Nat, c / 4 % 4 = (j : Int) := ⟨(c / 4 % 4).toNat, by omega⟩
    have hj : j < 4 := by omega
    rw [ej]
    match j, hj with
    | 0, _ => decide
    | 1, _ => decide
    | 2, _ => decide
    | 3, _ => decide
  · split <;> omega
theorem tup2 {a b : Int} {v : V} {j : Nat} (h : ([V.int a, V.int b] : List V)[j]? = some v) : ([V.int a, V.int b] : List V)[j]? = some v := h
end Toy
namespace Toy
open PySem L2
def vdS : Vd → Str
  | .ok => ""
  | .day => "day"
  | .rate => "rate"
end Toy
namespace Toy
open PySem L2
/-- a list that is read stays where an object changes -/
theorem seq_but {K : PySem.W.Frag} {H H' : Hp} {x C dx a : Addr} {fs : List (Str × V)} {xs : List V} (b : But x H H') (hx : H x = some (.ins C dx fs)) (h : SqL K H a xs) : SqL K H' a xs := by
  rcases h with (h | ⟨o, h⟩) | h
  · exact .inl (.inl (b _ _ h (ne_of h hx (by intro q; cases q))))
  · exact .inl (.inr ⟨o, b _ _ h (ne_of h hx (by intro q; cases q))⟩)
  · exact .inr h
end Toy
namespace Toy
open PySem L2
theorem But.rowl {q l : Addr} {H H' : Hp} {ts : List Trp} {xs : List V} (b : But q H H') (hq : H q = some (.lst xs)) (n : l ≠ q) (R : Row H l ts) : Row H' l ts :=
  ⟨b _ _ R.lst n, fun t ht => b _ _ (R.prs t ht) (ne_of (R.prs t ht) hq (by intro z; cases z))⟩
theorem But.loan {q x dx l C : Addr} {H H' : Hp} {ts : List Trp} {z : Ln} {xs : List V} (b : But q H H') (hq : H q = some (.lst xs)) (n : l ≠ q) (A : LoanAt C H x dx l ts z) : LoanAt C H' x dx l ts z :=
  ⟨b _ _ A.ob (ne_of A.ob hq (by intro z; cases z)), b.rowl hq n A.row⟩
theorem But.loanx {y dy x dx l C : Addr} {fs : List (Str × V)} {H H' : Hp} {ts : List Trp} {z : Ln} (b : But y H H') (hy : H y = some (.ins C dy fs)) (n : x ≠ y) (A : LoanAt C H x dx l ts z) : LoanAt C H' x dx l ts z :=
  ⟨b _ _ A.ob n, b.row hy A.row⟩
theorem seq_butl {K : PySem.W.Frag} {H H' : Hp} {q a : Addr} {xs ys : List V} (b : But q H H') (n : a ≠ q) (h : SqL K H a xs) : SqL K H' a xs := by
  rcases h with (h | ⟨o, h⟩) | h
  · exact .inl (.inl (b _ _ h n))
  · exact .inl (.inr ⟨o, b _ _ h n⟩)
  · exact .inr h
theorem Rok.snoc {ps : List Pr} (k : Rok ps) {d r : Int} (h1 : lastDay ps < d) (h2 : d ≤ 100000) (h3 : 0 ≤ r) (h4 : r ≤ 100000) (h5 : ps.length < 1000) : Rok (ps ++ [(d, r)]) := by
  refine ⟨k.g.snoc h1 h3 h4, ?_, by rw [List.length_append]; exact h5⟩
  unfold lastDay
  rw [getLastD_append]
  exact h2
theorem lastDay_snoc (ps : List Pr) (d r : Int) : lastDay (ps ++ [(d, r)]) = d := by
  unfold lastDay
  rw [getLastD_append]
/-- what a change of the rate is told -/
def dueC (ps : List Pr) (at1 d r : Int) : Vd := if d ≤ at1 ∨ d ≤ lastDay ps ∨ d > 100000 then .day else if 0 ≤ r ∧ r ≤ 100000 then .ok else .rate
theorem dueC_ok {ps : List Pr} {at1 d r : Int} (h : dueC ps at1 d r = .ok) : ¬ (d ≤ at1 ∨ d ≤ lastDay ps ∨ d > 100000) ∧ 0 ≤ r ∧ r ≤ 100000 := by
  unfold dueC at h
  split at h
  · cases h
  · rename_i c
    split at h
    · rename_i c2
      exact ⟨c, c2⟩
    · cases h
/-- what is owed does not fall by itself -/
theorem owedF_mono {l b b2 : Int} (h : b ≤ b2) : owedF l b ≤ owedF l b2 := by unfold owedF; omega
theorem begunAt_mono {ps : List Pr} {z : Ln} {d : Int} (h : LnOk z) (g : Good ps) (hd : z.day ≤ d) : z.begun ≤ begunAt ps z d := by
  have h1 := (gsum_ok g.rate hd).1
  have h2 := Int.mul_nonneg h.l0 h1
  unfold begunAt
  omega
theorem begunAt_self (ps : List Pr) (z : Ln) : begunAt ps z z.day = z.begun := by
  unfold begunAt
  rw [gsum_self, Int.mul_zero, Int.add_zero]
end Toy
/-! ### errors: calls in a try, clauses with and without a name, isinstance of the error in hand, a def asked about it -/
namespace L2
open PySem PySem.Spec PyProof.Rows
section
variable {X : Cx} {CX : CXT} {k : Nat} {f C : Addr} {fd : FuncData} {ps : List Str} {sp : Sp} {E : St → XK} {x m : Str} {p pos apos : Pos} {e o : Expr} {es : List Expr} {ta : TE} {t : TA}
/-- a method's call in a try: what it lets out is wished for at the slots -/
def tMethT (C : Addr) (m : Str) (sp : Sp) (E : St → XK) (ta : TE) (t : TA) : TE := fun σ H Q => ta σ H fun v H1 => ∃ a dx fs, v = .ref a ∧ H1 a = some (.ins C dx fs) ∧ fs.lookup m = none ∧ t σ H1 fun vs H2 => sp (v :: vs) H2 Q (E σ)
theorem pe_methT {pl : Sem Bool} (he : PE X o ta) (c : Cls X.K C) (hm : Meth X.K C m f) (F : FnOk X.prog X.w X.K X.mg X.base CX k f fd ps sp) (hr : Room k X.A) (hb : Binds X.K fd ps []) (hx : ∀ σ, PassesAt CX X σ (E σ)) (ha : PA X (e :: es) t)
    (hst : starEach (e :: es) X.env = (false, eval e X.env) :: starEach es X.env := by rfl) (hpl : (backTo pos (starEach es X.env)).any (·.1) = false := by rfl)
    (ht : eval (.Call (.Attribute o m apos) (e :: es) [] pos) X.env = (do
      let ov ← eval o X.env
      standAt apos.atName
      let (g, first) ← holding [ov] (getMethod ov m pl)
      callWith pos g first (backTo pos (starEach (e :: es) X.env)) (backToKw pos (keywordEach [] X.env))) := by rfl) :
    PE X (.Call (.Attribute o m apos) (e :: es) [] pos) (tMethT C m sp E ta t) := by
  refine ⟨fun pins s σ H Q I h => ?_⟩
  refine PySem.W.methodCall_KW (pl := pl) (thn (he.run pins s σ H _ I h) fun u s1 ⟨y, H1, I1, ry, a, dx, fs, ey, ea, l, q⟩ => ?_) ht
  subst ey
  obtain rfl : u = Value.ref a := ry
  refine getmeth_ok I1 ea c hm l ?_
  refine PySem.W.callWith_K (first := [.ref a]) (h₀ := X.base) I.ok.mod.kin hm.kp (thn (ha.run pos pins s1 σ H1 _ I1 q) fun us s2 ⟨vs, H2, I2, r, q2⟩ => ⟨I2.kIn, ?_⟩) hst hpl
  exact run_fnS (us := .ref a :: us) (vs := .ref a :: vs) F hr hb (hx σ) I2 (.cons rfl r) q2
/-- C(..) in a try -/
def tMakeT (C : Addr) (sp : Sp) (E : St → XK) (t : TA) : TE := fun σ H Q => t σ H fun vs H1 => ∀ x dx, H1 x = none → H1 dx = none → dx ≠ x →
  sp (.ref x :: vs) (upd (upd H1 dx (.own x)) x (.ins C dx [])) (fun v H2 => v = .non ∧ Q (.ref x) H2) (E σ)
theorem run_makeT {pins : List (Addr × Obj)} {σ : St} {H : Hp} {s : Shared} {Q : VK} {us : List Value} {vs : List V} (M : Mk X.K C f) (F : FnOk X.prog X.w X.K X.mg X.base CX k f fd ps sp) (hr : Room (k + 1) X.A) (hb : Binds X.K fd ps [])
    (hx : PassesAt CX X σ (E σ)) (I : Inv X pins σ H s) (r : Vals vs us)
    (h : ∀ x dx, H x = none → H dx = none → dx ≠ x → sp (.ref x :: vs) (upd (upd H dx (.own x)) x (.ins C dx [])) (fun v H2 => v = .non ∧ Q (.ref x) H2) (E σ)) :
    wpAny (model X.prog X.w) X.A (call (.ref C) us) (EP X pins σ Q) X.xe s := by
  have hq := h (s.heap.objs.size + 1) s.heap.objs.size (I.hok.fresh (Nat.le_succ _)) (I.hok.fresh (Nat.le_refl _)) (Nat.ne_of_lt (Nat.lt_succ_self _))
  have I2 := Inv.made (C := C) I
  have r2 : Vals (V.ref (s.heap.objs.size + 1) :: vs) (Value.ref (s.heap.objs.size + 1) :: us) := .cons rfl r
  have hl : ((Value.ref (s.heap.objs.size + 1) :: us) ++ []).length = ps.length := by
    rw [List.append_nil]
    have e1 := r2.length
    rw [F.len _ _ _ _ hq] at e1
    exact e1.symm
  have b := hb _ (Value.ref (s.heap.objs.size + 1) :: us) I2.kIn hl
  rw [List.append_nil] at b
  refine wpAny_call (make_map (f := f) I.kIn M.makes M.init (beq_iff_eq.mp M.fn) (codeAny_mono (F.run _ X.stack _ _ ⟨Value.ref (s.heap.objs.size + 1) :: us, []⟩ (Value.ref (s.heap.objs.size + 1) :: us) _ _ (E σ) (hr.make C us [])
    (I2.env0.make C us []) b r2 hq) fun r s' hq' => ?_))
  cases r with
  | error e => exact hx pins _ _ e s' I2 hq'
  | ok fl =>
    cases fl with
    | ret u =>
      obtain ⟨v, H', I3, rv, ev, q3⟩ := I2.after hq'
      subst ev
      exact ⟨rv, ⟨V.ref (s.heap.objs.size + 1), H', I3, rfl, q3⟩⟩
    | next => exact False.elim hq'
    | brk => exact False.elim hq'
    | cont => exact False.elim hq'
theorem pe_makeT (M : Mk X.K C f) (F : FnOk X.prog X.w X.K X.mg X.base CX k f fd ps sp) (hr : Room (k + 1) X.A) (hm : X.mg x = some (.ref C)) (hb : Binds X.K fd ps []) (hx : ∀ σ, PassesAt CX X σ (E σ))
    (ha : PA X (e :: es) t) (hg : Gl X x := by rfl) (hdb : (x == ("__debug__" : Str)) = false := by decide) (he : starEach (e :: es) X.env = (false, eval e X.env) :: starEach es X.env := by rfl) (hpl : (backTo pos (starEach es X.env)).any (·.1) = false := by rfl) :
    PE X (.Call (.Name x p) (e :: es) [] pos) (tMakeT C sp E t) := by
  refine ⟨fun pins s σ H Q I h => ?_⟩
  refine wpAny_Call_Name_kw (ld_glob I hg hm ?_ hdb)
  refine PySem.W.callWith_K (h₀ := X.base) I.ok.mod.kin M.kp (thn (ha.run pos pins s σ H _ I h) fun us s1 ⟨vs, H1, I1, r, q⟩ => ⟨I1.kIn, ?_⟩) he hpl
  exact run_makeT M F hr hb (hx σ) I1 r q
end

/-! #### isinstance(e, c), e the error in hand (a pinned object) -/
def rIsX (K : PySem.W.Frag) (cls : Value) (d : Option Addr) (a : Addr) : List V → Hp → VK → Prop := fun xs H Q => ∃ (D : Addr) (c : V) (cv : Value) (b : Bool), cls = .ref D ∧ d = none ∧ ExcC K D ∧ xs = [.ref a, c] ∧ (∀ u, RelV c u → u = cv) ∧ PySem.W.kitOne K (.ref D) cv = some b ∧ Q (.bl b) H
theorem call_isX {X : Cx} {a : Addr} {oe : Obj} {cls : Value} {d : Option Addr} (hz : Zc cls d oe) (hf : ∃ vs, oe.data = .fields vs) (hp : (a, oe) ∈ X.pn) : CallR X (.builtin "isinstance") (rIsX X.K cls d a) := by
  intro pins s σ H xs us Q I r h
  obtain ⟨D, c, cv, b, rfl, rfl, C, rfl, hcv, e, q⟩ := h
  obtain ⟨u1, u2, rfl, r1, r2⟩ := vals2 r
  obtain rfl : u1 = Value.ref a := r1
  obtain rfl := hcv _ r2
  have hget := (I.pin (a, oe) (List.mem_append_left _ hp)).1
  have J : PySem.W.InstAt s.heap a oe D none := by
    obtain ⟨oc, od, oda, osl⟩ := oe
    obtain ⟨h1, h2⟩ := hz
    obtain ⟨vs, hv⟩ := hf
    dsimp only at h1 h2 hv
    subst h1 h2 hv
    exact ⟨hget, rfl, rfl, trivial⟩
  exact PySem.W.kia_one (PySem.W.handS_kitx_exc C.hg C.hk C.hs C.hd C.ha C.hn C.ht C.hm) I.kIn J e (fun z => nomatch z) fun tk => ⟨.bl b, H, I.kept (t' := tk) fun _ _ z => z, rfl, q⟩

/-! #### a def that is asked about the error in hand: it answers v, all stays -/
def FnE (P : Program) (w : World) (K : PySem.W.Frag) (mg : Str → Option Value) (base : Heap) (k : Nat) (f : Addr) (fd : FuncData) (ps : List Str) (ok : Addr × Obj → Prop) (v : V) : Prop :=
  ∀ (A : Around) (outer : List Env) (s : Shared) (H : Hp) (args : Args) (p : Addr × Obj), L2H.RoomH k A → L2H.PinOk outer H s p → Env0 P w K mg base A outer s H → BindsTo s fd args (ps.zip [.ref p.1]) → ok p →
    codeAny (model P w) A (.call (.ref f) args) (CR CX0 outer P w H s (fun u H' => u = v ∧ H' = H) E0) s
theorem fnE_of {P : Program} {w : World} {K : PySem.W.Frag} {mg : Str → Option Value} {base : Heap} {k : Nat} {f : Addr} {fd : FuncData} {x : Str} {st : Stmt} {N ps : List Str} {ok : Addr × Obj → Prop} {v : V} (F : Fun K x x st f fd) (S : FnScope N ps (defScope st)) (one : ps.length = 1)
    (hbody : ∀ (cdv : Value) (A : Around) (outer : List Env) (s : Shared) (H : Hp) (p : Addr × Obj), L2H.RoomH k (A.deeper (envOfC x (defScope st) s.heap.objs.size f cdv)) → ok p →
      ∃ t, PSs (L2H.cxH CX0 P w K mg base N x (defScope st) f cdv A outer s H E0 p) (defBody st) t ∧ t { nx := fun _ H' => V.non = v ∧ H' = H, rt := fun u H' => u = v ∧ H' = H } (start N [.ref p.1]) H) :
    FnE P w K mg base (k + 1) f fd ps ok v := by
  obtain ⟨oc, od, kV, doc, pm, an, cdv, ct, osl, rfl, lk, hcd⟩ := F.ex
  intro A outer s H args p hr hpin e0 hb hok
  have KX : K.In s.heap := e0.mod.kin.keeps fun b o e => (e0.bs b o e).1
  have lim : s.heap.NoLimit := e0.mod.nolimit.keeps fun b o e => (e0.bs b o e).1
  have hkind : ∀ y ∈ ps.zip [Value.ref p.1], (defScope st).names.lookup y.1 = some .local ∨ ((defScope st).names.lookup y.1 = some .cell ∧ ((cellsFrom (s.heap.objs.size + 1) (defScope st).names []).lookup y.1).isSome = true) := fun ⟨n, u⟩ hy => by
    rcases S.par n (List.of_mem_zip hy).1 with q | q
    · exact .inl q
    · exact .inr ⟨q, PySem.W.cellsFrom_some _ _ _ (.inl q)⟩
  refine codeAny_call_function hr.depth (KX _ _ lk) rfl S.co S.gen rfl (PySem.W.codeRec_of KX hcd) (hb _ _ _ _ ?_)
  refine wpAny_newFunctionEnv_cells S.kind hkind fun env he s1 y => ?_
  subst he
  refine ⟨lim.keeps y.toInCall.keep, codeAny_func ?_⟩
  obtain ⟨t, ht, hq⟩ := hbody cdv A outer s H p (hr.deeper _) hok
  have I : Inv (L2H.cxH CX0 P w K mg base N x (defScope st) f cdv A outer s H E0 p) [] (start N [.ref p.1]) H s1 := L2H.inv_startH (vs := [.ref p.1]) S hpin e0 (by rw [one]; rfl) (.cons rfl .nil) y
  refine wpAny_mono (ht.run [] s1 (start N [.ref p.1]) H _ I hq) (fun fl s' hs => ?_) fun e s' hs => hs
  cases fl with
  | ret u =>
    obtain ⟨u', σ', H', J, rv, q⟩ := hs
    exact ⟨u', H', J.os, J.bare, J.base, J.hok, rv, q⟩
  | next =>
    obtain ⟨σ', H', J, q⟩ := hs
    exact ⟨V.non, H', J.os, J.bare, J.base, J.hok, rfl, q⟩
  | brk =>
    obtain ⟨_, _, _, q⟩ := hs
    exact False.elim q
  | cont =>
    obtain ⟨_, _, _, q⟩ := hs
    exact False.elim q
/-- such a def, as its callers see it -/
structure De (P : Program) (w : World) (K : PySem.W.Frag) (mg : Str → Option Value) (base : Heap) (k : Nat) (x : Str) (ps : List Str) (ok : Addr × Obj → Prop) (v : V) where
  f : Addr
  fd : FuncData
  G : FnE P w K mg base k f fd ps ok v
  m : mg x = some (.ref f)
  kp : PySem.W.keepIn K (.ref f) = true
  b : Binds K fd ps []
/-- its call in a suite -/
theorem pe_callE {X : Cx} {k : Nat} {x : Str} {ps : List Str} {ok : Addr × Obj → Prop} {v : V} {a : Addr} {oe : Obj} {e : Expr} {te : TE} {q pos : Pos} {okc : Prop} (D : De X.prog X.w X.K X.mg X.base k x ps ok v) (hr : L2H.RoomH k X.A) (hp : (a, oe) ∈ X.pn) (one : ps.length = 1) (he : PE X e te) (hok : okc → ok (a, oe))
    (hg : Gl X x := by rfl) (hdb : (x == ("__debug__" : Str)) = false := by decide) (hs : starEach (e :: []) X.env = (false, eval e X.env) :: starEach [] X.env := by rfl) (hpl : (backTo pos (starEach [] X.env)).any (·.1) = false := by rfl) :
    PE X (.Call (.Name x q) [e] [] pos) (fun σ H Q => te σ H fun y H1 => [y] = [.ref a] ∧ okc ∧ Q v H1) := by
  refine ⟨fun pins s σ H Q I h => ?_⟩
  have ha : PA X [e] (tCons te tNil) := pa_cons he pa_nil (hs := hs)
  refine wpAny_Call_Name_kw (ld_glob I hg D.m ?_ hdb)
  refine PySem.W.callWith_K (h₀ := X.base) I.ok.mod.kin D.kp (thn (ha.run pos pins s σ H (fun vs H1 => vs = [.ref a] ∧ okc ∧ Q v H1) I h) fun us s1 hh => ?_) hs hpl
  obtain ⟨vs, H1, I1, r, rfl, hc, q1⟩ := hh
  refine ⟨I1.kIn, ?_⟩
  cases r with
  | cons r1 r2 =>
    cases r2
    obtain rfl := r1
    have P1 := I1.pin (a, oe) (List.mem_append_left _ hp)
    have hpin : L2H.PinOk X.stack H1 s1 (a, oe) := ⟨P1.1, P1.2.1, fun hm => (List.mem_cons.mp (I1.stkSub a hm)).elim P1.2.2.1 P1.2.2.2.1, P1.2.2.2.2⟩
    have hb := D.b s1 [.ref a] I1.kIn (by rw [List.append_nil, one]; rfl)
    rw [List.append_nil] at hb
    refine wpAny_call (codeAny_mono (D.G X.A X.stack s1 H1 ⟨[.ref a], []⟩ (a, oe) hr hpin I1.env0 hb (hok hc)) fun r s' hq => ?_)
    cases r with
    | error e => exact False.elim hq
    | ok fl =>
      cases fl with
      | ret u =>
        obtain ⟨u', H', I3, rv, rfl, rfl⟩ := I1.after hq
        exact ⟨_, _, I3, rv, q1⟩
      | next => exact False.elim hq
      | brk => exact False.elim hq
      | cont => exact False.elim hq

/-! #### a try whose clauses may bear a name -/
/-- a suite's ways out; where its clause has a name, the name's slot is emptied behind it -/
def sOut (o : Option Nat) (ts : TS) (a : Addr) : TS := match o with
  | none => ts
  | some i => fun D σ H => ts { nx := fun σ' H' => D.nx (σ'.set i none) H', rt := D.rt, bk := fun σ' H' => D.bk (σ'.set i none) H', ct := fun σ' H' => D.ct (σ'.set i none) H' } (σ.set i (some (.ref a))) H
abbrev Cl := Value × Option Nat × (Addr → Value → Option Addr → TS)
def wMix (K : PySem.W.Frag) (Wout : WX) (D : Ends) : List Cl → WX
  | [] => Wout
  | (c, o, ts) :: r => fun cls d σ H => ∃ b, PySem.W.exmOne K cls c = some b ∧ (b = true → ∀ a, H a = none → sOut o (ts a cls d) a D σ H) ∧ (b = false → wMix K Wout D r cls d σ H)
inductive MixOk (X : Cx) : List ExceptHandler → List Cl → Prop
  | nil : MixOk X [] []
  | plain {x : Str} {c : Value} {ts : Addr → Value → Option Addr → TS} {b1 : Stmt} {suite : List Stmt} {np pos' : Pos} {hds : List ExceptHandler} {l : List Cl} (hc : Names X x c)
      (hsu : ∀ (a : Addr) (oe : Obj) (cls : Value) (d : Option Addr) (pn : List (Addr × Obj)), Zc cls d oe → (∃ vs, oe.data = .fields vs) → PSs (X.suite a ((a, oe) :: pn)) (b1 :: suite) (ts a cls d)) (r : MixOk X hds l) :
      MixOk X (.ExceptHandler (some (.Name x np)) none (b1 :: suite) pos' :: hds) ((c, none, ts) :: l)
  | named {x n : Str} {c : Value} {i : Nat} {ts : Addr → Value → Option Addr → TS} {b1 : Stmt} {suite : List Stmt} {np pos' : Pos} {hds : List ExceptHandler} {l : List Cl} (hN : X.N.Nodup) (hi : X.N[i]? = some n) (hln : X.env.kindOf n = some .local) (hc : Names X x c)
      (hsu : ∀ (a : Addr) (oe : Obj) (cls : Value) (d : Option Addr) (pn : List (Addr × Obj)), Zc cls d oe → (∃ vs, oe.data = .fields vs) → PSs (X.suite a ((a, oe) :: pn)) (b1 :: suite) (ts a cls d)) (r : MixOk X hds l) :
      MixOk X (.ExceptHandler (some (.Name x np)) (some n) (b1 :: suite) pos' :: hds) ((c, some i, ts) :: l)
section
variable {X : Cx} {body : List Stmt} {hd1 : ExceptHandler} {hds : List ExceptHandler} {l : List Cl} {pos : Pos} {tb : WX → TS} {Wout : WX}
theorem ps_try_mix (hs : X.stack = X.env :: X.outer) (hf : X.env.frame = some X.env.locals) (tk : Takes X Wout)
    (hb : ∀ (W : WX) (pn : List (Addr × Obj)) (xe : Value → Shared → Prop), Takes (X.tr pn xe) W → PassesOwn (model X.prog X.w) X.A X.env xe → PSs (X.tr pn xe) body (tb W))
    (hh : MixOk X (hd1 :: hds) l) : PS X (.Try body (hd1 :: hds) [] [] pos) (fun D σ H => tb (wMix X.K Wout D l) D σ H) := by
  refine ⟨fun pins s σ H D I h => ?_⟩
  have ok := I.ok
  have hfr : X.A.frames = some (X.env :: X.outer) := by rw [ok.frames, hs]
  refine wpAny_Try_except ?_
  refine wpAny_mono ((hb (wMix X.K Wout D l) (X.pn ++ pins) (fun e sa => wpAny (model X.prog X.w) X.A (noteFrame e X.env) (fun _ sb => wpAny (model X.prog X.w) X.A (setFlight e none) (fun _ sc =>
    wpAny (model X.prog X.w) X.A (handleBy e X.env (hd1 :: hds)) (SP X pins D) X.xe sc) X.xe sb) X.xe sa) (fun u s' xx => ?_) PassesOwn.looking).run [] s σ H D (I.toTry _) h) (fun f s1 hsp => ?_) (fun e s1 he => he)
  · obtain ⟨a, B, sI, pins', σ', H', cls, d, rfl, J', nb, up, sky, na, os, ag, w⟩ := xx
    have J : Inv X pins σ' H' sI := J'.ofTry ok
    have sky' : Sky B (X.env :: X.outer) a (Zc cls d) X.env.locals s'.heap := by rw [← hs]; exact sky
    show wpAny (model X.prog X.w) X.A (noteFrame (.ref a) X.env) _ _ _
    refine Sky.land Zc.steady hfr hf sky' fun h3 fl3 up3 => ?_
    have J3 : Inv X pins σ' H' { s' with heap := h3 } := J.landed nb fl3.1 (up.trans up3) os ag
    obtain ⟨oe3, vs3, he3, hz3, hd3⟩ := fl3.there
    have nfr : a ∉ frs (X.env :: X.outer) := fun hm => by
      obtain ⟨_, o', e', hnf⟩ := fl3.2.2.1.mem hm
      rw [he3] at e'
      cases e'
      exact hnf _ hd3
    have nL : a ≠ X.env.locals := fun z => nfr (List.mem_filterMap.mpr ⟨X.env, List.mem_cons_self, by rw [hf, z]⟩)
    have nF : a ∉ X.fs := fun hm => by
      obtain ⟨e, he, q⟩ := List.mem_filterMap.mp hm
      exact nfr (List.mem_filterMap.mpr ⟨e, List.mem_cons_of_mem _ he, q⟩)
    have S3 := J3.suite he3 hd3 na nL nF
    have test : ∀ {x : Str} {c : Value} {np : Pos} {Q : Value → Shared → Prop} {E : Value → Shared → Prop}, Names X x c → Q c { s' with heap := h3 } → wpAny (model X.prog X.w) (X.A.mark (some (.ref a))) (eval (.Name x np) X.env) Q E { s' with heap := h3 } := fun {x c np Q E} hc q => by
      obtain ⟨hg, hdbg, hm | ⟨hm, hv, hnn⟩⟩ := hc
      · exact ld_glob (X := X.suite a ((a, oe3) :: (X.pn ++ pins))) S3 hg hm q hdbg
      · exact ld_blt (X := X.suite a ((a, oe3) :: (X.pn ++ pins))) S3 hg hm hv q hnn hdbg
    have LT : PySem.W.Looks (model X.prog X.w) h3 (typeOf (.ref a)) cls := fun A Q E s k q => wpAny_typeOf_ref (k _ _ he3) (by rw [hz3.1]; exact q)
    have go : ∀ {hs2 : List ExceptHandler} {l2 : List Cl}, MixOk X hs2 l2 → wMix X.K Wout D l2 cls d σ' H' →
        wpAny (model X.prog X.w) X.A (handleBy (.ref a) X.env hs2) (SP X pins D) X.xe { s' with heap := h3 } := by
      intro hs2 l2 hk
      induction hk with
      | nil =>
        intro w
        refine wpAny_handleBy_nil ?_
        obtain ⟨k1, k2, k3, oe, vs, T, oT, ts', he, hz, hd, h1, hr⟩ := id fl3
        unfold PySem.passOn
        refine wpAny_bind (wpAny_field he hd h1 ?_)
        rw [if_neg (show ¬ ((Value.ref T == Value.none) = true) from by simp)]
        have fin : wpAny (model X.prog X.w) X.A (setFlight (.ref a) X.env.frame) (fun _ s4 => wpAny (model X.prog X.w) X.A (throw (.ref a) : Sem Flow) (SP X pins D) X.xe s4) X.xe { s' with heap := h3 } := by
          rw [hf]
          refine HandSPX.setFlight_upZ fl3 fun h4 hh4 up4 => wpAny_throw (tk _ _ ?_)
          exact ⟨a, B, sI, pins, σ', H', cls, d, rfl, J, nb, (up.trans up3).trans up4, .inr (.inr (by rw [hs]; exact hh4)), na, os, ag, w⟩
        first
          | exact wpAny_bind (wpAny_pure (wpAny_bind fin))
          | exact wpAny_bind fin
      | @plain x c ts b1 suite np pos' hds2 l3 hc hsu r ih =>
        intro w
        obtain ⟨b, hb1, hyes, hno⟩ := w
        refine wpAny_handleBy_cons (codeAny_handlers_test ?_) (by intro q; cases q)
        have LM := PySem.W.exm_one (M := model X.prog X.w) (J3.kIn) LT hb1
        refine test hc (LM.here ?_)
        cases b with
        | false =>
          show wpAny _ X.A (handleBy (.ref a) X.env hds2) _ _ _
          exact ih (hno rfl)
        | true =>
          refine codeAny_handlers_suite ?_
          refine HandSPX.lands_againZ fl3 fun h4 fl4 up4 => ?_
          have J4 : Inv X pins σ' H' { s' with heap := h4 } := J.landed nb fl4.1 ((up.trans up3).trans up4) os ag
          obtain ⟨oe4, vs4, he4, hz4, hd4⟩ := fl4.there
          have S4 := J4.suite he4 hd4 na nL nF
          refine wpAny_mono ((hsu a oe4 cls d (X.pn ++ pins) hz4 ⟨_, hd4⟩).run [] _ _ H' _ S4 (hyes rfl a na)) (fun fl s6 hsp => ?_) (fun _ _ z => False.elim z)
          cases fl with
          | ret u =>
            obtain ⟨v6, σ6, H6, S6, r6, q6⟩ := hsp
            exact ⟨_, _, _, S6.unsuite ok, r6, q6⟩
          | next => exact hsp.elim fun σ6 ⟨H6, S6, q6⟩ => ⟨_, _, S6.unsuite ok, q6⟩
          | brk => exact hsp.elim fun σ6 ⟨H6, S6, q6⟩ => ⟨_, _, S6.unsuite ok, q6⟩
          | cont => exact hsp.elim fun σ6 ⟨H6, S6, q6⟩ => ⟨_, _, S6.unsuite ok, q6⟩
      | @named x n c i ts b1 suite np pos' hds2 l3 hN hi hln hc hsu r ih =>
        intro w
        obtain ⟨b, hb1, hyes, hno⟩ := w
        refine wpAny_handleBy_cons (codeAny_handlers_test ?_) (by intro q; cases q)
        have LM := PySem.W.exm_one (M := model X.prog X.w) (J3.kIn) LT hb1
        refine test hc (LM.here ?_)
        cases b with
        | false =>
          show wpAny _ X.A (handleBy (.ref a) X.env hds2) _ _ _
          exact ih (hno rfl)
        | true =>
          refine codeAny_handlers_suite_as ?_
          refine HandSPX.lands_againZ fl3 fun h4 fl4 up4 => ?_
          have J4 : Inv X pins σ' H' { s' with heap := h4 } := J.landed nb fl4.1 ((up.trans up3).trans up4) os ag
          obtain ⟨oe4, vs4, he4, hz4, hd4⟩ := fl4.there
          have S4 := J4.suite he4 hd4 na nL nF
          refine store_ok (X := X.suite a ((a, oe4) :: (X.pn ++ pins))) (v := .ref a) S4 hN hi (.inl hln) rfl (fun s5 S5 => ?_) (.inr hln)
          refine wpAny_mono ((hsu a oe4 cls d (X.pn ++ pins) hz4 ⟨_, hd4⟩).run [] s5 _ H' _ S5 (hyes rfl a na)) (fun fl s6 hsp => ?_) (fun _ _ z => False.elim z)
          have gone : ∀ {σ6 : St} {H6 : Hp} {Q : Shared → Prop}, Inv (X.suite a ((a, oe4) :: (X.pn ++ pins))) [] σ6 H6 s6 → (∀ s7, Inv X pins (σ6.set i none) H6 s7 → Q s7) →
              wpAny (model X.prog X.w) X.A (do bindName X.env n .none; unbindBehindTheSuite X.env n pos') (fun _ s7 => Q s7) X.xe s6 := fun {σ6 H6 Q} S6 hq => gone_ok (S6.unsuite ok) hN hi hln hq
          cases fl with
          | ret u =>
            obtain ⟨v6, σ6, H6, S6, r6, q6⟩ := hsp
            exact gone S6 fun s7 J7 => ⟨_, _, _, J7, r6, q6⟩
          | next => exact hsp.elim fun σ6 ⟨H6, S6, q6⟩ => gone S6 fun s7 J7 => ⟨_, _, J7, q6⟩
          | brk => exact hsp.elim fun σ6 ⟨H6, S6, q6⟩ => gone S6 fun s7 J7 => ⟨_, _, J7, q6⟩
          | cont => exact hsp.elim fun σ6 ⟨H6, S6, q6⟩ => gone S6 fun s7 J7 => ⟨_, _, J7, q6⟩
    exact go hh w
  · cases f with
    | ret u =>
      obtain ⟨v, σ', H', J', r, q⟩ := hsp
      exact ⟨v, σ', H', J'.ofTry ok, r, q⟩
    | next =>
      obtain ⟨σ', H', J', q⟩ := hsp
      exact wpAny_execs_nil ⟨σ', H', J'.ofTry ok, q⟩
    | brk =>
      obtain ⟨σ', H', J', q⟩ := hsp
      exact ⟨σ', H', J'.ofTry ok, q⟩
    | cont =>
      obtain ⟨σ', H', J', q⟩ := hsp
      exact ⟨σ', H', J'.ofTry ok, q⟩
end
end L2
namespace L2
open PySem PySem.Spec PyProof.Rows
theorem roomH_mark {j k : Nat} {A : Around} (r : Room j A) (v : Option Value) (h : k ≤ j := by decide) : L2H.RoomH k (A.mark v) := ⟨(r.mono h).dp, (r.mono h).un⟩
/-- what a law asks of an error in hand: it is of one of the classes in l, in order amount, rate, day, pay, note: the places at which it answers -/
theorem kit_own {K : PySem.W.Frag} {C D : Addr} {b : Bool} (h : PySem.W.kitOne K (.ref C) (.ref D) = some b) : PySem.W.kitOne K (.ref C) (.ref D) = some b := h
end L2
namespace L2
open PySem PySem.Spec PyProof.Rows
theorem kit_sub {K : PySem.W.Frag} {C D : Addr} {b : Bool} (hd : PySem.W.hasDictIn K D = true) (ht : PySem.W.typeIn K (.ref D) = some (.type "type")) (hs : PySem.W.subIn K (.ref D) (.ref D) = some true) (h : PySem.W.subIn K (.ref C) (.ref D) = some b) : PySem.W.kitOne K (.ref C) (.ref D) = some b := by
  unfold PySem.W.kitOne
  by_cases e : (Value.ref C == Value.ref D) = true
  · rw [if_pos e]
    have e2 : C = D := Value.ref.inj (beq_iff_eq.mp e)
    rw [e2, hs] at h
    exact h
  · rw [if_neg e]
    obtain ⟨cd, hc, _⟩ := PySem.W.any_some hd
    have e2 : ((PySem.W.clsIn K D).isSome && PySem.W.typeIn K (.ref D) == some (.type "type")) = true := by rw [hc, ht] <;> rfl
    show (if ((PySem.W.clsIn K D).isSome && PySem.W.typeIn K (.ref D) == some (.type "type")) = true then PySem.W.subIn K (.ref C) (.ref D) else none) = some b
    rw [if_pos e2]
    exact h
theorem kit_ve {K : PySem.W.Frag} {C : Addr} (h : PySem.W.subIn K (.ref C) (.type "ValueError") = some true) : PySem.W.kitOne K (.ref C) (.type "ValueError") = some true := by
  unfold PySem.W.kitOne
  rw [if_neg (show ¬ (Value.ref C == Value.type "ValueError") = true from fun z => nomatch (beq_iff_eq.mp z))]
  show (if PySem.W.kitMeta "ValueError" = true then PySem.W.subIn K (.ref C) (.type "ValueError") else none) = some true
  rw [if_pos (by decide +kernel)]
  exact h
end L2
namespace L2
open PySem PySem.Spec PyProof.Rows
theorem pe_isS {X : Cx} {a : Addr} {oe : Obj} {cls : Value} {d : Option Addr} {pn : List (Addr × Obj)} {e1 e2 : Expr} {t1 t2 : TE} {p pos : Pos} (hz : Zc cls d oe) (hf : ∃ vs, oe.data = .fields vs) (hm : X.mg "isinstance" = none)
    (h1 : PE (X.suite a ((a, oe) :: pn)) e1 t1) (h2 : PE (X.suite a ((a, oe) :: pn)) e2 t2) (hg : Gl (X.suite a ((a, oe) :: pn)) "isinstance" := by rfl)
    (g1 : starEach (e1 :: [e2]) (X.suite a ((a, oe) :: pn)).env = (false, eval e1 (X.suite a ((a, oe) :: pn)).env) :: starEach [e2] (X.suite a ((a, oe) :: pn)).env := by rfl) (g2 : starEach (e2 :: []) (X.suite a ((a, oe) :: pn)).env = (false, eval e2 (X.suite a ((a, oe) :: pn)).env) :: starEach [] (X.suite a ((a, oe) :: pn)).env := by rfl)
    (g3 : (backTo pos (starEach [e2] (X.suite a ((a, oe) :: pn)).env)).any (·.1) = false := by rfl) :
    PE (X.suite a ((a, oe) :: pn)) (.Call (.Name "isinstance" p) [e1, e2] [] pos) (tCB (rIsX X.K cls d a) (tCons t1 (tCons t2 tNil))) :=
  pe_callB (X := X.suite a ((a, oe) :: pn)) (id := "isinstance") (call_isX hz hf List.mem_cons_self) hg hm (by decide +kernel) (pa_cons h1 (pa_cons h2 pa_nil (hs := g2)) (hs := g1)) (by decide) (by decide) g1 g3
end L2
namespace L2
open PySem PySem.Spec PyProof.Rows
theorem ix_listK {X : Cx} {K : PySem.W.Frag} (h : X.K = K := by rfl) : IxR X (rIxL K) := by
  subst h
  exact ix_list
end L2
namespace Toy
open PySem L2
/-! ### the text by places -/
def top (i : Nat) : Stmt := PySem.Challenge.pw_loanplan_k08_whole_days_walked.main.body.getD i (.Pass ⟨0, 0, 0, 0⟩)
abbrev s_need_rate : Stmt := top 10
abbrev s_checked : Stmt := top 11
abbrev s_grown : Stmt := top 12
abbrev s_need_amount : Stmt := top 16
abbrev s_Loan_init : Stmt := inClass (top 17) 0
abbrev s_Loan_stand : Stmt := inClass (top 17) 1
abbrev s_Loan_owed : Stmt := inClass (top 17) 2
abbrev s_Loan_pay : Stmt := inClass (top 17) 3
abbrev s_Loan_change : Stmt := inClass (top 17) 4
abbrev s_law_cell_at : Stmt := top 19
abbrev s_law_whole : Stmt := top 20
abbrev s_law_mixed : Stmt := top 21
abbrev s_law_rate_by : Stmt := top 22
abbrev s_law_rate_of : Stmt := top 23
abbrev s_law_amount_by : Stmt := top 24
abbrev s_law_owed : Stmt := top 25
abbrev s_law_parts : Stmt := top 26
abbrev s_law_two : Stmt := top 27
abbrev s_law_walked : Stmt := top 28
abbrev s_law_cents_by : Stmt := top 29
abbrev s_law_pay : Stmt := top 30
abbrev s_law_no_pay : Stmt := top 31
abbrev s_law_change : Stmt := top 32
abbrev s_law_look : Stmt := top 33
abbrev s_law_deed : Stmt := top 34
abbrev s_law_as_told : Stmt := top 35
abbrev s_law : Stmt := top 36
/-! ### the names of each def by slots -/
theorem sc_need_rate : FnScope ["rate"] ["rate"] (defScope s_need_rate) := ⟨rfl, rfl, rfl, by decide +kernel, rfl, by decide +kernel, by decide +kernel⟩
theorem sc_checked : FnScope ["rates", "ahead", "day", "rate"] ["rates"] (defScope s_checked) := ⟨rfl, rfl, rfl, by decide +kernel, rfl, by decide +kernel, by decide +kernel⟩
theorem sc_grown : FnScope ["rates", "start", "end", "total", "stop", "k", "day", "rate", "begin"] ["rates", "start", "end"] (defScope s_grown) := ⟨rfl, rfl, rfl, by decide +kernel, rfl, by decide +kernel, by decide +kernel⟩
theorem sc_need_amount : FnScope ["amount"] ["amount"] (defScope s_need_amount) := ⟨rfl, rfl, rfl, by decide +kernel, rfl, by decide +kernel, by decide +kernel⟩
theorem sc_Loan_init : FnScope ["self", "amount", "rates"] ["self", "amount", "rates"] (defScope s_Loan_init) := ⟨rfl, rfl, rfl, by decide +kernel, rfl, by decide +kernel, by decide +kernel⟩
theorem sc_Loan_stand : FnScope ["self", "day"] ["self", "day"] (defScope s_Loan_stand) := ⟨rfl, rfl, rfl, by decide +kernel, rfl, by decide +kernel, by decide +kernel⟩
theorem sc_Loan_owed : FnScope ["self", "day", "left", "begun"] ["self", "day"] (defScope s_Loan_owed) := ⟨rfl, rfl, rfl, by decide +kernel, rfl, by decide +kernel, by decide +kernel⟩
theorem sc_Loan_pay : FnScope ["self", "day", "cents", "left", "begun", "owed", "interest", "off"] ["self", "day", "cents"] (defScope s_Loan_pay) := ⟨rfl, rfl, rfl, by decide +kernel, rfl, by decide +kernel, by decide +kernel⟩
theorem sc_Loan_change : FnScope ["self", "day", "rate"] ["self", "day", "rate"] (defScope s_Loan_change) := ⟨rfl, rfl, rfl, by decide +kernel, rfl, by decide +kernel, by decide +kernel⟩
theorem sc_law_cell_at : FnScope ["_law_script", "_law_k"] ["_law_script", "_law_k"] (defScope s_law_cell_at) := ⟨rfl, rfl, rfl, by decide +kernel, rfl, by decide +kernel, by decide +kernel⟩
theorem sc_law_whole : FnScope ["_law_found"] ["_law_found"] (defScope s_law_whole) := ⟨rfl, rfl, rfl, by decide +kernel, rfl, by decide +kernel, by decide +kernel⟩
theorem sc_law_mixed : FnScope ["_law_cell", "_law_many"] ["_law_cell", "_law_many"] (defScope s_law_mixed) := ⟨rfl, rfl, rfl, by decide +kernel, rfl, by decide +kernel, by decide +kernel⟩
theorem sc_law_rate_by : FnScope ["_law_cell"] ["_law_cell"] (defScope s_law_rate_by) := ⟨rfl, rfl, rfl, by decide +kernel, rfl, by decide +kernel, by decide +kernel⟩
theorem sc_law_rate_of : FnScope ["_law_row", "_law_day", "_law_found", "_law_pair"] ["_law_row", "_law_day"] (defScope s_law_rate_of) := ⟨rfl, rfl, rfl, by decide +kernel, rfl, by decide +kernel, by decide +kernel⟩
theorem sc_law_amount_by : FnScope ["_law_cell"] ["_law_cell"] (defScope s_law_amount_by) := ⟨rfl, rfl, rfl, by decide +kernel, rfl, by decide +kernel, by decide +kernel⟩
theorem sc_law_owed : FnScope ["_law_left", "_law_begun"] ["_law_left", "_law_begun"] (defScope s_law_owed) := ⟨rfl, rfl, rfl, by decide +kernel, rfl, by decide +kernel, by decide +kernel⟩
theorem sc_law_parts : FnScope ["_law_left", "_law_begun", "_law_cents", "_law_owed_here", "_law_interest", "_law_off"] ["_law_left", "_law_begun", "_law_cents"] (defScope s_law_parts) := ⟨rfl, rfl, rfl, by decide +kernel, rfl, by decide +kernel, by decide +kernel⟩
theorem sc_law_two : FnScope ["_law_found", "_law_one", "_law_other"] ["_law_found", "_law_one", "_law_other"] (defScope s_law_two) := ⟨rfl, rfl, rfl, by decide +kernel, rfl, by decide +kernel, by decide +kernel⟩
theorem sc_law_walked : FnScope ["_law_stood", "_law_day", "_law_left", "_law_begun", "_law_at", "_law_row", "_law_first", "_law_k"] ["_law_stood", "_law_day"] (defScope s_law_walked) := ⟨rfl, rfl, rfl, by decide +kernel, rfl, by decide +kernel, by decide +kernel⟩
theorem sc_law_cents_by : FnScope ["_law_size", "_law_left", "_law_begun", "_law_owed_here", "_law_some"] ["_law_size", "_law_left", "_law_begun"] (defScope s_law_cents_by) := ⟨rfl, rfl, rfl, by decide +kernel, rfl, by decide +kernel, by decide +kernel⟩
theorem sc_law_pay : FnScope ["_law_loan", "_law_stood", "_law_day", "_law_size", "_law_begun", "_law_cents", "_law_due", "_law_found"] ["_law_loan", "_law_stood", "_law_day", "_law_size"] (defScope s_law_pay) := ⟨rfl, rfl, rfl, by decide +kernel, rfl, by decide +kernel, by decide +kernel⟩
theorem sc_law_no_pay : FnScope ["_law_loan", "_law_stood", "_law_day", "_law_size", "_law_cents"] ["_law_loan", "_law_stood", "_law_day", "_law_size"] (defScope s_law_no_pay) := ⟨rfl, rfl, rfl, by decide +kernel, rfl, by decide +kernel, by decide +kernel⟩
theorem sc_law_change : FnScope ["_law_loan", "_law_stood", "_law_day", "_law_size", "_law_rate", "_law_good", "_law_found"] ["_law_loan", "_law_stood", "_law_day", "_law_size"] (defScope s_law_change) := ⟨rfl, rfl, rfl, by decide +kernel, rfl, by decide +kernel, by decide +kernel⟩
theorem sc_law_look : FnScope ["_law_loan", "_law_stood", "_law_day", "_law_begun", "_law_first", "_law_owed_here"] ["_law_loan", "_law_stood", "_law_day"] (defScope s_law_look) := ⟨rfl, rfl, rfl, by decide +kernel, rfl, by decide +kernel, by decide +kernel⟩
theorem sc_law_deed : FnScope ["_law_loan", "_law_stood", "_law_day", "_law_number", "_law_size", "_law_kind"] ["_law_loan", "_law_stood", "_law_day", "_law_number"] (defScope s_law_deed) := ⟨rfl, rfl, rfl, by decide +kernel, rfl, by decide +kernel, by decide +kernel⟩
theorem sc_law_as_told : FnScope ["_law_loan", "_law_stood"] ["_law_loan", "_law_stood"] (defScope s_law_as_told) := ⟨rfl, rfl, rfl, by decide +kernel, rfl, by decide +kernel, by decide +kernel⟩
theorem sc_law : FnScope ["_law_script", "_law_row", "_law_amounts", "_law_loans", "_law_stood", "_law_far", "_law_number", "_law_which", "_law_day", "_law_good", "_law_amount"] ["_law_script"] (defScope s_law) := ⟨rfl, rfl, rfl, by decide +kernel, rfl, by decide +kernel, by decide +kernel⟩
/-! ### what the top has left -/
structure Txt (K : PySem.W.Frag) (mg : Str → Option Value) where
  b_tuple : mg "tuple" = none
  b_len : mg "len" = none
  b_max : mg "max" = none
  b_min : mg "min" = none
  b_int : mg "int" = none
  b_bool : mg "bool" = none
  b_list : mg "list" = none
  b_range : mg "range" = none
  b_isinstance : mg "isinstance" = none
  b_ValueError : mg "ValueError" = none
  c_MOST_DAY : ∃ t, mg "MOST_DAY" = some (.int 100000 t)
  c_MOST_RATE : ∃ t, mg "MOST_RATE" = some (.int 100000 t)
  c_MOST_AMOUNT : ∃ t, mg "MOST_AMOUNT" = some (.int 1000000000000 t)
  c_MILLION : ∃ t, mg "MILLION" = some (.int 1000000 t)
  a_LoanError : Addr
  g_LoanError : mg "LoanError" = some (.ref a_LoanError)
  e_LoanError : ExC K a_LoanError
  a_BadAmount : Addr
  g_BadAmount : mg "BadAmount" = some (.ref a_BadAmount)
  e_BadAmount : ExC K a_BadAmount
  a_BadRate : Addr
  g_BadRate : mg "BadRate" = some (.ref a_BadRate)
  e_BadRate : ExC K a_BadRate
  a_BadDay : Addr
  g_BadDay : mg "BadDay" = some (.ref a_BadDay)
  e_BadDay : ExC K a_BadDay
  a_BadPay : Addr
  g_BadPay : mg "BadPay" = some (.ref a_BadPay)
  e_BadPay : ExC K a_BadPay
  a_Loan : Addr
  g_Loan : mg "Loan" = some (.ref a_Loan)
  cl_Loan : Cls K a_Loan
  n_Loan_left : NoAttr K a_Loan "left"
  n_Loan_begun : NoAttr K a_Loan "begun"
  n_Loan_day : NoAttr K a_Loan "day"
  n_Loan_rates : NoAttr K a_Loan "rates"
  m_BadAmount_BadDay : PySem.W.exmOne K (.ref a_BadAmount) (.ref a_BadDay) = some false
  m_BadAmount_BadPay : PySem.W.exmOne K (.ref a_BadAmount) (.ref a_BadPay) = some false
  m_BadDay_BadDay : PySem.W.exmOne K (.ref a_BadDay) (.ref a_BadDay) = some true
  m_BadDay_BadPay : PySem.W.exmOne K (.ref a_BadDay) (.ref a_BadPay) = some false
  m_BadPay_BadDay : PySem.W.exmOne K (.ref a_BadPay) (.ref a_BadDay) = some false
  m_BadPay_BadPay : PySem.W.exmOne K (.ref a_BadPay) (.ref a_BadPay) = some true
  m_BadRate_BadDay : PySem.W.exmOne K (.ref a_BadRate) (.ref a_BadDay) = some false
  m_BadRate_BadPay : PySem.W.exmOne K (.ref a_BadRate) (.ref a_BadPay) = some false
section
variable {K : PySem.W.Frag} {mg : Str → Option Value}
def sp_need_rate (T : Txt K mg) : Sp := fun vs H Q E => ∃ (r : Int), vs = [.int r] ∧ (¬ (0 ≤ r ∧ r ≤ 100000) → E (.ref T.a_BadRate) none H) ∧ (0 ≤ r → r ≤ 100000 → Q .non H)
def sp_checked (T : Txt K mg) : Sp := fun vs H Q E => ∃ (l : Addr) (ts : List Trp), vs = [.ref l] ∧ Row H l ts ∧
  (chk (-1) (vals ts) = .day → E (.ref T.a_BadDay) none H) ∧ (chk (-1) (vals ts) = .rate → E (.ref T.a_BadRate) none H) ∧
  (chk (-1) (vals ts) = .ok → ∀ l2 H', Same H H' → H l2 = none → Row H' l2 ts → Q (.ref l2) H')
def sp_grown (_ : Txt K mg) : Sp := fun vs H Q _ => ∃ (l : Addr) (ts : List Trp) (s e : Int), vs = [.ref l, .int s, .int e] ∧ Row H l ts ∧ ts.length ≤ 1000 ∧ Good (vals ts) ∧ 0 ≤ s ∧ s ≤ e ∧ Q (.int (gsum (vals ts) s e)) H
def sp_need_amount (T : Txt K mg) : Sp := fun vs H Q E => ∃ (r : Int), vs = [.int r] ∧ (¬ (1 ≤ r ∧ r ≤ 1000000000000) → E (.ref T.a_BadAmount) none H) ∧ (1 ≤ r → r ≤ 1000000000000 → Q .non H)
def sp_Loan_init (T : Txt K mg) : Sp := fun vs H Q E => ∃ (x dx l : Addr) (am : Int) (ts : List Trp), vs = [.ref x, .int am, .ref l] ∧ H x = some (.ins T.a_Loan dx []) ∧ Row H l ts ∧
  (¬ (1 ≤ am ∧ am ≤ 1000000000000) → E (.ref T.a_BadAmount) none H) ∧
  (1 ≤ am → am ≤ 1000000000000 → chk (-1) (vals ts) = .day → E (.ref T.a_BadDay) none H) ∧ (1 ≤ am → am ≤ 1000000000000 → chk (-1) (vals ts) = .rate → E (.ref T.a_BadRate) none H) ∧
  (1 ≤ am → am ≤ 1000000000000 → chk (-1) (vals ts) = .ok → ∀ l2 H', But x H H' → H l2 = none → LoanAt T.a_Loan H' x dx l2 ts ⟨am, 0, 0⟩ → Q .non H')
def sp_Loan_stand (T : Txt K mg) : Sp := fun vs H Q E => ∃ (x dx l : Addr) (ts : List Trp) (z : Ln) (d : Int), vs = [.ref x, .int d] ∧ LoanAt T.a_Loan H x dx l ts z ∧ Rok (vals ts) ∧ LnOk z ∧
  (¬ (z.day ≤ d ∧ d ≤ 100000) → E (.ref T.a_BadDay) none H) ∧
  (z.day ≤ d → d ≤ 100000 → ∀ p H', Same H H' → H p = none → H' p = some (.tup [.int z.left, .int (begunAt (vals ts) z d)]) → Q (.ref p) H')
def sp_Loan_owed (T : Txt K mg) : Sp := fun vs H Q E => ∃ (x dx l : Addr) (ts : List Trp) (z : Ln) (d : Int), vs = [.ref x, .int d] ∧ LoanAt T.a_Loan H x dx l ts z ∧ Rok (vals ts) ∧ LnOk z ∧
  (¬ (z.day ≤ d ∧ d ≤ 100000) → E (.ref T.a_BadDay) none H) ∧
  (z.day ≤ d → d ≤ 100000 → ∀ H', Same H H' → Q (.int (owedF z.left (begunAt (vals ts) z d))) H')
def sp_Loan_pay (T : Txt K mg) : Sp := fun vs H Q E => ∃ (x dx l : Addr) (ts : List Trp) (z : Ln) (d c : Int), vs = [.ref x, .int d, .int c] ∧ LoanAt T.a_Loan H x dx l ts z ∧ Rok (vals ts) ∧ LnOk z ∧
  (¬ (z.day ≤ d ∧ d ≤ 100000) → E (.ref T.a_BadDay) none H) ∧
  (z.day ≤ d → d ≤ 100000 → ¬ (1 ≤ c ∧ c ≤ owedF z.left (begunAt (vals ts) z d)) → ∀ H', Same H H' → E (.ref T.a_BadPay) none H') ∧
  (z.day ≤ d → d ≤ 100000 → 1 ≤ c → c ≤ owedF z.left (begunAt (vals ts) z d) → ∀ p H', But x H H' → H p = none → LoanAt T.a_Loan H' x dx l ts (payLn (vals ts) z d c) →
    H' p = some (.tup [.int (payF z.left (begunAt (vals ts) z d) c).1, .int (payF z.left (begunAt (vals ts) z d) c).2.1]) → Q (.ref p) H')
def sp_Loan_change (T : Txt K mg) : Sp := fun vs H Q E => ∃ (x dx l : Addr) (ts : List Trp) (z : Ln) (d r : Int), vs = [.ref x, .int d, .int r] ∧ LoanAt T.a_Loan H x dx l ts z ∧ Rok (vals ts) ∧
  ((d ≤ z.day ∨ d ≤ lastDay (vals ts) ∨ d > 100000) → E (.ref T.a_BadDay) none H) ∧
  (¬ (d ≤ z.day ∨ d ≤ lastDay (vals ts) ∨ d > 100000) → ¬ (0 ≤ r ∧ r ≤ 100000) → E (.ref T.a_BadRate) none H) ∧
  (¬ (d ≤ z.day ∨ d ≤ lastDay (vals ts) ∨ d > 100000) → 0 ≤ r → r ≤ 100000 → ∀ p H', But l H H' → H p = none → LoanAt T.a_Loan H' x dx l (ts ++ [(p, d, r)]) z → Q .non H')
def sp_law_cell_at (_ : Txt K mg) : Sp := fun vs H Q _ => ∃ (a : Addr) (ns : List Int) (k : Int), vs = [.ref a, .int k] ∧ SqL K H a (ns.map V.int) ∧ 0 ≤ k ∧ Q (.int (cellAt ns k)) H
def sp_law_whole (_ : Txt K mg) : Sp := fun vs H Q _ => ∃ (c : Int), vs = [.int c] ∧ Q (.bl true) H
def sp_law_mixed (_ : Txt K mg) : Sp := fun vs H Q _ => ∃ (c m : Int), vs = [.int c, .int m] ∧ 0 < m ∧ Q (.int (mixed c m)) H
def sp_law_rate_by (_ : Txt K mg) : Sp := fun vs H Q _ => ∃ (c : Int), vs = [.int c] ∧ ∀ H', Same H H' → Q (.int (rateBy c)) H'
def sp_law_rate_of (_ : Txt K mg) : Sp := fun vs H Q _ => ∃ (l : Addr) (ts : List Trp) (d : Int), vs = [.ref l, .int d] ∧ Row H l ts ∧ Q (.int (rateOn (vals ts) d)) H
def sp_law_amount_by (_ : Txt K mg) : Sp := fun vs H Q _ => ∃ (c : Int), vs = [.int c] ∧ ∀ H', Same H H' → Q (.int (amountBy c)) H'
def sp_law_owed (_ : Txt K mg) : Sp := fun vs H Q _ => ∃ (l b : Int), vs = [.int l, .int b] ∧ Q (.int (owedF l b)) H
def sp_law_parts (_ : Txt K mg) : Sp := fun vs H Q _ => ∃ (l b c : Int), vs = [.int l, .int b, .int c] ∧
  ∀ p H', Same H H' → H p = none → H' p = some (.tup [.int (payF l b c).1, .int (payF l b c).2.1, .int (payF l b c).2.2.1, .int (payF l b c).2.2.2]) → Q (.ref p) H'
def sp_law_two (_ : Txt K mg) : Sp := fun vs H Q _ => ∃ (a : Addr) (x y : Int), vs = [.ref a, .int x, .int y] ∧ H a = some (.tup [.int x, .int y]) ∧ Q (.bl true) H
/-- what the law keeps of a loan: a list of what is left, begun, its day, its row -/
structure Std (H : Hp) (st lq : Addr) (tq : List Trp) (z : Ln) : Prop where
  lst : H st = some (.lst [.int z.left, .int z.begun, .int z.day, .ref lq])
  row : Row H lq tq
theorem Std.same {H H' : Hp} {st lq : Addr} {tq : List Trp} {z : Ln} (S : Std H st lq tq z) (s : Same H H') : Std H' st lq tq z := ⟨s _ _ S.lst, S.row.same s⟩
theorem begunAt_const {ps : List Pr} {z : Ln} {f c : Int} (h : z.day ≤ f) (hc : ∀ d, z.day < d → d ≤ f → rateOn ps d = c) : begunAt ps z f = z.begun + z.left * c * (f - z.day) := by
  unfold begunAt
  rw [gsum_const h hc, Int.mul_assoc, Int.mul_comm (f - z.day) c]
theorem begunAt_step {ps : List Pr} {z : Ln} {d : Int} (h : z.day ≤ d) : begunAt ps z (d + 1) = begunAt ps z d + z.left * rateOn ps (d + 1) := by
  unfold begunAt
  rw [gsum_split (m := d) h (by omega), gsum_one, Int.mul_add, Int.add_assoc]
theorem rateOn_first {ps : List Pr} {r0 : Int} {p1 : Pr} {rest : List Pr} (g : Good ps) (e : ps = (0, r0) :: p1 :: rest) {d : Int} (h0 : 0 ≤ d) (h : d < p1.1) : rateOn ps d = r0 := by
  have u := g.up
  rw [e] at u ⊢
  refine rateOn_at (A := []) (p := (0, r0)) h0 fun q hq => ?_
  rcases List.mem_cons.mp hq with e1 | e1
  · rw [e1]; exact h
  · have := Up.mem u.2.2 q e1
    omega
theorem rateOn_only {r0 d : Int} (h0 : 0 ≤ d) : rateOn [(0, r0)] d = r0 := rateOn_at (A := []) (p := (0, r0)) (B := []) h0 fun q hq => by cases hq
theorem Std.ne_row {H : Hp} {st lq l : Addr} {tq us : List Trp} {z : Ln} (S : Std H st lq tq z) (R : Row H l us) : st ≠ l := by
  intro y
  have h1 := S.lst
  rw [y, R.lst] at h1
  cases us with
  | nil => cases h1
  | cons a u => cases h1
def sp_law_walked (_ : Txt K mg) : Sp := fun vs H Q _ => ∃ (st lq : Addr) (tq : List Trp) (z : Ln) (d : Int), vs = [.ref st, .int d] ∧ Std H st lq tq z ∧ Rok (vals tq) ∧ LnOk z ∧ z.day ≤ d ∧ d ≤ 100000 ∧ Q (.int (begunAt (vals tq) z d)) H
def sp_law_cents_by (_ : Txt K mg) : Sp := fun vs H Q _ => ∃ (c l b : Int), vs = [.int c, .int l, .int b] ∧ 1 ≤ owedF l b ∧ ∀ n H', Same H H' → 1 ≤ n → n ≤ owedF l b → Q (.int n) H'
def sp_law_pay (T : Txt K mg) : Sp := fun vs H Q _ => ∃ (x dx l st lq : Addr) (us tq : List Trp) (z : Ln) (d n : Int), vs = [.ref x, .ref st, .int d, .int n] ∧ LoanAt T.a_Loan H x dx l us z ∧ Std H st lq tq z ∧ vals us = vals tq ∧ Rok (vals us) ∧ LnOk z ∧ z.day ≤ d ∧ d ≤ 100000 ∧
  1 ≤ owedF z.left (begunAt (vals us) z d) ∧ ∀ c p st2 H', 1 ≤ c → c ≤ owedF z.left (begunAt (vals us) z d) → But x H H' → LoanAt T.a_Loan H' x dx l us (payLn (vals us) z d c) → Std H' st2 lq tq (payLn (vals us) z d c) → H' p = some (.tup [.bl true, .ref st2]) → Q (.ref p) H'
def sp_law_no_pay (T : Txt K mg) : Sp := fun vs H Q _ => ∃ (x dx l st lq : Addr) (us tq : List Trp) (z : Ln) (d n : Int), vs = [.ref x, .ref st, .int d, .int n] ∧ LoanAt T.a_Loan H x dx l us z ∧ Std H st lq tq z ∧ vals us = vals tq ∧ Rok (vals us) ∧ LnOk z ∧ z.day ≤ d ∧ d ≤ 100000 ∧
  ∀ H', Same H H' → Q (.bl true) H'
def sp_law_change (T : Txt K mg) : Sp := fun vs H Q _ => ∃ (x dx l st lq : Addr) (us tq : List Trp) (z : Ln) (d n : Int), vs = [.ref x, .ref st, .int d, .int n] ∧ LoanAt T.a_Loan H x dx l us z ∧ Std H st lq tq z ∧ vals us = vals tq ∧ Rok (vals us) ∧ us.length < 60 ∧ lq ≠ l ∧
  ((d ≤ z.day ∨ d ≤ lastDay (vals us) ∨ d > 100000) → ∀ p H', Same H H' → H' p = some (.tup [.bl true, .ref st]) → Q (.ref p) H') ∧
  (¬ (d ≤ z.day ∨ d ≤ lastDay (vals us) ∨ d > 100000) → ∀ r p p1 p2 st2 lq2 H', But l H H' → 0 ≤ r → r ≤ 100000 → H lq2 = none → LoanAt T.a_Loan H' x dx l (us ++ [(p1, d, r)]) z → Std H' st2 lq2 (tq ++ [(p2, d, r)]) z → H' p = some (.tup [.bl true, .ref st2]) → Q (.ref p) H')
def sp_law_look (T : Txt K mg) : Sp := fun vs H Q _ => ∃ (x dx l st lq : Addr) (us tq : List Trp) (z : Ln) (d : Int), vs = [.ref x, .ref st, .int d] ∧ LoanAt T.a_Loan H x dx l us z ∧ Std H st lq tq z ∧ vals us = vals tq ∧ Rok (vals us) ∧ LnOk z ∧ z.day ≤ d ∧ d ≤ 100000 ∧
  ∀ H', Same H H' → Q (.bl true) H'
def sp_law_deed (T : Txt K mg) : Sp := fun vs H Q _ => ∃ (x dx l st lq : Addr) (us tq : List Trp) (z : Ln) (d n : Int), vs = [.ref x, .ref st, .int d, .int n] ∧ LoanAt T.a_Loan H x dx l us z ∧ Std H st lq tq z ∧ vals us = vals tq ∧ Rok (vals us) ∧ us.length ≤ 60 ∧ LnOk z ∧ z.day ≤ d ∧ d ≤ 100000 ∧ lq ≠ l ∧
  ∀ p st2 lq2 us2 tq2 z2 H', (∀ b o, H b = some o → b ≠ x → b ≠ l → H' b = some o) → LoanAt T.a_Loan H' x dx l us2 z2 → Std H' st2 lq2 tq2 z2 → vals us2 = vals tq2 → Rok (vals us2) → us2.length ≤ 60 → LnOk z2 → (lq2 = lq ∨ H lq2 = none) → (vals us2).take 1 = (vals us).take 1 →
    H' p = some (.tup [.bl true, .ref st2]) → Q (.ref p) H'
def sp_law_as_told (T : Txt K mg) : Sp := fun vs H Q _ => ∃ (x dx l st lq : Addr) (us tq : List Trp) (z : Ln), vs = [.ref x, .ref st] ∧ LoanAt T.a_Loan H x dx l us z ∧ Std H st lq tq z ∧ vals us = vals tq ∧ ∀ H', Same H H' → Q (.bl true) H'
/-- one loan and what the law keeps of it -/
structure Lr where
  x : Addr
  dx : Addr
  l : Addr
  st : Addr
  lq : Addr
  us : List Trp
  tq : List Trp
  z : Ln
structure One (C : Addr) (r0 : Int) (B H : Hp) (r : Lr) : Prop where
  X : LoanAt C H r.x r.dx r.l r.us r.z
  S : Std H r.st r.lq r.tq r.z
  e : vals r.us = vals r.tq
  rok : Rok (vals r.us)
  len : r.us.length ≤ 60
  lok : LnOk r.z
  n : r.lq ≠ r.l
  bx : B r.x = none
  bl : B r.l = none
  hd : (vals r.us).take 1 = [(0, r0)]
/-- two places: the w-th is a -/
def prV (w : Nat) (a b : Addr) : List V := if w = 0 then [.ref a, .ref b] else [.ref b, .ref a]
structure Two (C : Addr) (r0 : Int) (B H : Hp) (ll ls : Addr) (w : Nat) (r q : Lr) : Prop where
  a : One C r0 B H r
  b : One C r0 B H q
  hl : H ll = some (.lst (prV w r.x q.x))
  hs : H ls = some (.lst (prV w r.st q.st))
  nx : r.x ≠ q.x
  nl : r.l ≠ q.l
  n1 : r.lq ≠ q.l
  n2 : q.lq ≠ r.l
theorem One.same {C r0 B H H' r} (h : One C r0 B H r) (s : Same H H') : One C r0 B H' r := ⟨h.X.same s, h.S.same s, h.e, h.rok, h.len, h.lok, h.n, h.bx, h.bl, h.hd⟩
theorem Two.same {C r0 B H H' ll ls w r q} (h : Two C r0 B H ll ls w r q) (s : Same H H') : Two C r0 B H' ll ls w r q := ⟨h.a.same s, h.b.same s, s _ _ h.hl, s _ _ h.hs, h.nx, h.nl, h.n1, h.n2⟩
theorem prV_flip (a b : Addr) : prV 1 a b = prV 0 b a := rfl
theorem Two.flip {C r0 B H ll ls r q} (h : Two C r0 B H ll ls 0 r q) : Two C r0 B H ll ls 1 q r := ⟨h.b, h.a, h.hl, h.hs, Ne.symm h.nx, Ne.symm h.nl, h.n2, h.n1⟩
theorem Two.flop {C r0 B H ll ls r q} (h : Two C r0 B H ll ls 1 r q) : Two C r0 B H ll ls 0 q r := ⟨h.b, h.a, h.hl, h.hs, Ne.symm h.nx, Ne.symm h.nl, h.n2, h.n1⟩
theorem Two.at {C r0 B H ll ls r q} (h : Two C r0 B H ll ls 0 r q) {w : Nat} (hw : w < 2) : ∃ r1 q1, Two C r0 B H ll ls w r1 q1 := by
  match w, hw with
  | 0, _ => exact ⟨_, _, h⟩
  | 1, _ => exact ⟨_, _, h.flip⟩
theorem Two.zero {C r0 B H ll ls r q} {w : Nat} (h : Two C r0 B H ll ls w r q) (hw : w < 2) : ∃ r1 q1, Two C r0 B H ll ls 0 r1 q1 := by
  match w, hw with
  | 0, _ => exact ⟨_, _, h⟩
  | 1, _ => exact ⟨_, _, h.flop⟩
theorem prV_at {w : Nat} (hw : w < 2) (a b : Addr) : (prV w a b)[w]? = some (.ref a) := by
  match w, hw with
  | 0, _ => rfl
  | 1, _ => rfl
theorem prV_set {w : Nat} (hw : w < 2) (a b c : Addr) : (prV w a b).set w (.ref c) = prV w c b := by
  match w, hw with
  | 0, _ => rfl
  | 1, _ => rfl
theorem prV_ix {w : Nat} (hw : w < 2) (a b : Addr) : ixN (prV w a b).length (w : Int) = some w := by
  match w, hw with
  | 0, _ => rfl
  | 1, _ => rfl
theorem prV_head (w : Nat) (a b : Addr) : ∃ c v, prV w a b = .ref c :: v ∧ (c = a ∨ c = b) := by
  unfold prV
  split
  · exact ⟨_, _, rfl, .inl rfl⟩
  · exact ⟨_, _, rfl, .inr rfl⟩
/-- a list whose first is no pair is no row -/
theorem ne_refs {H : Hp} {l q a : Addr} {us : List Trp} {v : List V} {o : HO} (R : Row H l us) (ne : us ≠ []) (hq : H q = some (.lst (.ref a :: v))) (ha : H a = some o) (ho : ∀ p, o ≠ tupV p) : l ≠ q := by
  intro y
  have h1 := R.lst
  rw [y, hq] at h1
  cases us with
  | nil => exact ne rfl
  | cons t u =>
    have h2 : (V.ref a :: v) = V.ref t.1 :: rowV u := HO.lst.inj (Option.some.inj h1)
    have h3 : a = t.1 := V.ref.inj (List.cons.inj h2).1
    have h4 := R.prs t (by simp)
    rw [← h3, ha] at h4
    exact ho _ (Option.some.inj h4)
theorem One.ne {C r0 B H r} (h : One C r0 B H r) : r.us ≠ [] := good_ne h.rok.g
theorem One.ne2 {C r0 B H r} (h : One C r0 B H r) : r.tq ≠ [] := by
  have g := h.rok.g
  rw [h.e] at g
  exact good_ne g
/-- a list of others changes -/
theorem One.but {C r0 B H H' r} {m a : Addr} {v : List V} {o : HO} (h : One C r0 B H r) (hm : H m = some (.lst (.ref a :: v))) (ha : H a = some o) (ho : ∀ p, o ≠ tupV p) (b : But m H H') : One C r0 B H' r :=
  ⟨b.loan hm (ne_refs h.X.row h.ne hm ha ho) h.X, ⟨b _ _ h.S.lst (by
    intro y
    have h1 := h.S.lst
    rw [y, hm] at h1
    cases h1), b.rowl hm (ne_refs h.S.row h.ne2 hm ha ho) h.S.row⟩, h.e, h.rok, h.len, h.lok, h.n, h.bx, h.bl, h.hd⟩
theorem Two.hl' {C r0 B H ll ls w r q} (h : Two C r0 B H ll ls w r q) : ∃ a v o, H ll = some (.lst (.ref a :: v)) ∧ H a = some o ∧ (∀ p, o ≠ tupV p) ∧ ∃ C d f, o = .ins C d f := by
  obtain ⟨c, v, e, hc⟩ := prV_head w r.x q.x
  have h1 := h.hl
  rw [e] at h1
  rcases hc with rfl | rfl
  · exact ⟨_, _, _, h1, h.a.X.ob, (fun p y => by cases y), _, _, _, rfl⟩
  · exact ⟨_, _, _, h1, h.b.X.ob, (fun p y => by cases y), _, _, _, rfl⟩
theorem Two.hs' {C r0 B H ll ls w r q} (h : Two C r0 B H ll ls w r q) : ∃ a v o, H ls = some (.lst (.ref a :: v)) ∧ H a = some o ∧ (∀ p, o ≠ tupV p) ∧ ∃ f, o = .lst f := by
  obtain ⟨c, v, e, hc⟩ := prV_head w r.st q.st
  have h1 := h.hs
  rw [e] at h1
  rcases hc with rfl | rfl
  · exact ⟨_, _, _, h1, h.a.S.lst, (fun p y => by cases y), _, rfl⟩
  · exact ⟨_, _, _, h1, h.b.S.lst, (fun p y => by cases y), _, rfl⟩
theorem Two.nls {C r0 B H ll ls w r q} (h : Two C r0 B H ll ls w r q) : ll ≠ ls := by
  obtain ⟨a, v, o, h1, h2, _, _, _, _, rfl⟩ := h.hl'
  obtain ⟨b, u, o2, h3, h4, _, _, rfl⟩ := h.hs'
  intro y
  rw [y, h3] at h1
  cases h1
  rw [h2] at h4
  cases h4
/-- a deed of r: then its list is put in its place -/
theorem Two.deed {C r0 B H H' ll ls w r q} (h : Two C r0 B H ll ls w r q) (hw : w < 2) (fr : ∀ b o, H b = some o → b ≠ r.x → b ≠ r.l → H' b = some o) {st2 lq2 : Addr} {us2 tq2 : List Trp} {z2 : Ln} (A : LoanAt C H' r.x r.dx r.l us2 z2)
    (S : Std H' st2 lq2 tq2 z2) (e : vals us2 = vals tq2) (rok : Rok (vals us2)) (len : us2.length ≤ 60) (lok : LnOk z2) (hq : lq2 = r.lq ∨ H lq2 = none) (hd : (vals us2).take 1 = (vals r.us).take 1) :
    H' ls = some (.lst (prV w r.st q.st)) ∧ Two C r0 B (L2.upd H' ls (.lst (prV w st2 q.st))) ll ls w ⟨r.x, r.dx, r.l, st2, lq2, us2, tq2, z2⟩ q := by
  have kx : ∀ b o, H b = some o → (∀ C d f, o ≠ .ins C d f) → b ≠ r.x := fun b o hb no y => by
    rw [y, h.a.X.ob] at hb
    exact no _ _ _ (Option.some.inj hb).symm
  have kl : ∀ b o, H b = some o → (∀ f, o ≠ .lst f) → b ≠ r.l := fun b o hb no y => by
    rw [y, h.a.X.row.lst] at hb
    exact no _ (Option.some.inj hb).symm
  have fl : ∀ b f, H b = some (.lst f) → b ≠ r.l → H' b = some (.lst f) := fun b f hb n => fr b _ hb (kx b _ hb (fun _ _ _ y => by cases y)) n
  have ft : ∀ t ∈ q.us, H' t.1 = some (tupV t.2) := fun t ht => fr _ _ (h.b.X.row.prs t ht) (kx _ _ (h.b.X.row.prs t ht) (fun _ _ _ y => by cases y)) (kl _ _ (h.b.X.row.prs t ht) (fun _ y => by cases y))
  have ft2 : ∀ t ∈ q.tq, H' t.1 = some (tupV t.2) := fun t ht => fr _ _ (h.b.S.row.prs t ht) (kx _ _ (h.b.S.row.prs t ht) (fun _ _ _ y => by cases y)) (kl _ _ (h.b.S.row.prs t ht) (fun _ y => by cases y))
  have q1 : One C r0 B H' q := ⟨⟨fr _ _ h.b.X.ob (Ne.symm h.nx) (kl _ _ h.b.X.ob (fun _ y => by cases y)), ⟨fl _ _ h.b.X.row.lst (Ne.symm h.nl), ft⟩⟩,
    ⟨fl _ _ h.b.S.lst (h.b.S.ne_row h.a.X.row), ⟨fl _ _ h.b.S.row.lst h.n2, ft2⟩⟩, h.b.e, h.b.rok, h.b.len, h.b.lok, h.b.n, h.b.bx, h.b.bl, h.b.hd⟩
  have nlq : ∀ l2 o, H l2 = some o → r.lq ≠ l2 → lq2 ≠ l2 := fun l2 o hl n => by
    rcases hq with hq | hq
    · rw [hq]; exact n
    · exact Ne.symm (ne_of_none hl hq)
  have r1 : One C r0 B H' ⟨r.x, r.dx, r.l, st2, lq2, us2, tq2, z2⟩ := ⟨A, S, e, rok, len, lok, nlq _ _ h.a.X.row.lst h.a.n, h.a.bx, h.a.bl, hd.trans h.a.hd⟩
  obtain ⟨a, v, o, h1, h2, h3, _⟩ := h.hl'
  have hll : H' ll = some (.lst (prV w r.x q.x)) := fl _ _ h.hl (Ne.symm (ne_refs h.a.X.row h.a.ne h1 h2 h3))
  obtain ⟨a2, v2, o2, h4, h5, h6, _⟩ := h.hs'
  have hls : H' ls = some (.lst (prV w r.st q.st)) := fl _ _ h.hs (Ne.symm (ne_refs h.a.X.row h.a.ne h4 h5 h6))
  have hst : H' r.st = some (.lst [.int r.z.left, .int r.z.begun, .int r.z.day, .ref r.lq]) := fl _ _ h.a.S.lst (h.a.S.ne_row h.a.X.row)
  obtain ⟨c, u, ec, hc⟩ := prV_head w r.st q.st
  have hc2 : ∃ f, H' c = some (.lst f) := by
    rcases hc with rfl | rfl
    · exact ⟨_, hst⟩
    · exact ⟨_, q1.S.lst⟩
  obtain ⟨f, hf⟩ := hc2
  have hls2 := hls
  rw [ec] at hls2
  have bb : But ls H' (L2.upd H' ls (.lst (prV w st2 q.st))) := (But.of (Same.refl H')).upd _
  refine ⟨hls, r1.but hls2 hf (fun _ y => by cases y) bb, q1.but hls2 hf (fun _ y => by cases y) bb, bb _ _ hll h.nls, upd_same, h.nx, h.nl, nlq _ _ h.b.X.row.lst h.n1, h.n2⟩
/-- a new loan in the place of r -/
theorem Two.anew {C r0 B H H2 ll ls lr w r q} (h : Two C r0 B H ll ls w r q) (hw : w < 2) (sB : Same B H) (bll : B ll = none) (s2 : Same H H2) {x dx l : Addr} {ts : List Trp} {am : Int} (nx : H x = none) (nl : H l = none) (A : LoanAt C H2 x dx l ts ⟨am, 0, 0⟩) (R : Row B lr ts)
    (rok : Rok (vals ts)) (len : ts.length ≤ 60) (lok : LnOk ⟨am, 0, 0⟩) (hd : (vals ts).take 1 = [(0, r0)]) {lq st : Addr} (n3 : L2.upd H2 ll (.lst (prV w x q.x)) lq = none) (n4 : L2.upd (L2.upd H2 ll (.lst (prV w x q.x))) lq (.lst (rowV ts)) st = none) :
    Same B (L2.upd H2 ll (.lst (prV w x q.x))) ∧ L2.upd (L2.upd (L2.upd H2 ll (.lst (prV w x q.x))) lq (.lst (rowV ts))) st (.lst [.int am, .int 0, .int 0, .ref lq]) ls = some (.lst (prV w r.st q.st)) ∧
    Two C r0 B (L2.upd (L2.upd (L2.upd (L2.upd H2 ll (.lst (prV w x q.x))) lq (.lst (rowV ts))) st (.lst [.int am, .int 0, .int 0, .ref lq])) ls (.lst (prV w st q.st))) ll ls w ⟨x, dx, l, st, lq, ts, ts, ⟨am, 0, 0⟩⟩ q := by
  have h2 := h.same s2
  obtain ⟨a, v, o, e1, e2, e3, _⟩ := h2.hl'
  have b3 : But ll H2 (L2.upd H2 ll (.lst (prV w x q.x))) := (But.of (Same.refl H2)).upd _
  have u3 : (L2.upd H2 ll (.lst (prV w x q.x))) ll = some (.lst (prV w x q.x)) := upd_same
  generalize L2.upd H2 ll (.lst (prV w x q.x)) = H3 at n3 n4 b3 u3 ⊢
  have sB3 : Same B H3 := fun b o hb => b3 _ _ (s2 _ _ (sB _ _ hb)) (ne_of_none hb bll)
  have R3 := R.same sB3
  have bx : B x = none := sB.free nx
  have bl : B l = none := sB.free nl
  have nels : ts ≠ [] := good_ne rok.g
  have nll : l ≠ ll := ne_refs A.row nels e1 e2 e3
  have A3 := b3.loan e1 nll A
  have q3 := h2.b.but e1 e2 e3 b3
  have hs3 : H3 ls = some (.lst (prV w r.st q.st)) := b3 _ _ h2.hs (Ne.symm h2.nls)
  have hst3 : H3 r.st = _ := b3 _ _ h2.a.S.lst (by
    intro y
    have h1 := h2.a.S.lst
    rw [y, e1] at h1
    cases h1)
  have z4 : Same H3 (L2.upd H3 lq (.lst (rowV ts))) := Same.new n3
  have R4 : Row (L2.upd H3 lq (.lst (rowV ts))) lq ts := ⟨upd_same, (R3.same z4).prs⟩
  generalize L2.upd H3 lq (.lst (rowV ts)) = H4 at z4 R4 n4 ⊢
  have z5 : Same H4 (L2.upd H4 st (.lst [.int am, .int 0, .int 0, .ref lq])) := Same.new n4
  have u5 : (L2.upd H4 st (.lst [.int am, .int 0, .int 0, .ref lq])) st = some (.lst [.int am, .int 0, .int 0, .ref lq]) := upd_same
  generalize L2.upd H4 st (.lst [.int am, .int 0, .int 0, .ref lq]) = H5 at z5 u5 ⊢
  have z35 := z4.trans z5
  have r5 : One C r0 B H5 ⟨x, dx, l, st, lq, ts, ts, ⟨am, 0, 0⟩⟩ := ⟨A3.same z35, ⟨u5, R4.same z5⟩, rfl, rok, len, lok, Ne.symm (ne_of_none A3.row.lst n3), bx, bl, hd⟩
  have q5 := q3.same z35
  have hs5 := z35 _ _ hs3
  have hst5 := z35 _ _ hst3
  have nls : ll ≠ ls := h2.nls
  obtain ⟨c, u, ec, hc⟩ := prV_head w r.st q.st
  have hc2 : ∃ f, H5 c = some (.lst f) := by
    rcases hc with rfl | rfl
    · exact ⟨_, hst5⟩
    · exact ⟨_, q5.S.lst⟩
  obtain ⟨f, hf⟩ := hc2
  have hls2 := hs5
  rw [ec] at hls2
  have bb : But ls H5 (L2.upd H5 ls (.lst (prV w st q.st))) := (But.of (Same.refl H5)).upd _
  refine ⟨sB3, hs5, r5.but hls2 hf (fun _ y => by cases y) bb, q5.but hls2 hf (fun _ y => by cases y) bb, bb _ _ (z35 _ _ u3) nls, upd_same, Ne.symm (ne_of_none h.b.X.ob nx), Ne.symm (ne_of_none h.b.X.row.lst nl), Ne.symm (ne_of_none q3.X.row.lst n3), ne_of_none h.b.S.row.lst nl⟩
def sp_law (K : PySem.W.Frag) : Sp := fun vs H Q _ => ∃ (a : Addr) (ns : List Int), vs = [.ref a] ∧ SqL K H a (ns.map V.int) ∧ ns.length ≤ 63 ∧ ∀ H', Q (.bl true) H'
end
section
variable {P : Program} {w : World} {K : PySem.W.Frag} {mg : Str → Option Value} {base : Heap}
theorem ok_need_rate {f : Addr} {fd : FuncData} (F : Fun K "need_rate" "need_rate" s_need_rate f fd) (T : Txt K mg)  :
    FnOk P w K mg base (L2.CX P w) 1 f fd ["rate"] (sp_need_rate T) := by
  refine F.okX sc_need_rate (fun vs H Q E h => ?_) (fun cdv A outer s H vs Q E hr h => ?_)
  · obtain ⟨r, rfl, _⟩ := h
    rfl
  · obtain ⟨r, rfl, hE, hQ⟩ := h
    refine ⟨_, (pss_one (ps_if (pt_not (pt_chain op_le op_le pe_int (pv 0) (pe_gint T.c_MOST_RATE))) (pss_one (ps_raise rfl (takes_of rfl rfl rfl rfl) (pmk_own PySem.F.excBase_ValueError T.e_BadRate.x T.g_BadRate T.e_BadRate.k (raises_own T.e_BadRate.s T.e_BadRate.t) (by exact rfl)))) pss_nil)), ?_⟩
    refine ⟨_, rfl, _, _, rfl, rfl, _, rfl, ifd (fun c1 => ?_) (fun c1 => ?_)⟩
    · refine ⟨_, _, rfl, rfl, _, rfl, ifdn (fun c2 => ?_) (fun c2 => ?_)⟩
      · exact hE (by omega)
      · exact hQ c1 c2
    · exact ⟨_, rfl, ifnF (hE (by omega))⟩

theorem ok_checked {f : Addr} {fd : FuncData} (F : Fun K "checked" "checked" s_checked f fd) (T : Txt K mg) (D_need_rate : Df P w K mg base (L2.CX P w) 1 "need_rate" ["rate"] (sp_need_rate T)) :
    FnOk P w K mg base (L2.CX P w) 2 f fd ["rates"] (sp_checked T) := by
  refine F.okX sc_checked (fun vs H Q E h => ?_) (fun cdv A outer s H vs Q E hr h => ?_)
  · obtain ⟨l, ts, rfl, _⟩ := h
    rfl
  · obtain ⟨l, ts, rfl, R, hD, hR, hQ⟩ := h
    refine ⟨_, (pss_cons (ps_set (i := 1) sc_checked.nd rfl (Or.inl rfl) (pe_un un_neg pe_int))
            (pss_cons (ps_for (passes_of rfl) rfl (pi_list (pv 0)) (pg_tup rfl (pgs_cons (pg_name (i := 2) sc_checked.nd rfl (Or.inl rfl)) (pgs_cons (pg_name (i := 3) sc_checked.nd rfl (Or.inl rfl)) pgs_nil))) (pss_cons (ps_if (PW.pt (pw_or (pt_cmpR op_le (pv 2) (pv 1) (nomark _)) (pw_or (pt_cmpR op_gt (pv 2) (pe_gint T.c_MOST_DAY) (nomark _)) (pw_or1 (PW.pt (pw_and (pt_cmpR op_eq (pv 1) (pe_un un_neg pe_int) (nomark _)) (pw_and1 (pt_cmpR op_gt (pv 2) pe_int (nomark _))))))))) (pss_one (ps_raise rfl (takes_of rfl rfl rfl rfl) (pmk_own PySem.F.excBase_ValueError T.e_BadDay.x T.g_BadDay T.e_BadDay.k (raises_own T.e_BadDay.s T.e_BadDay.t) (by exact rfl)))) pss_nil)
            (pss_cons (ps_expr (pe_call D_need_rate.G (hr.mono (by decide)) rfl D_need_rate.m D_need_rate.kp D_need_rate.b .nil (passes_call (takes_of rfl rfl rfl rfl) (fun _ _ _ _ h => h)) (pa_cons (pv 3) pa_nil)))
            (pss_one (ps_set (i := 1) sc_checked.nd rfl (Or.inl rfl) (pv 2))))))
            (pss_cons (ps_if (pt_cmpR op_eq (pv 1) (pe_un un_neg pe_int) (nomark _)) (pss_one (ps_raise rfl (takes_of rfl rfl rfl rfl) (pmk_own PySem.F.excBase_ValueError T.e_BadDay.x T.g_BadDay T.e_BadDay.k (raises_own T.e_BadDay.s T.e_BadDay.t) (by exact rfl)))) pss_nil)
            (pss_one (ps_ret (pe_callTy call_list_of (by rfl) T.b_list (by decide +kernel) (pa_cons (pv 0) pa_nil))))))), ?_⟩
    refine ⟨_, rfl, _, rfl, l, rfl, ⟨_, R.seq⟩, for_list (K := K) (a := l) (xs := rowV ts)
      (fun i σ H1 => H1 = H ∧ ∃ (ah : Int) (v2 v3 : Option V), -1 ≤ ah ∧ chk (-1) (vals ts) = chk ah ((vals ts).drop i) ∧ σ = [some (.ref l), some (.int ah), v2, v3])
      ⟨rfl, -1, none, none, by decide, rfl, rfl⟩ (fun i σ H1 _ ⟨e, _⟩ => by rw [e]; exact R.seq) ?_ ?_⟩
    · rintro i y σ H1 hi ⟨rfl, ah, v2, v3, ha, ec, rfl⟩
      obtain ⟨a, p, rfl, hp, hap⟩ := R.getV hi
      have ed : (vals ts).drop i = p :: (vals ts).drop (i + 1) := by
        have h2 : (vals ts)[i]'(List.getElem?_eq_some_iff.mp hp).1 = p := (List.getElem?_eq_some_iff.mp hp).2
        rw [← h2]
        exact (List.getElem_cons_drop _).symm
      rw [ed, chk_cons] at ec
      have bad : p.1 ≤ ah ∨ p.1 > 100000 ∨ (ah = -1 ∧ p.1 > 0) → E (.ref T.a_BadDay) none H1 := fun c => by
        rw [if_pos c] at ec
        exact hD ec
      obtain ⟨r, er, g1, g2⟩ : ∃ r, r = p.2 ∧ (¬ (0 ≤ r ∧ r ≤ 100000) → ¬ (p.1 ≤ ah ∨ p.1 > 100000 ∨ (ah = -1 ∧ p.1 > 0)) → E (.ref T.a_BadRate) none H1) ∧ (0 ≤ r → r ≤ 100000 → ¬ (p.1 ≤ ah ∨ p.1 > 100000 ∨ (ah = -1 ∧ p.1 > 0)) → ∃ (ah2 : Int), -1 ≤ ah2 ∧ chk (-1) (vals ts) = chk ah2 ((vals ts).drop (i + 1)) ∧ ah2 = p.1) := by
        refine ⟨p.2, rfl, fun c2 c => ?_, fun r0 r1 c => ?_⟩
        · rw [if_neg c, if_neg c2] at ec
          exact hR ec
        · rw [if_neg c, if_pos ⟨r0, r1⟩] at ec
          exact ⟨p.1, by omega, ec, rfl⟩
      subst er
      refine ⟨a, _, rfl, SqT.of hap, rfl, _, _, rfl, _, _, rfl, rfl, ?_⟩
      walk_at "rd"
      refine ifd (fun c1 => ?_) (fun c1 => ?_)
      · exact iteT (bad (.inl c1))
      walk_at "rd"
      refine ifd (fun c2 => ?_) (fun c2 => ?_)
      · exact iteT (bad (.inr (.inl c2)))
      walk_at "rd"
      refine if_eq (fun c3 => ?_) (fun c3 => ?_)
      · walk_at "rd"
        refine ifd (fun c4 => ?_) (fun c4 => ?_)
        · exact bad (.inr (.inr ⟨c3, c4⟩))
        · have cc : ¬ (p.1 ≤ ah ∨ p.1 > 100000 ∨ (ah = -1 ∧ p.1 > 0)) := by omega
          refine ⟨_, rfl, _, rfl, fun c5 => g1 c5 cc, fun r0 r1 => ?_⟩
          obtain ⟨ah2, x1, x2, rfl⟩ := g2 r0 r1 cc
          exact ⟨_, rfl, rfl, _, _, _, x1, x2, rfl⟩
      · have cc : ¬ (p.1 ≤ ah ∨ p.1 > 100000 ∨ (ah = -1 ∧ p.1 > 0)) := by omega
        refine iteF ⟨_, rfl, _, rfl, fun c5 => g1 c5 cc, fun r0 r1 => ?_⟩
        obtain ⟨ah2, x1, x2, rfl⟩ := g2 r0 r1 cc
        exact ⟨_, rfl, rfl, _, _, _, x1, x2, rfl⟩
    · rintro σ H1 ⟨rfl, ah, v2, v3, ha, ec, rfl⟩
      rw [rowV_len, ← vals_len, List.drop_length, chk_nil] at ec
      refine ⟨_, rfl, _, rfl, rfl, _, rfl, if_eq (fun c => ?_) (fun c => ?_)⟩
      · rw [if_pos c] at ec
        exact hD ec
      · rw [if_neg c] at ec
        refine ⟨_, rfl, l, _, rfl, .inl R.seq, fun l2 hl2 => hQ ec l2 _ (Same.new hl2) hl2 ⟨upd_same, (R.same (Same.new hl2)).prs⟩⟩

theorem ok_grown {f : Addr} {fd : FuncData} (F : Fun K "grown" "grown" s_grown f fd) (T : Txt K mg)  :
    FnOk P w K mg base CX0 1 f fd ["rates", "start", "end"] (sp_grown T) := by
  refine F.ok sc_grown (fun vs H Q E h => ?_) (fun cdv A outer s H vs Q E hr h => ?_)
  · obtain ⟨l, ts, s, e, rfl, _⟩ := h
    rfl
  · obtain ⟨l, ts, s, e, rfl, R, hl, g, h0, hse, q⟩ := h
    have hr2 := g.rate
    rw [← grown_eq g h0 hse] at q
    refine ⟨_, (pss_cons (ps_set (i := 3) sc_grown.nd rfl (Or.inl rfl) pe_int)
            (pss_cons (ps_set (i := 4) sc_grown.nd rfl (Or.inl rfl) (pv 2))
            (pss_cons (ps_for PassesOwn.never rfl (pi_range1 rfl T.b_range (pa_cons (pe_callB call_len_seq (by rfl) T.b_len PySem.boot_len (pa_cons (pv 0) pa_nil)) pa_nil)) (pg_name (i := 5) sc_grown.nd rfl (Or.inl rfl)) (pss_cons (ps_asg (pe_ix ix_list (pv 0) (pe_op op_sub (pe_op op_sub (pe_callB call_len_seq (by rfl) T.b_len PySem.boot_len (pa_cons (pv 0) pa_nil)) pe_int) (pv 5)) (fun _ _ => rfl)) (pg_tup rfl (pgs_cons (pg_name (i := 6) sc_grown.nd rfl (Or.inl rfl)) (pgs_cons (pg_name (i := 7) sc_grown.nd rfl (Or.inl rfl)) pgs_nil))))
            (pss_cons (ps_set (i := 8) sc_grown.nd rfl (Or.inl rfl) (pe_callB (call_max2 rfl) (by rfl) T.b_max (by decide +kernel) (pa_cons (pv 1) (pa_cons (pe_op op_sub (pv 6) pe_int) pa_nil))))
            (pss_one (ps_if (pt_cmpR op_lt (pv 8) (pv 4) (nomark _)) (pss_cons (ps_set (i := 3) sc_grown.nd rfl (Or.inl rfl) (pe_op op_add (pv 3) (pe_op op_mulX (pe_op op_sub (pv 4) (pv 8)) (pv 7))))
            (pss_one (ps_set (i := 4) sc_grown.nd rfl (Or.inl rfl) (pv 8)))) pss_nil)))))
            (pss_one (ps_ret (pv 3)))))), ?_⟩
    walk_at "rd"
    refine ⟨l, _, rfl, .inl R.seq, _, rfl, by omega, by rw [rowV_len]; omega, for_range (lo := 0) (n := (((rowV ts).length : Int)).toNat)
      (fun i σ H1 => H1 = H ∧ ∃ v5 v6 v7 v8 : Option V, σ = [some (.ref l), some (.int s), some (.int e), some (.int (((vals ts).reverse.take i).foldl (gStep s) (0, e)).1), some (.int (((vals ts).reverse.take i).foldl (gStep s) (0, e)).2), v5, v6, v7, v8])
      ⟨rfl, none, none, none, none, rfl⟩ ?_ ?_⟩
    · rintro i σ H1 hi ⟨rfl, v5, v6, v7, v8, rfl⟩
      have hi2 : i < ts.length := by rw [rowV_len] at hi; omega
      obtain ⟨p, hp⟩ := get_of (l := vals ts) (j := ts.length - 1 - i) (by rw [vals_len]; omega)
      obtain ⟨a, ha, hap⟩ := R.at (z := ((rowV ts).length : Int) - 1 - (0 + (i : Int))) (j := ts.length - 1 - i) (by rw [rowV_len]; omega) hp
      have hm := hr2 p (List.mem_of_getElem? hp)
      have er : (vals ts).reverse[i]? = some p := by rw [List.getElem?_reverse (by rw [vals_len]; exact hi2), vals_len]; exact hp
      rw [List.take_add_one, er, List.foldl_append]
      generalize ((vals ts).reverse.take i).foldl (gStep s) (0, e) = acc
      walk_at "rd"
      refine ⟨l, _, rfl, .inl R.seq, _, _, rfl, rfl, _, rfl, _, _, rfl, rfl, l, _, _, _, rfl, rfl, R.seq, ha, a, _, rfl, SqT.of hap, rfl, _, _, rfl, _, _, rfl, rfl, ?_⟩
      walk_at "rd"
      refine ifd (fun c => ?_) (fun c => ?_)
      · walk_at "rd"
        refine ⟨IntMulOk.of_right (PySem.intBits_le_64 (by omega) (by omega)), _, _, rfl, rfl, _, rfl, rfl, some (.int (0 + (i : Int))), some (.int p.1), some (.int p.2), some (.int (if p.1 - 1 > s then p.1 - 1 else s)), ?_⟩
        show _ = [some (V.ref l), some (V.int s), some (V.int e), some (V.int (gStep s acc p).1), some (V.int (gStep s acc p).2), some (.int (0 + (i : Int))), some (.int p.1), some (.int p.2), some (.int (if p.1 - 1 > s then p.1 - 1 else s))]
        unfold gStep
        rw [if_pos c]
        rfl
      · refine ⟨rfl, some (.int (0 + (i : Int))), some (.int p.1), some (.int p.2), some (.int (if p.1 - 1 > s then p.1 - 1 else s)), ?_⟩
        show _ = [some (V.ref l), some (V.int s), some (V.int e), some (V.int (gStep s acc p).1), some (V.int (gStep s acc p).2), some (.int (0 + (i : Int))), some (.int p.1), some (.int p.2), some (.int (if p.1 - 1 > s then p.1 - 1 else s))]
        unfold gStep
        rw [if_neg c]
        rfl
    · rintro σ H1 ⟨rfl, v5, v6, v7, v8, rfl⟩
      refine ⟨_, rfl, ?_⟩
      rw [Int.toNat_natCast, rowV_len, List.take_of_length_le (by rw [List.length_reverse, vals_len]; exact Nat.le_refl _)]
      exact q

theorem ok_need_amount {f : Addr} {fd : FuncData} (F : Fun K "need_amount" "need_amount" s_need_amount f fd) (T : Txt K mg)  :
    FnOk P w K mg base (L2.CX P w) 1 f fd ["amount"] (sp_need_amount T) := by
  refine F.okX sc_need_amount (fun vs H Q E h => ?_) (fun cdv A outer s H vs Q E hr h => ?_)
  · obtain ⟨r, rfl, _⟩ := h
    rfl
  · obtain ⟨r, rfl, hE, hQ⟩ := h
    refine ⟨_, (pss_one (ps_if (pt_not (pt_chain op_le op_le pe_int (pv 0) (pe_gint T.c_MOST_AMOUNT))) (pss_one (ps_raise rfl (takes_of rfl rfl rfl rfl) (pmk_own PySem.F.excBase_ValueError T.e_BadAmount.x T.g_BadAmount T.e_BadAmount.k (raises_own T.e_BadAmount.s T.e_BadAmount.t) (by exact rfl)))) pss_nil)), ?_⟩
    refine ⟨_, rfl, _, _, rfl, rfl, _, rfl, ifd (fun c1 => ?_) (fun c1 => ?_)⟩
    · refine ⟨_, _, rfl, rfl, _, rfl, ifdn (fun c2 => ?_) (fun c2 => ?_)⟩
      · exact hE (by omega)
      · exact hQ c1 c2
    · exact ⟨_, rfl, ifnF (hE (by omega))⟩

theorem ok_Loan_init {f : Addr} {fd : FuncData} (F : Fun K "__init__" "Loan.__init__" s_Loan_init f fd) (T : Txt K mg) (D_need_amount : Df P w K mg base (L2.CX P w) 1 "need_amount" ["amount"] (sp_need_amount T)) (D_checked : Df P w K mg base (L2.CX P w) 2 "checked" ["rates"] (sp_checked T)) :
    FnOk P w K mg base (L2.CX P w) 3 f fd ["self", "amount", "rates"] (sp_Loan_init T) := by
  refine F.okX sc_Loan_init (fun vs H Q E h => ?_) (fun cdv A outer s H vs Q E hr h => ?_)
  · obtain ⟨x, dx, l, am, ts, rfl, _⟩ := h
    rfl
  · obtain ⟨x, dx, l, am, ts, rfl, hx, R, hA, hD, hR, hQ⟩ := h
    refine ⟨_, (pss_cons (ps_expr (pe_call D_need_amount.G (hr.mono (by decide)) rfl D_need_amount.m D_need_amount.kp D_need_amount.b .nil (passes_call (takes_of rfl rfl rfl rfl) (fun _ _ _ _ h => h)) (pa_cons (pv 1) pa_nil)))
            (pss_cons (ps_fld (pv 0) (pe_call D_checked.G (hr.mono (by decide)) rfl D_checked.m D_checked.kp D_checked.b .nil (passes_call (takes_of rfl rfl rfl rfl) (fun _ _ _ _ h => h)) (pa_cons (pv 2) pa_nil)) rfl)
            (pss_cons (ps_fld (pv 0) (pv 1) rfl)
            (pss_cons (ps_fld (pv 0) pe_int rfl)
            (pss_one (ps_fld (pv 0) pe_int rfl)))))), ?_⟩
    refine ⟨_, rfl, _, rfl, hA, fun a1 a2 => ?_⟩
    refine ⟨_, rfl, l, ts, rfl, R, hD a1 a2, hR a1 a2, fun eok l2 H1 s1 hl2 R1 => ?_⟩
    have hx1 := s1 _ _ hx
    refine ⟨_, rfl, x, T.a_Loan, dx, [], rfl, hx1, T.cl_Loan, T.n_Loan_rates, (by decide), ?_⟩
    refine ⟨_, rfl, _, rfl, x, T.a_Loan, dx, _, rfl, upd_same, T.cl_Loan, T.n_Loan_left, (by show 1 < 1000; decide), ?_⟩
    refine ⟨_, rfl, x, T.a_Loan, dx, _, rfl, upd_same, T.cl_Loan, T.n_Loan_begun, ?_, ?_⟩
    · show (putF "left" (V.int am) [("rates", V.ref l2)]).length < 1000
      rw [putF_miss (by decide +kernel)]
      show 2 < 1000
      decide
    refine ⟨_, rfl, x, T.a_Loan, dx, _, rfl, upd_same, T.cl_Loan, T.n_Loan_day, ?_, ?_⟩
    · show (putF "begun" (V.int 0) (putF "left" (V.int am) [("rates", V.ref l2)])).length < 1000
      rw [putF_miss (by decide +kernel)]
      show (putF "begun" (V.int 0) [("rates", V.ref l2), ("left", V.int am)]).length < 1000
      rw [putF_miss (by decide +kernel), putF_miss (by decide +kernel)]
      show 3 < 1000
      decide
    have b : But x H _ := ((((But.of (x := x) s1).upd (.ins T.a_Loan dx (putF "rates" (.ref l2) []))).upd (.ins T.a_Loan dx (putF "left" (.int am) (putF "rates" (.ref l2) [])))).upd (.ins T.a_Loan dx (putF "begun" (.int 0) (putF "left" (.int am) (putF "rates" (.ref l2) []))))).upd (.ins T.a_Loan dx (putF "day" (.int 0) (putF "begun" (.int 0) (putF "left" (.int am) (putF "rates" (.ref l2) [])))))
    have b1 : But x H1 _ := ((((But.of (x := x) (Same.refl H1)).upd (.ins T.a_Loan dx (putF "rates" (.ref l2) []))).upd (.ins T.a_Loan dx (putF "left" (.int am) (putF "rates" (.ref l2) [])))).upd (.ins T.a_Loan dx (putF "begun" (.int 0) (putF "left" (.int am) (putF "rates" (.ref l2) []))))).upd (.ins T.a_Loan dx (putF "day" (.int 0) (putF "begun" (.int 0) (putF "left" (.int am) (putF "rates" (.ref l2) [])))))
    refine hQ a1 a2 eok l2 _ b hl2 ⟨?_, b1.row hx1 R1⟩
    rw [← lf_made]
    exact upd_same

theorem ok_Loan_stand {f : Addr} {fd : FuncData} (F : Fun K "stand" "Loan.stand" s_Loan_stand f fd) (T : Txt K mg) (D_grown : Df P w K mg base CX0 1 "grown" ["rates", "start", "end"] (sp_grown T)) :
    FnOk P w K mg base (L2.CX P w) 2 f fd ["self", "day"] (sp_Loan_stand T) := by
  refine F.okX sc_Loan_stand (fun vs H Q E h => ?_) (fun cdv A outer s H vs Q E hr h => ?_)
  · obtain ⟨x, dx, l, ts, z, d, rfl, _⟩ := h
    rfl
  · obtain ⟨x, dx, l, ts, z, d, rfl, A1, rok, lok, hE, hQ⟩ := h
    refine ⟨_, (pss_cons (ps_if (pt_not (pt_chain op_le op_le (pe_fld (pv 0) rfl) (pv 1) (pe_gint T.c_MOST_DAY))) (pss_one (ps_raise rfl (takes_of rfl rfl rfl rfl) (pmk_own PySem.F.excBase_ValueError T.e_BadDay.x T.g_BadDay T.e_BadDay.k (raises_own T.e_BadDay.s T.e_BadDay.t) (by exact rfl)))) pss_nil)
            (pss_one (ps_ret (pe_tup (pa_cons (pe_fld (pv 0) rfl) (pa_cons (pe_op op_add (pe_fld (pv 0) rfl) (pe_op op_mulX (pe_fld (pv 0) rfl) (pc0 D_grown hr (pa_cons (pe_fld (pv 0) rfl) (pa_cons (pe_fld (pv 0) rfl) (pa_cons (pv 1) pa_nil)))))) pa_nil)))))), ?_⟩
    have hx := A1.ob
    have hl0 := lok.l0
    have hl1 := lok.l1
    have hd0 := lok.d0
    refine ⟨_, rfl, x, _, dx, _, _, rfl, hx, T.cl_Loan, T.n_Loan_day, lf_day _ _, _, rfl, _, _, rfl, rfl, _, rfl, ifd (fun c1 => ?_) (fun c1 => ?_)⟩
    · refine ⟨_, _, rfl, rfl, _, rfl, ifdn (fun c2 => ?_) (fun c2 => ?_)⟩
      · exact hE (by omega)
      · refine ⟨_, rfl, x, _, dx, _, _, rfl, hx, T.cl_Loan, T.n_Loan_left, lf_left _ _, _, rfl, x, _, dx, _, _, rfl, hx, T.cl_Loan, T.n_Loan_begun, lf_begun _ _, _, rfl, x, _, dx, _, _, rfl, hx, T.cl_Loan, T.n_Loan_left, lf_left _ _,
          _, rfl, x, _, dx, _, _, rfl, hx, T.cl_Loan, T.n_Loan_rates, lf_rates _ _, _, rfl, x, _, dx, _, _, rfl, hx, T.cl_Loan, T.n_Loan_day, lf_day _ _, _, rfl, l, ts, _, _, rfl, A1.row, by rw [← vals_len]; exact rok.len, rok.g, hd0, c1, ?_⟩
        refine ⟨_, _, rfl, rfl, IntMulOk.of_left (PySem.intBits_le_64 (by omega) (by omega)), _, _, rfl, rfl, szl 2, fun p hp => ?_⟩
        exact hQ c1 c2 p _ (Same.new hp) hp upd_same
    · exact ⟨_, rfl, ifnF (hE (by omega))⟩

theorem ok_Loan_owed {f : Addr} {fd : FuncData} (F : Fun K "owed" "Loan.owed" s_Loan_owed f fd) (T : Txt K mg) (D_Loan_stand : Dm P w K mg base (L2.CX P w) 2 T.a_Loan "stand" ["self", "day"] (sp_Loan_stand T)) :
    FnOk P w K mg base (L2.CX P w) 3 f fd ["self", "day"] (sp_Loan_owed T) := by
  refine F.okX sc_Loan_owed (fun vs H Q E h => ?_) (fun cdv A outer s H vs Q E hr h => ?_)
  · obtain ⟨x, dx, l, ts, z, d, rfl, _⟩ := h
    rfl
  · obtain ⟨x, dx, l, ts, z, d, rfl, A1, rok, lok, hE, hQ⟩ := h
    refine ⟨_, (pss_cons (ps_asg (pe_meth (pv 0) T.cl_Loan D_Loan_stand.me D_Loan_stand.G (hr.mono (by decide)) D_Loan_stand.b .nil (passes_call (takes_of rfl rfl rfl rfl) (fun _ _ _ _ h => h)) (pa_cons (pv 1) pa_nil)) (pg_tup rfl (pgs_cons (pg_name (i := 2) sc_Loan_owed.nd rfl (Or.inl rfl)) (pgs_cons (pg_name (i := 3) sc_Loan_owed.nd rfl (Or.inl rfl)) pgs_nil))))
            (pss_one (ps_ret (pe_op op_add (pv 2) (pe_op op_fdiv (pe_op op_sub (pe_op op_add (pv 3) (pe_gint T.c_MILLION)) pe_int) (pe_gint T.c_MILLION)))))), ?_⟩
    refine ⟨_, rfl, x, dx, _, rfl, A1.ob, lf_no _ _ (by decide +kernel) (by decide +kernel) (by decide +kernel) (by decide +kernel), _, rfl, x, dx, l, ts, z, d, rfl, A1, rok, lok, hE, fun c1 c2 p H1 s1 hp hp1 => ?_⟩
    refine ⟨p, _, rfl, SqT.of hp1, rfl, _, _, rfl, _, _, rfl, rfl, ?_⟩
    exact ⟨_, rfl, _, rfl, _, _, rfl, rfl, _, _, rfl, rfl, _, _, rfl, rfl, dv, _, _, rfl, rfl, hQ c1 c2 H1 s1⟩

theorem ok_Loan_pay {f : Addr} {fd : FuncData} (F : Fun K "pay" "Loan.pay" s_Loan_pay f fd) (T : Txt K mg) (D_Loan_stand : Dm P w K mg base (L2.CX P w) 2 T.a_Loan "stand" ["self", "day"] (sp_Loan_stand T)) (D_Loan_owed : Dm P w K mg base (L2.CX P w) 3 T.a_Loan "owed" ["self", "day"] (sp_Loan_owed T)) :
    FnOk P w K mg base (L2.CX P w) 4 f fd ["self", "day", "cents"] (sp_Loan_pay T) := by
  refine F.okX sc_Loan_pay (fun vs H Q E h => ?_) (fun cdv A outer s H vs Q E hr h => ?_)
  · obtain ⟨x, dx, l, ts, z, d, c, rfl, _⟩ := h
    rfl
  · obtain ⟨x, dx, l, ts, z, d, c, rfl, A1, rok, lok, hE, hP, hQ⟩ := h
    refine ⟨_, (pss_cons (ps_asg (pe_meth (pv 0) T.cl_Loan D_Loan_stand.me D_Loan_stand.G (hr.mono (by decide)) D_Loan_stand.b .nil (passes_call (takes_of rfl rfl rfl rfl) (fun _ _ _ _ h => h)) (pa_cons (pv 1) pa_nil)) (pg_tup rfl (pgs_cons (pg_name (i := 3) sc_Loan_pay.nd rfl (Or.inl rfl)) (pgs_cons (pg_name (i := 4) sc_Loan_pay.nd rfl (Or.inl rfl)) pgs_nil))))
            (pss_cons (ps_set (i := 5) sc_Loan_pay.nd rfl (Or.inl rfl) (pe_meth (pv 0) T.cl_Loan D_Loan_owed.me D_Loan_owed.G (hr.mono (by decide)) D_Loan_owed.b .nil (passes_call (takes_of rfl rfl rfl rfl) (fun _ _ _ _ h => h)) (pa_cons (pv 1) pa_nil)))
            (pss_cons (ps_if (pt_not (pt_chain op_le op_le pe_int (pv 2) (pv 5))) (pss_one (ps_raise rfl (takes_of rfl rfl rfl rfl) (pmk_own PySem.F.excBase_ValueError T.e_BadPay.x T.g_BadPay T.e_BadPay.k (raises_own T.e_BadPay.s T.e_BadPay.t) (by exact rfl)))) pss_nil)
            (Evl.pss_cut (ps_if (pt_cmpR op_eq (pv 2) (pv 5) (nomark _)) (pss_cons (ps_set (i := 6) sc_Loan_pay.nd rfl (Or.inl rfl) (pe_op op_sub (pv 5) (pv 3)))
            (pss_one (ps_set (i := 4) sc_Loan_pay.nd rfl (Or.inl rfl) pe_int))) (pss_cons (ps_set (i := 6) sc_Loan_pay.nd rfl (Or.inl rfl) (pe_callB (call_min2 rfl) (by rfl) T.b_min (by decide +kernel) (pa_cons (pv 2) (pa_cons (pe_op op_fdiv (pv 4) (pe_gint T.c_MILLION)) pa_nil))))
            (pss_one (ps_set (i := 4) sc_Loan_pay.nd rfl (Or.inl rfl) (pe_op op_sub (pv 4) (pe_op op_mulX (pv 6) (pe_gint T.c_MILLION)))))))
            (pss_cons (ps_set (i := 7) sc_Loan_pay.nd rfl (Or.inl rfl) (pe_op op_sub (pv 2) (pv 6)))
            (pss_cons (ps_fld (pv 0) (pe_op op_sub (pv 3) (pv 7)) rfl)
            (pss_cons (ps_fld (pv 0) (pv 4) rfl)
            (pss_cons (ps_fld (pv 0) (pv 1) rfl)
            (pss_one (ps_ret (pe_tup (pa_cons (pv 6) (pa_cons (pv 7) pa_nil))))))))))))), ?_⟩
    refine ⟨_, rfl, x, dx, _, rfl, A1.ob, lf_no _ _ (by decide +kernel) (by decide +kernel) (by decide +kernel) (by decide +kernel), _, rfl, x, dx, l, ts, z, d, rfl, A1, rok, lok, hE, fun c1 c2 p H1 s1 hp hp1 => ?_⟩
    have A2 := A1.same s1
    refine ⟨p, _, rfl, SqT.of hp1, rfl, _, _, rfl, _, _, rfl, rfl, ?_⟩
    refine ⟨_, rfl, x, dx, _, rfl, A2.ob, lf_no _ _ (by decide +kernel) (by decide +kernel) (by decide +kernel) (by decide +kernel), _, rfl, x, dx, l, ts, z, d, rfl, A2, rok, lok, fun n => absurd ⟨c1, c2⟩ n, fun _ _ H2 s2 => ?_⟩
    have A3 := A2.same s2
    have hP2 := fun n => hP c1 c2 n H2 (s1.trans s2)
    have hQ2 := hQ c1 c2
    have ez : begunAt (vals ts) z d = begunAt (vals ts) z d := rfl
    unfold payLn at hQ2
    generalize begunAt (vals ts) z d = b at hP2 hQ2 ⊢
    refine ⟨_, rfl, _, _, rfl, rfl, _, rfl, ifd (fun g1 => ?_) (fun g1 => ?_)⟩
    · refine ⟨_, rfl, _, _, rfl, rfl, _, rfl, ifdn (fun g2 => ?_) (fun g2 => ?_)⟩
      · exact hP2 (by omega)
      · have hQ3 := hQ2 g1 g2
        refine ⟨fun σ H3 => H3 = H2 ∧ ∃ i b2 : Int, payF z.left b c = (i, c - i, z.left - (c - i), b2) ∧ σ = [some (.ref x), some (.int d), some (.int c), some (.int z.left), some (.int b2), some (.int (owedF z.left b)), some (.int i), none], ?_, ?_⟩
        · refine ⟨_, rfl, _, rfl, rfl, _, rfl, if_eq (fun e => ?_) (fun e => ?_)⟩
          · refine ⟨_, rfl, _, rfl, _, _, rfl, rfl, rfl, owedF z.left b - z.left, 0, ?_, rfl⟩
            unfold payF
            rw [if_pos e, ← e]
            refine Prod.ext rfl (Prod.ext ?_ (Prod.ext ?_ rfl))
            · show z.left = c - (c - z.left)
              omega
            · show 0 = z.left - (c - (c - z.left))
              omega
          · refine ⟨_, rfl, _, rfl, _, _, rfl, rfl, dv, _, _, rfl, _, rfl, _, rfl, _, _, rfl, rfl, mulR, _, _, rfl, rfl, rfl, _, _, ?_, rfl⟩
            unfold payF
            rw [if_neg e]
        · rintro σ H3 ⟨rfl, i, b2, ep, rfl⟩
          rw [ep] at hQ3
          refine ⟨_, rfl, _, rfl, _, _, rfl, rfl, ?_⟩
          refine ⟨_, rfl, _, rfl, _, _, rfl, rfl, _, rfl, x, T.a_Loan, dx, _, rfl, A3.ob, T.cl_Loan, T.n_Loan_left, lf_len _ _, ?_⟩
          rw [lf_putLeft]
          refine ⟨_, rfl, _, rfl, x, T.a_Loan, dx, _, rfl, upd_same, T.cl_Loan, T.n_Loan_begun, lf_len _ _, ?_⟩
          rw [lf_putBegun]
          refine ⟨_, rfl, _, rfl, x, T.a_Loan, dx, _, rfl, upd_same, T.cl_Loan, T.n_Loan_day, lf_len _ _, ?_⟩
          rw [lf_putDay]
          have b0 : But x H3 _ := ((((But.of (x := x) (Same.refl H3)).upd (.ins T.a_Loan dx (lf l ⟨z.left - (c - i), z.begun, z.day⟩))).upd (.ins T.a_Loan dx (lf l ⟨z.left - (c - i), b2, z.day⟩)))).upd (.ins T.a_Loan dx (lf l ⟨z.left - (c - i), b2, d⟩))
          have ho : (L2.upd (L2.upd (L2.upd H3 x (.ins T.a_Loan dx (lf l ⟨z.left - (c - i), z.begun, z.day⟩))) x (.ins T.a_Loan dx (lf l ⟨z.left - (c - i), b2, z.day⟩))) x (.ins T.a_Loan dx (lf l ⟨z.left - (c - i), b2, d⟩))) x = _ := upd_same
          generalize L2.upd (L2.upd (L2.upd H3 x (.ins T.a_Loan dx (lf l ⟨z.left - (c - i), z.begun, z.day⟩))) x (.ins T.a_Loan dx (lf l ⟨z.left - (c - i), b2, z.day⟩))) x (.ins T.a_Loan dx (lf l ⟨z.left - (c - i), b2, d⟩)) = H4 at b0 ho ⊢
          refine ⟨_, rfl, _, rfl, szl 2, fun q hq => ?_⟩
          have bb : But x H H4 := (But.of (s1.trans s2)).trans b0
          refine hQ3 q _ (bb.new hq) ?_ (LoanAt.same ⟨ho, b0.row A3.ob A3.row⟩ (Same.new hq)) upd_same
          -- q was not known
          cases e : H q with
          | none => rfl
          | some o =>
            by_cases hqx : q = x
            · rw [hqx, ho] at hq
              cases hq
            · rw [bb q o e hqx] at hq
              cases hq
    · exact ⟨_, rfl, ifnF (hP2 (by omega))⟩

theorem ok_Loan_change {f : Addr} {fd : FuncData} (F : Fun K "change" "Loan.change" s_Loan_change f fd) (T : Txt K mg) (D_need_rate : Df P w K mg base (L2.CX P w) 1 "need_rate" ["rate"] (sp_need_rate T)) :
    FnOk P w K mg base (L2.CX P w) 2 f fd ["self", "day", "rate"] (sp_Loan_change T) := by
  refine F.okX sc_Loan_change (fun vs H Q E h => ?_) (fun cdv A outer s H vs Q E hr h => ?_)
  · obtain ⟨x, dx, l, ts, z, d, r, rfl, _⟩ := h
    rfl
  · obtain ⟨x, dx, l, ts, z, d, r, rfl, A1, rok, hD, hR, hQ⟩ := h
    refine ⟨_, (pss_cons (ps_if (PW.pt (pw_or (pt_cmpR op_le (pv 1) (pe_fld (pv 0) rfl) (nomark _)) (pw_or (pt_cmpR op_le (pv 1) (pe_ix ix_tup (pe_ix ix_list (pe_fld (pv 0) rfl) (pe_un un_neg pe_int) (fun _ _ => rfl)) pe_int (fun _ _ => rfl)) (nomark _)) (pw_or1 (pt_cmpR op_gt (pv 1) (pe_gint T.c_MOST_DAY) (nomark _)))))) (pss_one (ps_raise rfl (takes_of rfl rfl rfl rfl) (pmk_own PySem.F.excBase_ValueError T.e_BadDay.x T.g_BadDay T.e_BadDay.k (raises_own T.e_BadDay.s T.e_BadDay.t) (by exact rfl)))) pss_nil)
            (pss_cons (ps_expr (pe_call D_need_rate.G (hr.mono (by decide)) rfl D_need_rate.m D_need_rate.kp D_need_rate.b .nil (passes_call (takes_of rfl rfl rfl rfl) (fun _ _ _ _ h => h)) (pa_cons (pv 2) pa_nil)))
            (pss_one (ps_expr (pe_bm PySem.F.plainAttrs_list PySem.F.slot_list_append PySem.F.type_list_append mt_append (pe_fld (pv 0) rfl) (pa_cons (pe_tup (pa_cons (pv 1) (pa_cons (pv 2) pa_nil))) pa_nil)))))), ?_⟩
    have hx := A1.ob
    obtain ⟨b, rl, hb, hbp, _⟩ := A1.row.last (good_ne rok.g)
    refine ⟨_, rfl, _, rfl, x, _, dx, _, _, rfl, hx, T.cl_Loan, T.n_Loan_day, lf_day _ _, _, _, rfl, rfl, _, rfl, ifd (fun c1 => ?_) (fun c1 => ?_)⟩
    · exact iteT (hD (.inl c1))
    refine ⟨_, rfl, _, rfl, x, _, dx, _, _, rfl, hx, T.cl_Loan, T.n_Loan_rates, lf_rates _ _, _, rfl, l, _, _, _, rfl, rfl, A1.row.seq, hb, b, _, _, _, rfl, rfl, SqT.of hbp, at0 rfl, _, _, rfl, rfl, _, rfl, ifd (fun c2 => ?_) (fun c2 => ?_)⟩
    · exact iteT (hD (.inr (.inl c2)))
    refine ⟨_, rfl, _, _, rfl, rfl, _, rfl, ifd (fun c3 => ?_) (fun c3 => ?_)⟩
    · exact hD (.inr (.inr c3))
    have cc : ¬ (d ≤ z.day ∨ d ≤ lastDay (vals ts) ∨ d > 100000) := by omega
    refine ⟨_, rfl, _, rfl, hR cc, fun r0 r1 => ?_⟩
    refine ⟨_, rfl, x, _, dx, _, _, rfl, hx, T.cl_Loan, T.n_Loan_rates, lf_rates _ _, .inl ⟨rfl, _, A1.row.seq⟩, _, rfl, _, rfl, szl 2, fun p hp => ?_⟩
    have R2 := A1.row.same (Same.new (o := tupV (d, r)) hp)
    refine ⟨l, rowV ts, _, rfl, rfl, R2.lst, sz_lt (by have := rok.len; rw [vals_len] at this; rw [rowV_len]; omega), ?_⟩
    have R3 := R2.snoc d r upd_same
    have nxl : x ≠ l := ne_of hx A1.row.lst (by intro q; cases q)
    have nxp : x ≠ p := ne_of_none hx hp
    refine hQ cc r0 r1 p _ ((But.of (Same.new hp)).upd _) hp ⟨?_, R3⟩
    rw [L2.upd_ne nxl, L2.upd_ne nxp]
    exact hx

theorem ok_law_cell_at {f : Addr} {fd : FuncData} (F : Fun K "_law_cell_at" "_law_cell_at" s_law_cell_at f fd) (T : Txt K mg)  :
    FnOk P w K mg base CX0 1 f fd ["_law_script", "_law_k"] (sp_law_cell_at T) := by
  refine F.ok sc_law_cell_at (fun vs H Q E h => ?_) (fun cdv A outer s H vs Q E hr h => ?_)
  · obtain ⟨a, ns, k, rfl, _⟩ := h
    rfl
  · obtain ⟨a, ns, k, rfl, hS, h0, q⟩ := h
    refine ⟨_, (pss_cons (ps_if (pt_cmpR op_lt (pv 1) (pe_callB call_len_seq (by rfl) T.b_len PySem.boot_len (pa_cons (pv 0) pa_nil)) (nomark _)) (pss_one (ps_ret (pe_ix ix_list (pv 0) (pv 1) (fun _ _ => rfl)))) pss_nil)
            (pss_one (ps_ret pe_int))), ?_⟩
    refine ⟨_, rfl, _, rfl, a, _, rfl, Or.inl hS, _, _, rfl, rfl, _, rfl, ifd (fun c => ?_) (fun c => ?_)⟩
    · rw [List.length_map] at c
      obtain ⟨j, rfl⟩ : ∃ j : Nat, k = (j : Int) := ⟨k.toNat, by omega⟩
      have hj : j < ns.length := by omega
      refine ⟨_, rfl, _, rfl, a, _, _, _, rfl, rfl, hS, at_m rfl (List.getElem?_eq_getElem hj), ?_⟩
      have e : cellAt ns (j : Int) = ns[j] := by
        unfold cellAt
        rw [Int.toNat_natCast, List.getD_eq_getElem?_getD, List.getElem?_eq_getElem hj]
        rfl
      rw [← e]
      exact q
    · rw [List.length_map] at c
      have e : cellAt ns k = 0 := by
        unfold cellAt
        rw [List.getD_eq_getElem?_getD, List.getElem?_eq_none (by omega)]
        rfl
      rw [e] at q
      exact q

theorem ok_law_whole {f : Addr} {fd : FuncData} (F : Fun K "_law_whole" "_law_whole" s_law_whole f fd) (T : Txt K mg)  :
    FnOk P w K mg base CX0 1 f fd ["_law_found"] (sp_law_whole T) := by
  refine F.ok sc_law_whole (fun vs H Q E h => ?_) (fun cdv A outer s H vs Q E hr h => ?_)
  · obtain ⟨c, rfl, _⟩ := h
    rfl
  · obtain ⟨c, rfl, q⟩ := h
    refine ⟨_, (pss_one (ps_ret (pe_and (pe_callB call_isi (by rfl) T.b_isinstance (by decide +kernel) (pa_cons (pv 0) (pa_cons (pe_bltn (v := .ty "int") (u := .type "int") rfl T.b_int (by decide +kernel) rfl) pa_nil))) (pe_one (pe_not (pe_callB call_isi (by rfl) T.b_isinstance (by decide +kernel) (pa_cons (pv 0) (pa_cons (pe_bltn (v := .ty "bool") (u := .type "bool") rfl T.b_bool (by decide +kernel) rfl) pa_nil)))))))), ?_⟩
    refine ⟨_, rfl, _, _, _, _, _, rfl, .ty "int", .base (.int c), kit_ty (r := true) (by decide +kernel), true, rfl, iteT ?_⟩
    exact ⟨_, rfl, _, _, _, _, _, rfl, .ty "bool", .base (.int c), kit_ty (r := false) (by decide +kernel), false, rfl, q⟩

theorem ok_law_mixed {f : Addr} {fd : FuncData} (F : Fun K "_law_mixed" "_law_mixed" s_law_mixed f fd) (T : Txt K mg)  :
    FnOk P w K mg base CX0 1 f fd ["_law_cell", "_law_many"] (sp_law_mixed T) := by
  refine F.ok sc_law_mixed (fun vs H Q E h => ?_) (fun cdv A outer s H vs Q E hr h => ?_)
  · obtain ⟨c, m, rfl, _⟩ := h
    rfl
  · obtain ⟨c, m, rfl, h0, q⟩ := h
    refine ⟨_, (pss_one (ps_ret (pe_op op_mod (pe_op op_mod (pe_op op_add (pe_op op_mulX (pv 0) pe_int) pe_int) pe_int) (pv 1)))), ?_⟩
    refine ⟨_, rfl, _, _, rfl, rfl, mulR, _, _, rfl, rfl, _, _, rfl, rfl, md, _, rfl, _, _, rfl, rfl, h0, q⟩

theorem ok_law_rate_by {f : Addr} {fd : FuncData} (F : Fun K "_law_rate_by" "_law_rate_by" s_law_rate_by f fd) (T : Txt K mg) (D_law_mixed : Df P w K mg base CX0 1 "_law_mixed" ["_law_cell", "_law_many"] (sp_law_mixed T)) :
    FnOk P w K mg base CX0 2 f fd ["_law_cell"] (sp_law_rate_by T) := by
  refine F.ok sc_law_rate_by (fun vs H Q E h => ?_) (fun cdv A outer s H vs Q E hr h => ?_)
  · obtain ⟨c, rfl, _⟩ := h
    rfl
  · obtain ⟨c, rfl, q⟩ := h
    refine ⟨_, (pss_cons (ps_if (pt_cmpR op_eq (pe_op op_mod (pv 0) pe_int) pe_int (nomark _)) (pss_one (ps_ret (pe_ix ix_list (pe_lst (pa_cons pe_int (pa_cons pe_int (pa_cons pe_int (pa_cons pe_int pa_nil))))) (pe_op op_mod (pe_op op_fdiv (pv 0) pe_int) pe_int) (fun _ _ => rfl)))) pss_nil)
            (pss_cons (ps_if (pt_cmpR op_eq (pe_op op_mod (pv 0) pe_int) pe_int (nomark _)) (pss_one (ps_ret (pe_op op_mod (pe_op op_fdiv (pv 0) pe_int) pe_int))) pss_nil)
            (pss_one (ps_ret (pc0 D_law_mixed hr (pa_cons (pv 0) (pa_cons pe_int pa_nil))))))), ?_⟩
    unfold rateBy at q
    refine ⟨_, rfl, _, _, rfl, rfl, md, rfl, _, rfl, if_eq (fun c1 => ?_) (fun c1 => ?_)⟩
    · rw [if_pos c1] at q
      refine ⟨by decide, fun l hl => ⟨_, rfl, _, _, rfl, rfl, dv, _, _, rfl, rfl, md, ?_⟩⟩
      have g0 : 0 ≤ c / 5 % 4 := by omega
      have g1 : c / 5 % 4 < 4 := by omega
      obtain ⟨j, ej⟩ : ∃ j : Nat, c / 5 % 4 = (j : Int) := ⟨(c / 5 % 4).toNat, by omega⟩
      have hj : j < 4 := by omega
      refine ⟨l, _, _, V.int (([0, 1, 99999, 100000] : List Int).getD (c / 5 % 4).toNat 0), rfl, rfl, SqL.of upd_same, at_of ej ?_, q _ (Same.new hl)⟩
      rw [ej, Int.toNat_natCast]
      match j, hj with
      | 0, _ => rfl
      | 1, _ => rfl
      | 2, _ => rfl
      | 3, _ => rfl
    · rw [if_neg c1] at q
      refine ⟨_, rfl, _, _, rfl, rfl, md, rfl, _, rfl, if_eq (fun c2 => ?_) (fun c2 => ?_)⟩
      · rw [if_pos c2] at q
        exact ⟨_, rfl, _, _, rfl, rfl, dv, _, _, rfl, rfl, md, q _ (Same.refl H)⟩
      · rw [if_neg c2] at q
        exact ⟨_, rfl, _, _, rfl, by decide, q _ (Same.refl H)⟩

theorem ok_law_rate_of {f : Addr} {fd : FuncData} (F : Fun K "_law_rate_of" "_law_rate_of" s_law_rate_of f fd) (T : Txt K mg)  :
    FnOk P w K mg base CX0 1 f fd ["_law_row", "_law_day"] (sp_law_rate_of T) := by
  refine F.ok sc_law_rate_of (fun vs H Q E h => ?_) (fun cdv A outer s H vs Q E hr h => ?_)
  · obtain ⟨l, ts, d, rfl, _⟩ := h
    rfl
  · obtain ⟨l, ts, d, rfl, R, q⟩ := h
    refine ⟨_, (pss_cons (ps_set (i := 2) sc_law_rate_of.nd rfl (Or.inl rfl) pe_int)
            (pss_cons (ps_for PassesOwn.never rfl (pi_list (pv 0)) (pg_name (i := 3) sc_law_rate_of.nd rfl (Or.inl rfl)) (pss_one (ps_if (pt_cmpR op_le (pe_ix ix_tup (pv 3) pe_int (fun _ _ => rfl)) (pv 1) (nomark _)) (pss_one (ps_set (i := 2) sc_law_rate_of.nd rfl (Or.inl rfl) (pe_ix ix_tup (pv 3) pe_int (fun _ _ => rfl)))) pss_nil)))
            (pss_one (ps_ret (pv 2))))), ?_⟩
    refine ⟨_, rfl, l, rfl, ⟨_, R.seq⟩, for_list (K := K) (a := l) (xs := rowV ts) (fun i σ H1 => ∃ v3 : Option V, H1 = H ∧ σ = [some (.ref l), some (.int d), some (.int (rateOn ((vals ts).take i) d)), v3])
      ⟨none, rfl, rfl⟩ (fun i σ H1 _ ⟨_, e, _⟩ => by rw [e]; exact R.seq) ?_ ?_⟩
    · rintro i y σ H1 hi ⟨v3, rfl, rfl⟩
      obtain ⟨a, p, rfl, hp, hap⟩ := R.getV hi
      have e : rateOn ((vals ts).take (i + 1)) d = if p.1 ≤ d then p.2 else rateOn ((vals ts).take i) d := by
        rw [List.take_add_one, hp]
        exact rateOn_snoc
      refine ⟨_, rfl, a, _, _, _, rfl, rfl, SqT.of hap, at0 rfl, _, rfl, _, _, rfl, rfl, _, rfl, ifd (fun c => ?_) (fun c => ?_)⟩
      · rw [if_pos c] at e
        exact ⟨_, rfl, a, _, _, _, rfl, rfl, SqT.of hap, at_of (j := 1) rfl rfl, _, rfl, by rw [e]; rfl⟩
      · rw [if_neg c] at e
        exact ⟨_, rfl, by rw [e]; rfl⟩
    · rintro σ H1 ⟨v3, rfl, rfl⟩
      rw [rowV_len, ← vals_len, List.take_length]
      exact ⟨_, rfl, q⟩

theorem ok_law_amount_by {f : Addr} {fd : FuncData} (F : Fun K "_law_amount_by" "_law_amount_by" s_law_amount_by f fd) (T : Txt K mg) (D_law_mixed : Df P w K mg base CX0 1 "_law_mixed" ["_law_cell", "_law_many"] (sp_law_mixed T)) :
    FnOk P w K mg base CX0 2 f fd ["_law_cell"] (sp_law_amount_by T) := by
  refine F.ok sc_law_amount_by (fun vs H Q E h => ?_) (fun cdv A outer s H vs Q E hr h => ?_)
  · obtain ⟨c, rfl, _⟩ := h
    rfl
  · obtain ⟨c, rfl, q⟩ := h
    refine ⟨_, (pss_cons (ps_if (pt_cmpR op_eq (pe_op op_mod (pv 0) pe_int) pe_int (nomark _)) (pss_one (ps_ret (pe_ix ix_list (pe_lst (pa_cons pe_int (pa_cons pe_int (pa_cons pe_int (pa_cons pe_int pa_nil))))) (pe_op op_mod (pe_op op_fdiv (pv 0) pe_int) pe_int) (fun _ _ => rfl)))) pss_nil)
            (pss_cons (ps_if (pt_cmpR op_eq (pe_op op_mod (pv 0) pe_int) pe_int (nomark _)) (pss_one (ps_ret (pe_op op_add pe_int (pe_op op_mod (pe_op op_fdiv (pv 0) pe_int) pe_int)))) pss_nil)
            (pss_one (ps_ret (pe_op op_add pe_int (pe_op op_mod (pe_op op_add (pe_op op_mulX (pc0 D_law_mixed hr (pa_cons (pv 0) (pa_cons pe_int pa_nil))) pe_int) pe_int) pe_int)))))), ?_⟩
    unfold amountBy at q
    refine ⟨_, rfl, _, _, rfl, rfl, md, rfl, _, rfl, if_eq (fun c1 => ?_) (fun c1 => ?_)⟩
    · rw [if_pos c1] at q
      refine ⟨szl 4, fun l hl => ⟨_, rfl, _, _, rfl, rfl, dv, _, _, rfl, rfl, md, ?_⟩⟩
      obtain ⟨j, ej⟩ : ∃ j : Nat, c / 4 % 4 = (j : Int) := ⟨(c / 4 % 4).toNat, by omega⟩
      have hj : j < 4 := by omega
      refine ⟨l, _, _, V.int (([1, 2, 999999999999, 1000000000000] : List Int).getD (c / 4 % 4).toNat 0), rfl, rfl, SqL.of upd_same, at_of ej ?_, q _ (Same.new hl)⟩
      rw [ej, Int.toNat_natCast]
      match j, hj with
      | 0, _ => rfl
      | 1, _ => rfl
      | 2, _ => rfl
      | 3, _ => rfl
    · rw [if_neg c1] at q
      refine ⟨_, rfl, _, _, rfl, rfl, md, rfl, _, rfl, if_eq (fun c2 => ?_) (fun c2 => ?_)⟩
      · rw [if_pos c2] at q
        exact ⟨_, rfl, _, _, rfl, rfl, dv, _, _, rfl, rfl, md, _, _, rfl, rfl, q _ (Same.refl H)⟩
      · rw [if_neg c2] at q
        exact ⟨_, rfl, _, _, rfl, by decide, _, _, rfl, rfl, mulR, _, _, rfl, rfl, _, _, rfl, rfl, md, _, _, rfl, rfl, q _ (Same.refl H)⟩

theorem ok_law_owed {f : Addr} {fd : FuncData} (F : Fun K "_law_owed" "_law_owed" s_law_owed f fd) (T : Txt K mg)  :
    FnOk P w K mg base CX0 1 f fd ["_law_left", "_law_begun"] (sp_law_owed T) := by
  refine F.ok sc_law_owed (fun vs H Q E h => ?_) (fun cdv A outer s H vs Q E hr h => ?_)
  · obtain ⟨l, b, rfl, _⟩ := h
    rfl
  · obtain ⟨l, b, rfl, q⟩ := h
    refine ⟨_, (pss_one (ps_ret (pe_op op_add (pv 0) (pe_op op_fdiv (pe_op op_add (pv 1) pe_int) pe_int)))), ?_⟩
    have e : owedF l b = l + (b + 999999) / 1000000 := by
      unfold owedF
      rw [show b + 1000000 - 1 = b + 999999 by omega]
    rw [e] at q
    exact ⟨_, rfl, _, rfl, _, _, rfl, rfl, _, _, rfl, rfl, dv, _, _, rfl, rfl, q⟩

theorem ok_law_parts {f : Addr} {fd : FuncData} (F : Fun K "_law_parts" "_law_parts" s_law_parts f fd) (T : Txt K mg)  :
    FnOk P w K mg base CX0 1 f fd ["_law_left", "_law_begun", "_law_cents"] (sp_law_parts T) := by
  refine F.ok sc_law_parts (fun vs H Q E h => ?_) (fun cdv A outer s H vs Q E hr h => ?_)
  · obtain ⟨l, b, c, rfl, _⟩ := h
    rfl
  · obtain ⟨l, b, c, rfl, q⟩ := h
    refine ⟨_, (pss_cons (ps_set (i := 3) sc_law_parts.nd rfl (Or.inl rfl) (pe_op op_add (pv 0) (pe_op op_fdiv (pe_op op_add (pv 1) pe_int) pe_int)))
            (pss_cons (ps_if (pt_cmpR op_eq (pv 2) (pv 3) (nomark _)) (pss_one (ps_ret (pe_tup (pa_cons (pe_op op_sub (pv 3) (pv 0)) (pa_cons (pv 0) (pa_cons pe_int (pa_cons pe_int pa_nil))))))) pss_nil)
            (pss_cons (ps_set (i := 4) sc_law_parts.nd rfl (Or.inl rfl) (pe_callB (call_min2 rfl) (by rfl) T.b_min (by decide +kernel) (pa_cons (pv 2) (pa_cons (pe_op op_fdiv (pv 1) pe_int) pa_nil))))
            (pss_cons (ps_set (i := 5) sc_law_parts.nd rfl (Or.inl rfl) (pe_op op_sub (pv 2) (pv 4)))
            (pss_one (ps_ret (pe_tup (pa_cons (pv 4) (pa_cons (pv 5) (pa_cons (pe_op op_sub (pv 0) (pv 5)) (pa_cons (pe_op op_sub (pv 1) (pe_op op_mulX pe_int (pv 4))) pa_nil))))))))))), ?_⟩
    have e : owedF l b = l + (b + 999999) / 1000000 := by
      unfold owedF
      rw [show b + 1000000 - 1 = b + 999999 by omega]
    unfold payF at q
    rw [e] at q
    refine ⟨_, rfl, _, rfl, _, _, rfl, rfl, _, _, rfl, rfl, dv, _, _, rfl, rfl, ?_⟩
    refine ⟨_, rfl, _, rfl, rfl, _, rfl, if_eq (fun c1 => ?_) (fun c1 => ?_)⟩
    · rw [if_pos c1] at q
      exact ⟨_, rfl, _, rfl, _, _, rfl, rfl, _, rfl, szl 4, fun p hp => q p _ (Same.new hp) hp upd_same⟩
    · rw [if_neg c1, Int.mul_comm _ 1000000] at q
      refine ⟨_, rfl, _, rfl, _, _, rfl, rfl, dv, _, _, rfl, _, rfl, _, rfl, _, _, rfl, rfl, ?_⟩
      exact ⟨_, rfl, _, rfl, _, rfl, _, rfl, _, _, rfl, rfl, _, rfl, _, rfl, _, _, rfl, rfl, mulL, _, _, rfl, rfl, szl 4, fun p hp => q p _ (Same.new hp) hp upd_same⟩

theorem ok_law_two {f : Addr} {fd : FuncData} (F : Fun K "_law_two" "_law_two" s_law_two f fd) (T : Txt K mg) (D_law_whole : Df P w K mg base CX0 1 "_law_whole" ["_law_found"] (sp_law_whole T)) :
    FnOk P w K mg base CX0 2 f fd ["_law_found", "_law_one", "_law_other"] (sp_law_two T) := by
  refine F.ok sc_law_two (fun vs H Q E h => ?_) (fun cdv A outer s H vs Q E hr h => ?_)
  · obtain ⟨a, x, y, rfl, _⟩ := h
    rfl
  · obtain ⟨a, x, y, rfl, ha, q⟩ := h
    refine ⟨_, (pss_cons (ps_if (PW.pt (pw_or (pt_not (pt_val (pe_callB call_isi (by rfl) T.b_isinstance (by decide +kernel) (pa_cons (pv 0) (pa_cons (pe_bltn (v := .ty "tuple") (u := .type "tuple") rfl T.b_tuple (by decide +kernel) rfl) pa_nil))))) (pw_or1 (pt_cmpR op_ne (pe_callB call_len_seq (by rfl) T.b_len PySem.boot_len (pa_cons (pv 0) pa_nil)) pe_int (nomark _))))) (pss_one (ps_ret pe_bl)) pss_nil)
            (pss_cons (ps_if (PW.pt (pw_or (pt_not (pt_val (pc0 D_law_whole hr (pa_cons (pe_ix ix_tup (pv 0) pe_int (fun _ _ => rfl)) pa_nil)))) (pw_or1 (pt_not (pt_val (pc0 D_law_whole hr (pa_cons (pe_ix ix_tup (pv 0) pe_int (fun _ _ => rfl)) pa_nil))))))) (pss_one (ps_ret pe_bl)) pss_nil)
            (pss_one (ps_ret (pe_and (pe_cmpR op_eq (pe_ix ix_tup (pv 0) pe_int (fun _ _ => rfl)) (pv 1) (nomark _)) (pe_one (pe_cmpR op_eq (pe_ix ix_tup (pv 0) pe_int (fun _ _ => rfl)) (pv 2) (nomark _)))))))), ?_⟩
    refine ⟨_, rfl, _, _, _, _, _, rfl, .ty "tuple", .base (.tup ha), kit_ty (r := true) (by decide +kernel), true, rfl, ifnT ?_⟩
    refine ⟨_, rfl, a, _, rfl, .inr (SqT.of ha), rfl, _, rfl, if_ne (fun c => absurd rfl c) fun _ => ?_⟩
    refine ⟨_, rfl, a, _, _, _, rfl, rfl, SqT.of ha, at0 rfl, _, rfl, true, rfl, ifnT ?_⟩
    refine ⟨_, rfl, a, _, _, _, rfl, rfl, SqT.of ha, at_of (j := 1) rfl rfl, _, rfl, true, rfl, ifnT ?_⟩
    refine ⟨_, rfl, a, _, _, _, rfl, rfl, SqT.of ha, at0 rfl, _, rfl, rfl, _, rfl, ?_⟩
    rw [eqInt rfl]
    refine iteT ⟨_, rfl, a, _, _, _, rfl, rfl, SqT.of ha, at_of (j := 1) rfl rfl, _, rfl, rfl, ?_⟩
    rw [eqInt rfl]
    exact q

theorem ok_law_walked {f : Addr} {fd : FuncData} (F : Fun K "_law_walked" "_law_walked" s_law_walked f fd) (T : Txt K mg) (D_law_rate_of : Df P w K mg base CX0 1 "_law_rate_of" ["_law_row", "_law_day"] (sp_law_rate_of T)) :
    FnOk P w K mg base CX0 2 f fd ["_law_stood", "_law_day"] (sp_law_walked T) := by
  refine F.ok sc_law_walked (fun vs H Q E h => ?_) (fun cdv A outer s H vs Q E hr h => ?_)
  · obtain ⟨st, lq, tq, z, d, rfl, _⟩ := h
    rfl
  · obtain ⟨st, lq, tq, z, d, rfl, S, rok, lok, dz, d2, q⟩ := h
    refine ⟨_, (pss_cons (ps_asg (pv 0) (pg_lst rfl (pgs_cons (pg_name (i := 2) sc_law_walked.nd rfl (Or.inl rfl)) (pgs_cons (pg_name (i := 3) sc_law_walked.nd rfl (Or.inl rfl)) (pgs_cons (pg_name (i := 4) sc_law_walked.nd rfl (Or.inl rfl)) (pgs_cons (pg_name (i := 5) sc_law_walked.nd rfl (Or.inl rfl)) pgs_nil))))))
            (pss_cons (ps_set (i := 6) sc_law_walked.nd rfl (Or.inl rfl) (pv 1))
            (Evl.pss_cut (ps_if (pt_cmpR op_gt (pe_callB call_len_seq (by rfl) T.b_len PySem.boot_len (pa_cons (pv 5) pa_nil)) pe_int (nomark _)) (pss_one (ps_set (i := 6) sc_law_walked.nd rfl (Or.inl rfl) (pe_callB (call_min2 rfl) (by rfl) T.b_min (by decide +kernel) (pa_cons (pv 1) (pa_cons (pe_op op_sub (pe_ix ix_tup (pe_ix ix_list (pv 5) pe_int (fun _ _ => rfl)) pe_int (fun _ _ => rfl)) pe_int) pa_nil))))) pss_nil)
            (Evl.pss_cut (ps_if (pt_cmpR op_gt (pv 6) (pv 4) (nomark _)) (pss_cons (ps_set (i := 3) sc_law_walked.nd rfl (Or.inl rfl) (pe_op op_add (pv 3) (pe_op op_mulX (pe_op op_mulX (pv 2) (pe_ix ix_tup (pe_ix ix_list (pv 5) pe_int (fun _ _ => rfl)) pe_int (fun _ _ => rfl))) (pe_op op_sub (pv 6) (pv 4)))))
            (pss_one (ps_set (i := 4) sc_law_walked.nd rfl (Or.inl rfl) (pv 6)))) pss_nil)
            (pss_cons (ps_for PassesOwn.never rfl (pi_range2 rfl T.b_range (pa_cons (pe_op op_add (pv 4) pe_int) (pa_cons (pe_op op_add (pv 1) pe_int) pa_nil))) (pg_name (i := 7) sc_law_walked.nd rfl (Or.inl rfl)) (pss_one (ps_set (i := 3) sc_law_walked.nd rfl (Or.inl rfl) (pe_op op_add (pv 3) (pe_op op_mulX (pv 2) (pc0 D_law_rate_of hr (pa_cons (pv 5) (pa_cons (pv 7) pa_nil))))))))
            (pss_one (ps_ret (pv 3)))))))), ?_⟩
    have g := rok.g
    have R := S.row
    have hl0 := lok.l0
    have hl1 := lok.l1
    have hd0 := lok.d0
    have hlen : tq.length = (vals tq).length := (vals_len tq).symm
    have hlen2 := rok.len
    obtain ⟨r0, rest, er⟩ := g.ne
    have f0 : (vals tq)[0]? = some (0, r0) := by rw [er]; rfl
    have hr0 := g.rate _ (List.mem_of_getElem? f0)
    simp only at hr0
    obtain ⟨b0, hb0, hbp0⟩ := R.at (z := 0) (j := 0) rfl f0
    refine ⟨_, rfl, st, _, rfl, SqL.of S.lst, rfl, _, _, rfl, _, _, rfl, _, _, rfl, _, _, rfl, rfl, _, rfl, ?_⟩
    refine ⟨fun σ H1 => H1 = H ∧ ∃ f, f ≤ d ∧ (∀ k, 0 ≤ k → k ≤ f → rateOn (vals tq) k = r0) ∧ σ = [some (.ref st), some (.int d), some (.int z.left), some (.int z.begun), some (.int z.day), some (.ref lq), some (.int f), none], ?_, ?_⟩
    · refine ⟨_, rfl, lq, _, rfl, .inl R.seq, _, _, rfl, rfl, _, rfl, ifd (fun c => ?_) (fun c => ?_)⟩
      · rw [rowV_len, hlen, er] at c
        cases rest with
        | nil => exact absurd c (by simp)
        | cons p1 rest =>
          have f1 : (vals tq)[1]? = some p1 := by rw [er]; rfl
          obtain ⟨b1, hb1, hbp1⟩ := R.at (z := 1) (j := 1) rfl f1
          refine ⟨_, rfl, _, rfl, lq, _, _, _, rfl, rfl, R.seq, hb1, b1, _, _, _, rfl, rfl, SqT.of hbp1, at0 rfl, _, _, rfl, rfl, _, _, rfl, rfl, _, ?_, fun k k0 k1 => rateOn_first g er k0 ?_, rfl⟩
          · split <;> omega
          · split at k1 <;> omega
      · rw [rowV_len, hlen, er] at c
        cases rest with
        | nil => exact ⟨rfl, _, Int.le_refl _, fun k k0 _ => by rw [er]; exact rateOn_only k0, rfl⟩
        | cons p1 rest => exact absurd (by simp only [List.length_cons]; omega) c
    rintro σ H1 ⟨rfl, f, f1, fr, rfl⟩
    refine ⟨fun σ H2 => H2 = H1 ∧ ∃ t, z.day ≤ t ∧ t ≤ d ∧ σ = [some (.ref st), some (.int d), some (.int z.left), some (.int (begunAt (vals tq) z t)), some (.int t), some (.ref lq), some (.int f), none], ?_, ?_⟩
    · refine ⟨_, rfl, _, rfl, _, _, rfl, rfl, _, rfl, ifd (fun c => ?_) (fun c => ?_)⟩
      · refine ⟨_, rfl, _, rfl, _, rfl, lq, _, _, _, rfl, rfl, R.seq, hb0, b0, _, _, _, rfl, rfl, SqT.of hbp0, at_of (j := 1) rfl rfl, _, _, rfl, rfl, IntMulOk.of_left (PySem.intBits_le_64 (by omega) (by omega)), _, rfl, _, rfl, _, _, rfl, rfl, _, _, rfl, rfl, IntMulOk.of_right (PySem.intBits_le_64 (by omega) (by omega)), _, _, rfl, rfl, _, rfl, rfl, f, by omega, f1, ?_⟩
        rw [begunAt_const (c := r0) (by omega) fun k k0 k1 => fr k (by omega) k1]
        rfl
      · refine ⟨rfl, z.day, Int.le_refl _, dz, ?_⟩
        rw [begunAt_self]
    rintro σ H2 ⟨rfl, t, t0, t1, rfl⟩
    refine ⟨_, rfl, _, _, rfl, rfl, _, rfl, _, _, rfl, rfl, _, _, rfl, ⟨by omega, by omega, by omega, by omega⟩, for_range (lo := t + 1) (n := (d + 1 - (t + 1)).toNat)
      (fun i σ H3 => H3 = H2 ∧ ∃ v7 : Option V, σ = [some (.ref st), some (.int d), some (.int z.left), some (.int (begunAt (vals tq) z (t + (i : Int)))), some (.int t), some (.ref lq), some (.int f), v7])
      ⟨rfl, none, ?_⟩ ?_ ?_⟩
    · rw [show t + ((0 : Nat) : Int) = t by omega]
    · rintro i σ H3 hi ⟨rfl, v7, rfl⟩
      refine ⟨_, rfl, _, rfl, _, rfl, _, rfl, lq, tq, _, rfl, R, _, _, rfl, rfl, IntMulOk.of_left (PySem.intBits_le_64 (by omega) (by omega)), _, _, rfl, rfl, rfl, some (.int (t + 1 + (i : Int))), ?_⟩
      rw [show t + ((i + 1 : Nat) : Int) = t + (i : Int) + 1 by omega, begunAt_step (by omega), show t + (i : Int) + 1 = t + 1 + (i : Int) by omega]
      rfl
    · rintro σ H3 ⟨rfl, v7, rfl⟩
      refine ⟨_, rfl, ?_⟩
      rw [show t + (((d + 1 - (t + 1)).toNat : Nat) : Int) = d by omega]
      exact q

theorem ok_law_cents_by {f : Addr} {fd : FuncData} (F : Fun K "_law_cents_by" "_law_cents_by" s_law_cents_by f fd) (T : Txt K mg) (D_law_owed : Df P w K mg base CX0 1 "_law_owed" ["_law_left", "_law_begun"] (sp_law_owed T)) (D_law_mixed : Df P w K mg base CX0 1 "_law_mixed" ["_law_cell", "_law_many"] (sp_law_mixed T)) :
    FnOk P w K mg base CX0 2 f fd ["_law_size", "_law_left", "_law_begun"] (sp_law_cents_by T) := by
  refine F.ok sc_law_cents_by (fun vs H Q E h => ?_) (fun cdv A outer s H vs Q E hr h => ?_)
  · obtain ⟨c, l, b, rfl, _⟩ := h
    rfl
  · obtain ⟨c, l, b, rfl, h1, q⟩ := h
    refine ⟨_, (pss_cons (ps_set (i := 3) sc_law_cents_by.nd rfl (Or.inl rfl) (pc0 D_law_owed hr (pa_cons (pv 1) (pa_cons (pv 2) pa_nil))))
            (pss_cons (ps_set (i := 4) sc_law_cents_by.nd rfl (Or.inl rfl) (pe_lst (pa_cons pe_int (pa_cons (pv 3) (pa_cons (pe_op op_fdiv (pv 2) pe_int) (pa_cons (pe_op op_fdiv (pv 3) pe_int) (pa_cons (pe_op op_sub (pv 3) pe_int) pa_nil)))))))
            (pss_cons (ps_if (pt_cmpR op_lt (pe_op op_mod (pv 0) pe_int) pe_int (nomark _)) (pss_one (ps_ret (pe_callB (call_min2 rfl) (by rfl) T.b_min (by decide +kernel) (pa_cons (pe_callB (call_max2 rfl) (by rfl) T.b_max (by decide +kernel) (pa_cons pe_int (pa_cons (pe_ix ix_list (pv 4) (pe_op op_mod (pv 0) pe_int) (fun _ _ => rfl)) pa_nil))) (pa_cons (pv 3) pa_nil))))) pss_nil)
            (pss_one (ps_ret (pe_op op_add pe_int (pe_op op_mod (pe_op op_mulX (pc0 D_law_mixed hr (pa_cons (pv 0) (pa_cons pe_int pa_nil))) pe_int) (pe_callB (call_max2 rfl) (by rfl) T.b_max (by decide +kernel) (pa_cons pe_int (pa_cons (pe_op op_fdiv (pv 3) (pe_op op_add pe_int (pe_op op_mod (pv 0) pe_int))) pa_nil)))))))))), ?_⟩
    refine ⟨_, rfl, _, rfl, _, _, rfl, ?_⟩
    generalize owedF l b = o at h1 q ⊢
    refine ⟨_, rfl, _, rfl, _, _, rfl, rfl, dv, _, rfl, _, _, rfl, rfl, dv, _, rfl, _, _, rfl, rfl, szl 5, fun p hp => ?_⟩
    refine ⟨_, rfl, _, _, rfl, rfl, md, _, _, rfl, rfl, _, rfl, ifd (fun c1 => ?_) (fun c1 => ?_)⟩
    · obtain ⟨j, ej⟩ : ∃ j : Nat, c % 9 = (j : Int) := ⟨(c % 9).toNat, by omega⟩
      have c2 : c % 9 < 5 := c1
      obtain ⟨v, hv⟩ := get_of (l := ([1, o, b / 1000000, o / 2, o - 1] : List Int)) (j := j) (by show j < 5; omega)
      refine ⟨_, rfl, _, rfl, _, _, rfl, rfl, md, p, _, _, _, rfl, rfl, SqL.of upd_same, at_m (f := V.int) (l := [1, o, b / 1000000, o / 2, o - 1]) ej hv, _, _, rfl, _, rfl, _, _, rfl, q _ _ (Same.new hp) ?_ ?_⟩
      · split <;> split <;> omega
      · split <;> split <;> omega
    · refine ⟨_, rfl, _, _, rfl, by decide, _, _, rfl, rfl, mulR, _, rfl, _, rfl, _, _, rfl, rfl, md, _, _, rfl, rfl, _, _, rfl, rfl, ⟨by omega, by omega⟩, _, _, rfl, ?_⟩
      obtain ⟨m, em, m0, m1⟩ : ∃ m, (if o / (1 + c % 7) > 1 then o / (1 + c % 7) else 1) = m ∧ 0 < m ∧ m ≤ o := by
        refine ⟨_, rfl, ?_, ?_⟩
        · split <;> omega
        · have : o / (1 + c % 7) ≤ o := Int.ediv_le_self _ (by omega)
          split <;> omega
      rw [em]
      refine ⟨_, _, rfl, rfl, m0, _, _, rfl, rfl, q _ _ (Same.new hp) ?_ ?_⟩
      · have := Int.emod_nonneg (mixed c 2147483647 * 467) (show m ≠ 0 by omega)
        show 1 ≤ 1 + mixed c 2147483647 * 467 % m
        omega
      · have := Int.emod_lt_of_pos (mixed c 2147483647 * 467) m0
        show 1 + mixed c 2147483647 * 467 % m ≤ o
        omega

theorem ok_law_pay {f : Addr} {fd : FuncData} (F : Fun K "_law_pay" "_law_pay" s_law_pay f fd) (T : Txt K mg) (D_law_walked : Df P w K mg base CX0 2 "_law_walked" ["_law_stood", "_law_day"] (sp_law_walked T)) (D_law_cents_by : Df P w K mg base CX0 2 "_law_cents_by" ["_law_size", "_law_left", "_law_begun"] (sp_law_cents_by T)) (D_law_parts : Df P w K mg base CX0 1 "_law_parts" ["_law_left", "_law_begun", "_law_cents"] (sp_law_parts T)) (D_Loan_pay : Dm P w K mg base (L2.CX P w) 4 T.a_Loan "pay" ["self", "day", "cents"] (sp_Loan_pay T)) (D_law_two : Df P w K mg base CX0 2 "_law_two" ["_law_found", "_law_one", "_law_other"] (sp_law_two T)) :
    FnOk P w K mg base CX0 5 f fd ["_law_loan", "_law_stood", "_law_day", "_law_size"] (sp_law_pay T) := by
  refine F.ok sc_law_pay (fun vs H Q E h => ?_) (fun cdv A outer s H vs Q E hr h => ?_)
  · obtain ⟨x, dx, l, st, lq, us, tq, z, d, n, rfl, _⟩ := h
    rfl
  · obtain ⟨x, dx, l, st, lq, us, tq, z, d, n, rfl, X, S, e, rok, lok, dz, d2, o1, q⟩ := h
    refine ⟨_, (pss_cons (ps_set (i := 4) sc_law_pay.nd rfl (Or.inl rfl) (pc0 D_law_walked hr (pa_cons (pv 1) (pa_cons (pv 2) pa_nil))))
            (pss_cons (ps_set (i := 5) sc_law_pay.nd rfl (Or.inl rfl) (pc0 D_law_cents_by hr (pa_cons (pv 3) (pa_cons (pe_ix ix_list (pv 1) pe_int (fun _ _ => rfl)) (pa_cons (pv 4) pa_nil)))))
            (pss_cons (ps_set (i := 6) sc_law_pay.nd rfl (Or.inl rfl) (pc0 D_law_parts hr (pa_cons (pe_ix ix_list (pv 1) pe_int (fun _ _ => rfl)) (pa_cons (pv 4) (pa_cons (pv 5) pa_nil)))))
            (pss_cons (ps_set (i := 7) sc_law_pay.nd rfl (Or.inl rfl) (pe_meth (pv 0) T.cl_Loan D_Loan_pay.me D_Loan_pay.G (hr.mono (by decide)) D_Loan_pay.b .nil passL (pa_cons (pv 2) (pa_cons (pv 5) pa_nil))))
            (pss_one (ps_ret (pe_tup (pa_cons (pc0 D_law_two hr (pa_cons (pv 7) (pa_cons (pe_ix ix_tup (pv 6) pe_int (fun _ _ => rfl)) (pa_cons (pe_ix ix_tup (pv 6) pe_int (fun _ _ => rfl)) pa_nil)))) (pa_cons (pe_lst (pa_cons (pe_ix ix_tup (pv 6) pe_int (fun _ _ => rfl)) (pa_cons (pe_ix ix_tup (pv 6) pe_int (fun _ _ => rfl)) (pa_cons (pv 2) (pa_cons (pe_ix ix_list (pv 1) pe_int (fun _ _ => rfl)) pa_nil))))) pa_nil))))))))), ?_⟩
    have rokq : Rok (vals tq) := by rw [← e]; exact rok
    refine ⟨_, rfl, _, rfl, st, lq, tq, z, d, rfl, S, rokq, lok, dz, d2, ?_⟩
    rw [← e]
    refine ⟨_, rfl, _, rfl, st, _, _, _, rfl, rfl, SqL.of S.lst, at0 rfl, _, rfl, _, _, _, rfl, o1, fun c H1 s1 c1 c2 => ?_⟩
    have S1 := S.same s1
    refine ⟨_, rfl, st, _, _, _, rfl, rfl, SqL.of S1.lst, at0 rfl, _, rfl, _, rfl, _, _, _, rfl, fun p1 H2 s2 hp1 t1 => ?_⟩
    have X2 := (X.same s1).same s2
    refine ⟨_, rfl, x, dx, _, rfl, X2.ob, lf_no _ _ (by decide +kernel) (by decide +kernel) (by decide +kernel) (by decide +kernel), _, rfl, _, rfl, x, dx, l, us, z, d, c, rfl, X2, rok, lok, fun n => absurd ⟨dz, d2⟩ n, fun _ _ n => absurd ⟨c1, c2⟩ n, fun _ _ _ _ p2 H3 b3 hp2 X3 t3 => ?_⟩
    have s12 := s1.trans s2
    have t1b : H3 p1 = _ := b3 _ _ t1 (ne_of t1 X2.ob (by intro q; cases q))
    have S2 := S1.same s2
    have S3 : H3 st = _ := b3 _ _ S2.lst (ne_of S2.lst X2.ob (by intro q; cases q))
    have R3 := b3.row X2.ob S2.row
    refine ⟨_, rfl, _, rfl, p1, _, _, _, rfl, rfl, SqT.of t1b, at0 rfl, _, rfl, p1, _, _, _, rfl, rfl, SqT.of t1b, at_of (j := 1) rfl rfl, p2, _, _, rfl, t3, ?_⟩
    refine ⟨_, rfl, p1, _, _, _, rfl, rfl, SqT.of t1b, at_of (j := 2) rfl rfl, _, rfl, p1, _, _, _, rfl, rfl, SqT.of t1b, at_of (j := 3) rfl rfl, _, rfl, _, rfl, st, _, _, _, rfl, rfl, SqL.of S3, at_of (j := 3) rfl rfl, szl 4, fun st2 h2 => ⟨szl 2, fun p h => ?_⟩⟩
    have s4 : Same H3 (L2.upd H3 st2 (.lst [.int (payLn (vals us) z d c).left, .int (payLn (vals us) z d c).begun, .int (payLn (vals us) z d c).day, .ref lq])) := Same.new h2
    have u4 : (L2.upd H3 st2 (.lst [.int (payLn (vals us) z d c).left, .int (payLn (vals us) z d c).begun, .int (payLn (vals us) z d c).day, .ref lq])) st2 = _ := upd_same
    have s5 := Same.new (o := .tup [.bl true, .ref st2]) h
    have s45 := s4.trans s5
    exact q c p st2 _ c1 c2 (fun b o hb nb => s45 _ _ (b3 b o (s12 b o hb) nb)) (X3.same s45) ⟨s5 _ _ u4, R3.same s45⟩ upd_same

theorem ok_law_no_pay {f : Addr} {fd : FuncData} (F : Fun K "_law_no_pay" "_law_no_pay" s_law_no_pay f fd) (T : Txt K mg) (D_law_owed : Df P w K mg base CX0 1 "_law_owed" ["_law_left", "_law_begun"] (sp_law_owed T)) (D_law_walked : Df P w K mg base CX0 2 "_law_walked" ["_law_stood", "_law_day"] (sp_law_walked T)) (D_Loan_pay : Dm P w K mg base (L2.CX P w) 4 T.a_Loan "pay" ["self", "day", "cents"] (sp_Loan_pay T)) :
    FnOk P w K mg base CX0 5 f fd ["_law_loan", "_law_stood", "_law_day", "_law_size"] (sp_law_no_pay T) := by
  refine F.ok sc_law_no_pay (fun vs H Q E h => ?_) (fun cdv A outer s H vs Q E hr h => ?_)
  · obtain ⟨x, dx, l, st, lq, us, tq, z, d, n, rfl, _⟩ := h
    rfl
  · obtain ⟨x, dx, l, st, lq, us, tq, z, d, n, rfl, X, S, e, rok, lok, dz, d2, q⟩ := h
    refine ⟨_, (pss_cons (ps_set (i := 4) sc_law_no_pay.nd rfl (Or.inl rfl) (pe_ix ix_list (pe_lst (pa_cons pe_int (pa_cons (pe_op op_add (pc0 D_law_owed hr (pa_cons (pe_ix ix_list (pv 1) pe_int (fun _ _ => rfl)) (pa_cons (pc0 D_law_walked hr (pa_cons (pv 1) (pa_cons (pv 2) pa_nil))) pa_nil))) pe_int) (pa_cons (pe_un un_neg pe_int) pa_nil)))) (pe_op op_mod (pv 3) pe_int) (fun _ _ => rfl)))
            (Evl.pss_cut (ps_try_mix rfl rfl takes0 (fun W pn xe tk po => (pss_one (ps_expr (by exact (pe_methT (pv 0) T.cl_Loan D_Loan_pay.me D_Loan_pay.G (hr.mono (by decide)) D_Loan_pay.b (fun σ => passAt tk σ) (by exact (pa_cons (pv 2) (pa_cons (pv 4) pa_nil)))))))) (.plain ⟨rfl, by decide, .inl T.g_BadPay⟩ (fun a oe cls d pn hz hf => (pss_one (ps_ret pe_bl))) .nil))
            (pss_one (ps_ret pe_bl)))), ?_⟩
    have rokq : Rok (vals tq) := by rw [← e]; exact rok
    refine ⟨_, rfl, st, _, _, _, rfl, rfl, SqL.of S.lst, at0 rfl, _, rfl, _, rfl, st, lq, tq, z, d, rfl, S, rokq, lok, dz, d2, ?_⟩
    rw [← e]
    refine ⟨_, _, rfl, _, _, rfl, rfl, _, rfl, szl 3, fun p hp => ?_⟩
    obtain ⟨j, ej⟩ : ∃ j : Nat, n % 3 = (j : Int) := ⟨(n % 3).toNat, by omega⟩
    have hj : j < 3 := by omega
    obtain ⟨c, hc, nc⟩ : ∃ c, ([0, owedF z.left (begunAt (vals us) z d) + 1, -1] : List Int)[j]? = some c ∧ ¬ (1 ≤ c ∧ c ≤ owedF z.left (begunAt (vals us) z d)) := by
      match j, hj with
      | 0, _ => exact ⟨_, rfl, by omega⟩
      | 1, _ => exact ⟨_, rfl, by omega⟩
      | 2, _ => exact ⟨_, rfl, by omega⟩
    refine ⟨_, rfl, _, _, rfl, rfl, md, p, _, _, _, rfl, rfl, SqL.of upd_same, at_m (f := V.int) (l := [0, owedF z.left (begunAt (vals us) z d) + 1, -1]) ej hc, ?_⟩
    have s1 : Same H (L2.upd H p (.lst [.int 0, .int (owedF z.left (begunAt (vals us) z d) + 1), .int (-1)])) := Same.new hp
    refine ⟨fun _ _ => False, ?_, fun σ H' h => h.elim⟩
    have X1 := X.same s1
    refine ⟨_, rfl, x, dx, _, rfl, X1.ob, lf_no _ _ (by decide +kernel) (by decide +kernel) (by decide +kernel) (by decide +kernel), _, rfl, _, rfl, x, dx, l, us, z, d, c, rfl, X1, rok, lok, fun n => absurd ⟨dz, d2⟩ n, fun _ _ _ H2 s2 => ⟨true, T.m_BadPay_BadPay, fun _ a ha => q _ (s1.trans s2), fun y => Bool.noConfusion y⟩, fun _ _ c1 c2 => absurd ⟨c1, c2⟩ nc⟩

theorem ok_law_change {f : Addr} {fd : FuncData} (F : Fun K "_law_change" "_law_change" s_law_change f fd) (T : Txt K mg) (D_law_rate_by : Df P w K mg base CX0 2 "_law_rate_by" ["_law_cell"] (sp_law_rate_by T)) (D_Loan_change : Dm P w K mg base (L2.CX P w) 2 T.a_Loan "change" ["self", "day", "rate"] (sp_Loan_change T)) :
    FnOk P w K mg base CX0 3 f fd ["_law_loan", "_law_stood", "_law_day", "_law_size"] (sp_law_change T) := by
  refine F.ok sc_law_change (fun vs H Q E h => ?_) (fun cdv A outer s H vs Q E hr h => ?_)
  · obtain ⟨x, dx, l, st, lq, us, tq, z, d, n, rfl, _⟩ := h
    rfl
  · obtain ⟨x, dx, l, st, lq, us, tq, z, d, n, rfl, X, S, e, rok, hlen, nl, qb, qg⟩ := h
    refine ⟨_, (pss_cons (ps_set (i := 4) sc_law_change.nd rfl (Or.inl rfl) (pc0 D_law_rate_by hr (pa_cons (pv 3) pa_nil)))
            (Evl.pss_cut (ps_set (i := 5) sc_law_change.nd rfl (Or.inl rfl) (pe_and (pe_chain op_lt op_le (pe_ix ix_list (pv 1) pe_int (fun _ _ => rfl)) (pv 2) pe_int) (pe_one (pe_cmpR op_lt (pe_ix ix_tup (pe_ix ix_list (pe_ix ix_list (pv 1) pe_int (fun _ _ => rfl)) (pe_un un_neg pe_int) (fun _ _ => rfl)) pe_int (fun _ _ => rfl)) (pv 2) (nomark _)))))
            (Evl.pss_cut (ps_try_mix rfl rfl takes0 (fun W pn xe tk po => (pss_one (ps_set (i := 6) sc_law_change.nd rfl (Or.inl rfl) (by exact (pe_methT (pv 0) T.cl_Loan D_Loan_change.me D_Loan_change.G (hr.mono (by decide)) D_Loan_change.b (fun σ => passAt tk σ) (by exact (pa_cons (pv 2) (pa_cons (pv 4) pa_nil)))))))) (.plain ⟨rfl, by decide, .inl T.g_BadDay⟩ (fun a oe cls d pn hz hf => (pss_one (ps_ret (pe_tup (pa_cons (pe_not (pv 5)) (pa_cons (pv 1) pa_nil)))))) .nil))
            (pss_one (ps_ret (pe_tup (pa_cons (pe_and (pv 5) (pe_one (pe_cmpR op_isN (pv 6) pe_non (nomark _)))) (pa_cons (pe_op op_cat (pe_slice sl_list (pv 1) po_none (po_some pe_int)) (pe_lst (pa_cons (pe_op op_cat (pe_ix ix_list (pv 1) pe_int (fun _ _ => rfl)) (pe_lst (pa_cons (pe_tup (pa_cons (pv 2) (pa_cons (pv 4) pa_nil))) pa_nil))) pa_nil))) pa_nil)))))))), ?_⟩
    have rokq : Rok (vals tq) := by rw [← e]; exact rok
    have lq2 : tq.length = us.length := by rw [← vals_len, ← e, vals_len]
    refine ⟨_, rfl, _, rfl, fun H1 s1 => ?_⟩
    have ro := rateBy_ok n
    generalize rateBy n = r at ro ⊢
    have S1 := S.same s1
    have X1 := X.same s1
    obtain ⟨b, rl, hb, hbp, _⟩ := S1.row.last (good_ne rokq.g)
    rw [← e] at hbp
    refine ⟨fun σ H2 => H2 = H1 ∧ ∃ gd : Bool, (gd = true ↔ ¬ (d ≤ z.day ∨ d ≤ lastDay (vals us) ∨ d > 100000)) ∧ σ = [some (.ref x), some (.ref st), some (.int d), some (.int n), some (.int r), some (.bl gd), none], ?_, ?_⟩
    · refine ⟨_, rfl, st, _, _, _, rfl, rfl, SqL.of S1.lst, at_of (j := 2) rfl rfl, _, rfl, _, _, rfl, rfl, _, rfl, ifd (fun c1 => ?_) (fun c1 => ?_)⟩
      · refine ⟨_, _, rfl, rfl, _, rfl, ifd (fun c2 => ?_) (fun c2 => ?_)⟩
        · refine ⟨_, rfl, st, _, _, _, rfl, rfl, SqL.of S1.lst, at_of (j := 3) rfl rfl, _, rfl, lq, _, _, _, rfl, rfl, S1.row.seq, hb, b, _, _, _, rfl, rfl, SqT.of hbp, at0 rfl, _, rfl, _, _, rfl, rfl, rfl, _, ?_, rfl⟩
          rw [decide_eq_true_iff]
          omega
        · exact ⟨rfl, _, ⟨fun y => Bool.noConfusion y, fun y => absurd (by omega) y⟩, rfl⟩
      · exact ⟨_, rfl, iteF ⟨rfl, _, ⟨fun y => Bool.noConfusion y, fun y => absurd (by omega) y⟩, rfl⟩⟩
    rintro σ H2 ⟨rfl, gd, eg, rfl⟩
    refine ⟨fun σ H3 => gd = true ∧ But l H H3 ∧ (∃ p1, LoanAt T.a_Loan H3 x dx l (us ++ [(p1, d, r)]) z) ∧ σ = [some (.ref x), some (.ref st), some (.int d), some (.int n), some (.int r), some (.bl gd), some .non], ?_, ?_⟩
    · refine ⟨_, rfl, x, dx, _, rfl, X1.ob, lf_no _ _ (by decide +kernel) (by decide +kernel) (by decide +kernel) (by decide +kernel), _, rfl, _, rfl, x, dx, l, us, z, d, r, rfl, X1, rok, fun n => ?_, fun _ n => absurd ro n, fun n _ _ p1 H3 b3 hp1 X3 => ?_⟩
      · refine ⟨true, T.m_BadDay_BadDay, fun _ a ha => ?_, fun y => Bool.noConfusion y⟩
        obtain rfl : gd = false := by
          cases gd with
          | false => rfl
          | true => exact absurd n (eg.mp rfl)
        refine ⟨_, rfl, _, rfl, _, rfl, szl 2, fun p hp => ?_⟩
        exact qb n p _ (s1.upd hp) upd_same
      · exact ⟨eg.mpr n, fun b o hb nb => b3 b o (s1 b o hb) nb, ⟨p1, X3⟩, rfl⟩
    rintro σ H3 ⟨rfl, b3, ⟨p1, X3⟩, rfl⟩
    have n := eg.mp rfl
    have S3 : H3 st = _ := b3 _ _ S.lst (S.ne_row X.row)
    have R3 := b3.rowl X.row.lst nl S.row
    refine ⟨_, rfl, _, rfl, iteT ⟨_, rfl, rfl, ?_⟩⟩
    refine ⟨_, rfl, _, rfl, st, _, rfl, SqL.of S3, fun p3 h3 => ?_⟩
    rw [show cutV [V.int z.left, V.int z.begun, V.int z.day, V.ref lq] none (some 3) = [V.int z.left, V.int z.begun, V.int z.day] from cut_to (k := 3) (n := 3) rfl (by show 3 ≤ 4; decide)]
    have z3 : Same H3 (L2.upd H3 p3 (.lst [.int z.left, .int z.begun, .int z.day])) := Same.new h3
    have u3 : (L2.upd H3 p3 (.lst [.int z.left, .int z.begun, .int z.day])) p3 = _ := upd_same
    have S4 := z3 _ _ S3
    have R4 := R3.same z3
    have X4 := X3.same z3
    have b4 : But l H (L2.upd H3 p3 (.lst [.int z.left, .int z.begun, .int z.day])) := fun b o hb nb => z3 _ _ (b3 b o hb nb)
    show tLst _ _ (L2.upd H3 p3 (.lst [.int z.left, .int z.begun, .int z.day])) _
    generalize L2.upd H3 p3 (.lst [.int z.left, .int z.begun, .int z.day]) = H4 at u3 S4 R4 X4 b4 ⊢
    refine ⟨_, rfl, st, _, _, _, rfl, rfl, SqL.of S4, at_of (j := 3) rfl rfl, _, rfl, _, rfl, szl 2, fun p4 h4 => ?_⟩
    have z5 : Same H4 (L2.upd H4 p4 (tupV (d, r))) := Same.new h4
    have u5 : (L2.upd H4 p4 (tupV (d, r))) p4 = some (tupV (d, r)) := upd_same
    refine ⟨szl 1, fun p5 h5 => ?_⟩
    change (L2.upd H4 p4 (tupV (d, r))) p5 = none at h5
    show rCat _ _ (L2.upd (L2.upd H4 p4 (tupV (d, r))) p5 (.lst [.ref p4])) _
    generalize L2.upd H4 p4 (tupV (d, r)) = H5 at z5 u5 h5 ⊢
    have z6 : Same H5 (L2.upd H5 p5 (.lst [.ref p4])) := Same.new h5
    have u6 : (L2.upd H5 p5 (.lst [.ref p4])) p5 = some (.lst [.ref p4]) := upd_same
    generalize L2.upd H5 p5 (.lst [.ref p4]) = H6 at z6 u6 ⊢
    have z46 := z5.trans z6
    refine ⟨lq, p5, rowV tq, [.ref p4], rfl, rfl, z46 _ _ R4.lst, u6, sz_small (by rw [rowV_len]; show tq.length + 1 ≤ 100000; omega), fun q2 h7 => ?_⟩
    have z7 : Same H6 (L2.upd H6 q2 (.lst (rowV tq ++ [.ref p4]))) := Same.new h7
    have hf : H q2 = none := by
      cases ho : H q2 with
      | none => rfl
      | some o =>
        by_cases y : q2 = l
        · have := z46 _ _ X4.row.lst
          rw [← y, h7] at this
          cases this
        · have := z46 _ _ (b4 _ _ ho y)
          rw [h7] at this
          cases this
    have Rn : Row (L2.upd H6 q2 (.lst (rowV tq ++ [.ref p4]))) q2 (tq ++ [(p4, d, r)]) := by
      refine ⟨by rw [rowV_append]; exact upd_same, fun t ht => ?_⟩
      rcases List.mem_append.mp ht with e1 | e1
      · exact z7 _ _ (z46 _ _ (R4.prs t e1))
      · obtain rfl : t = (p4, d, r) := by simpa using e1
        exact z7 _ _ (z6 _ _ u5)
    have z47 := z46.trans z7
    refine ⟨szl 1, fun p8 h8 => ?_⟩
    change (L2.upd H6 q2 (.lst (rowV tq ++ [.ref p4]))) p8 = none at h8
    show rCat _ _ (L2.upd (L2.upd H6 q2 (.lst (rowV tq ++ [.ref p4]))) p8 (.lst [.ref q2])) _
    generalize L2.upd H6 q2 (.lst (rowV tq ++ [.ref p4])) = H7 at z7 Rn z47 h8 ⊢
    have z8 : Same H7 (L2.upd H7 p8 (.lst [.ref q2])) := Same.new h8
    have u8 : (L2.upd H7 p8 (.lst [.ref q2])) p8 = some (.lst [.ref q2]) := upd_same
    generalize L2.upd H7 p8 (.lst [.ref q2]) = H8 at z8 u8 ⊢
    refine ⟨p3, p8, _, _, rfl, rfl, z8 _ _ (z47 _ _ u3), u8, sz_small (by show 4 ≤ 100000; decide), fun st2 h9 => ?_⟩
    have z9 : Same H8 (L2.upd H8 st2 (.lst [.int z.left, .int z.begun, .int z.day, .ref q2])) := Same.new h9
    have u9 : (L2.upd H8 st2 (.lst [.int z.left, .int z.begun, .int z.day, .ref q2])) st2 = _ := upd_same
    refine ⟨szl 2, fun p hp => ?_⟩
    have z10 := Same.new (o := .tup [.bl true, .ref st2]) hp
    have zz := (z47.trans (z8.trans z9)).trans z10
    exact qg n r p p1 p4 st2 q2 _ (fun b o hb nb => zz _ _ (b4 b o hb nb)) ro.1 ro.2 hf (X4.same zz) ⟨z10 _ _ u9, ((Rn.same z8).same z9).same z10⟩ upd_same

theorem ok_law_look {f : Addr} {fd : FuncData} (F : Fun K "_law_look" "_law_look" s_law_look f fd) (T : Txt K mg) (D_law_walked : Df P w K mg base CX0 2 "_law_walked" ["_law_stood", "_law_day"] (sp_law_walked T)) (D_Loan_stand : Dm P w K mg base (L2.CX P w) 2 T.a_Loan "stand" ["self", "day"] (sp_Loan_stand T)) (D_Loan_owed : Dm P w K mg base (L2.CX P w) 3 T.a_Loan "owed" ["self", "day"] (sp_Loan_owed T)) (D_law_two : Df P w K mg base CX0 2 "_law_two" ["_law_found", "_law_one", "_law_other"] (sp_law_two T)) (D_law_whole : Df P w K mg base CX0 1 "_law_whole" ["_law_found"] (sp_law_whole T)) (D_law_owed : Df P w K mg base CX0 1 "_law_owed" ["_law_left", "_law_begun"] (sp_law_owed T)) :
    FnOk P w K mg base CX0 4 f fd ["_law_loan", "_law_stood", "_law_day"] (sp_law_look T) := by
  refine F.ok sc_law_look (fun vs H Q E h => ?_) (fun cdv A outer s H vs Q E hr h => ?_)
  · obtain ⟨x, dx, l, st, lq, us, tq, z, d, rfl, _⟩ := h
    rfl
  · obtain ⟨x, dx, l, st, lq, us, tq, z, d, rfl, X, S, e, rok, lok, dz, d2, q⟩ := h
    refine ⟨_, (pss_cons (ps_set (i := 3) sc_law_look.nd rfl (Or.inl rfl) (pc0 D_law_walked hr (pa_cons (pv 1) (pa_cons (pv 2) pa_nil))))
            (pss_cons (ps_set (i := 4) sc_law_look.nd rfl (Or.inl rfl) pe_non)
            (Evl.pss_cut (ps_if (pt_cmpR op_eq (pe_op op_mod (pv 2) pe_int) pe_int (nomark _)) (pss_one (ps_set (i := 4) sc_law_look.nd rfl (Or.inl rfl) (pe_meth (pv 0) T.cl_Loan D_Loan_stand.me D_Loan_stand.G (hr.mono (by decide)) D_Loan_stand.b .nil passL (pa_cons (pv 2) pa_nil)))) pss_nil)
            (pss_cons (ps_set (i := 5) sc_law_look.nd rfl (Or.inl rfl) (pe_meth (pv 0) T.cl_Loan D_Loan_owed.me D_Loan_owed.G (hr.mono (by decide)) D_Loan_owed.b .nil passL (pa_cons (pv 2) pa_nil)))
            (Evl.pss_cut (ps_if (pt_cmpR op_eq (pe_op op_mod (pv 2) pe_int) pe_int (nomark _)) (pss_one (ps_set (i := 4) sc_law_look.nd rfl (Or.inl rfl) (pe_meth (pv 0) T.cl_Loan D_Loan_stand.me D_Loan_stand.G (hr.mono (by decide)) D_Loan_stand.b .nil passL (pa_cons (pv 2) pa_nil)))) pss_nil)
            (pss_one (ps_ret (pe_and (pc0 D_law_two hr (pa_cons (pv 4) (pa_cons (pe_ix ix_list (pv 1) pe_int (fun _ _ => rfl)) (pa_cons (pv 3) pa_nil)))) (pe_and (pc0 D_law_whole hr (pa_cons (pv 5) pa_nil)) (pe_one (pe_cmpR op_eq (pv 5) (pc0 D_law_owed hr (pa_cons (pe_ix ix_list (pv 1) pe_int (fun _ _ => rfl)) (pa_cons (pv 3) pa_nil))) (nomark _)))))))))))), ?_⟩
    have rokq : Rok (vals tq) := by rw [← e]; exact rok
    refine ⟨_, rfl, _, rfl, st, lq, tq, z, d, rfl, S, rokq, lok, dz, d2, ?_⟩
    rw [← e]
    refine ⟨fun σ H1 => Same H H1 ∧ ∃ v4, (d % 2 = 0 → ∃ p, v4 = V.ref p ∧ H1 p = some (.tup [.int z.left, .int (begunAt (vals us) z d)])) ∧ σ = [some (.ref x), some (.ref st), some (.int d), some (.int (begunAt (vals us) z d)), some v4, none], ?_, ?_⟩
    · refine ⟨_, rfl, _, _, rfl, rfl, md, rfl, _, rfl, if_eq (fun c => ?_) (fun c => ?_)⟩
      · exact ⟨_, rfl, x, dx, _, rfl, X.ob, lf_no _ _ (by decide +kernel) (by decide +kernel) (by decide +kernel) (by decide +kernel), _, rfl, x, dx, l, us, z, d, rfl, X, rok, lok, fun n => absurd ⟨dz, d2⟩ n, fun _ _ p H1 s1 _ hp => ⟨s1, _, fun _ => ⟨p, rfl, hp⟩, rfl⟩⟩
      · exact ⟨Same.refl _, _, fun y => absurd y c, rfl⟩
    rintro σ H1 ⟨s1, v4, h4, rfl⟩
    have X1 := X.same s1
    refine ⟨_, rfl, x, dx, _, rfl, X1.ob, lf_no _ _ (by decide +kernel) (by decide +kernel) (by decide +kernel) (by decide +kernel), _, rfl, x, dx, l, us, z, d, rfl, X1, rok, lok, fun n => absurd ⟨dz, d2⟩ n, fun _ _ H2 s2 => ?_⟩
    have X2 := X1.same s2
    have s12 := s1.trans s2
    refine ⟨fun σ H3 => Same H H3 ∧ ∃ p, H3 p = some (.tup [.int z.left, .int (begunAt (vals us) z d)]) ∧ σ = [some (.ref x), some (.ref st), some (.int d), some (.int (begunAt (vals us) z d)), some (.ref p), some (.int (owedF z.left (begunAt (vals us) z d)))], ?_, ?_⟩
    · refine ⟨_, rfl, _, _, rfl, rfl, md, rfl, _, rfl, if_eq (fun c => ?_) (fun c => ?_)⟩
      · exact ⟨_, rfl, x, dx, _, rfl, X2.ob, lf_no _ _ (by decide +kernel) (by decide +kernel) (by decide +kernel) (by decide +kernel), _, rfl, x, dx, l, us, z, d, rfl, X2, rok, lok, fun n => absurd ⟨dz, d2⟩ n, fun _ _ p H3 s3 _ hp => ⟨s12.trans s3, p, hp, rfl⟩⟩
      · obtain ⟨p, rfl, hp⟩ := h4 (by omega)
        exact ⟨s12, p, s2 _ _ hp, rfl⟩
    rintro σ H3 ⟨s3, p, hp, rfl⟩
    have S3 := S.same s3
    refine ⟨_, rfl, _, rfl, st, _, _, _, rfl, rfl, SqL.of S3.lst, at0 rfl, _, rfl, p, _, _, rfl, hp, _, rfl, iteT ?_⟩
    refine ⟨_, rfl, _, rfl, _, rfl, iteT ?_⟩
    refine ⟨_, rfl, _, rfl, st, _, _, _, rfl, rfl, SqL.of S3.lst, at0 rfl, _, rfl, _, _, rfl, rfl, ?_⟩
    rw [eqInt rfl]
    exact q _ s3

theorem ok_law_deed {f : Addr} {fd : FuncData} (F : Fun K "_law_deed" "_law_deed" s_law_deed f fd) (T : Txt K mg) (D_law_owed : Df P w K mg base CX0 1 "_law_owed" ["_law_left", "_law_begun"] (sp_law_owed T)) (D_law_walked : Df P w K mg base CX0 2 "_law_walked" ["_law_stood", "_law_day"] (sp_law_walked T)) (D_law_pay : Df P w K mg base CX0 5 "_law_pay" ["_law_loan", "_law_stood", "_law_day", "_law_size"] (sp_law_pay T)) (D_law_change : Df P w K mg base CX0 3 "_law_change" ["_law_loan", "_law_stood", "_law_day", "_law_size"] (sp_law_change T)) (D_law_no_pay : Df P w K mg base CX0 5 "_law_no_pay" ["_law_loan", "_law_stood", "_law_day", "_law_size"] (sp_law_no_pay T)) (D_law_look : Df P w K mg base CX0 4 "_law_look" ["_law_loan", "_law_stood", "_law_day"] (sp_law_look T)) :
    FnOk P w K mg base CX0 6 f fd ["_law_loan", "_law_stood", "_law_day", "_law_number"] (sp_law_deed T) := by
  refine F.ok sc_law_deed (fun vs H Q E h => ?_) (fun cdv A outer s H vs Q E hr h => ?_)
  · obtain ⟨x, dx, l, st, lq, us, tq, z, d, n, rfl, _⟩ := h
    rfl
  · obtain ⟨x, dx, l, st, lq, us, tq, z, d, n, rfl, X, S, e, rok, hlen, lok, dz, d2, nl, q⟩ := h
    refine ⟨_, (pss_cons (ps_set (i := 4) sc_law_deed.nd rfl (Or.inl rfl) (pe_op op_fdiv (pv 3) pe_int))
            (pss_cons (ps_set (i := 5) sc_law_deed.nd rfl (Or.inl rfl) (pe_op op_mod (pe_op op_fdiv (pv 3) pe_int) pe_int))
            (Evl.pss_cut (ps_if (PW.pt (pw_and (pt_cmpR op_lt (pv 5) pe_int (nomark _)) (pw_and1 (pt_cmpR op_gt (pc0 D_law_owed hr (pa_cons (pe_ix ix_list (pv 1) pe_int (fun _ _ => rfl)) (pa_cons (pc0 D_law_walked hr (pa_cons (pv 1) (pa_cons (pv 2) pa_nil))) pa_nil))) pe_int (nomark _))))) (pss_one (ps_ret (pc0 D_law_pay hr (pa_cons (pv 0) (pa_cons (pv 1) (pa_cons (pv 2) (pa_cons (pv 4) pa_nil))))))) pss_nil)
            (Evl.pss_cut (ps_if (PW.pt (pw_and (pt_cmpR op_eq (pv 5) pe_int (nomark _)) (pw_and1 (pt_cmpR op_lt (pe_callB call_len_seq (by rfl) T.b_len PySem.boot_len (pa_cons (pe_ix ix_list (pv 1) pe_int (fun _ _ => rfl)) pa_nil)) pe_int (nomark _))))) (pss_one (ps_ret (pc0 D_law_change hr (pa_cons (pv 0) (pa_cons (pv 1) (pa_cons (pe_op op_add (pe_op op_add (pv 2) pe_int) (pe_op op_mod (pv 4) pe_int)) (pa_cons (pv 4) pa_nil))))))) pss_nil)
            (pss_cons (ps_if (pt_cmpR op_eq (pv 5) pe_int (nomark _)) (pss_one (ps_ret (pe_tup (pa_cons (pc0 D_law_no_pay hr (pa_cons (pv 0) (pa_cons (pv 1) (pa_cons (pv 2) (pa_cons (pv 4) pa_nil))))) (pa_cons (pv 1) pa_nil))))) pss_nil)
            (pss_one (ps_ret (pe_tup (pa_cons (pc0 D_law_look hr (pa_cons (pv 0) (pa_cons (pv 1) (pa_cons (pv 2) pa_nil)))) (pa_cons (pv 1) pa_nil)))))))))), ?_⟩
    have rokq : Rok (vals tq) := by rw [← e]; exact rok
    have lq2 : tq.length = us.length := by rw [← vals_len, ← e, vals_len]
    refine ⟨_, rfl, _, _, rfl, rfl, dv, _, rfl, _, _, rfl, rfl, dv, _, _, rfl, rfl, md, ?_⟩
    refine ⟨fun σ H1 => H1 = H ∧ σ = [some (.ref x), some (.ref st), some (.int d), some (.int n), some (.int (n / 60)), some (.int (n / 2 % 5))], ?_, ?_⟩
    · refine ⟨_, rfl, _, _, rfl, rfl, _, rfl, ifd (fun k1 => ?_) (fun k1 => ?_)⟩
      · refine ⟨_, rfl, st, _, _, _, rfl, rfl, SqL.of S.lst, at0 rfl, _, rfl, _, rfl, st, lq, tq, z, d, rfl, S, rokq, lok, dz, d2, ?_⟩
        rw [← e]
        refine ⟨_, _, rfl, _, _, rfl, rfl, _, rfl, ifd (fun o1 => ?_) (fun o1 => ?_)⟩
        · refine ⟨_, rfl, _, rfl, _, rfl, _, rfl, x, dx, l, st, lq, us, tq, z, d, _, rfl, X, S, e, rok, lok, dz, d2, by have : owedF z.left (begunAt (vals us) z d) > 0 := o1; omega, fun c p st2 H' c1 c2 b A S2 hp => ?_⟩
          exact q p st2 lq us tq _ H' (fun b' o hb n1 _ => b b' o hb n1) A S2 e rok hlen (payLn_ok lok rok.g dz d2 c1 c2) (.inl rfl) rfl hp
        · exact ⟨rfl, rfl⟩
      · exact ⟨rfl, rfl⟩
    rintro σ H1 ⟨rfl, rfl⟩
    refine ⟨fun σ H2 => H2 = H1 ∧ σ = [some (.ref x), some (.ref st), some (.int d), some (.int n), some (.int (n / 60)), some (.int (n / 2 % 5))], ?_, ?_⟩
    · refine ⟨_, rfl, rfl, _, rfl, if_eq (fun k1 => ?_) (fun k1 => ?_)⟩
      · refine ⟨_, rfl, st, _, _, _, rfl, rfl, SqL.of S.lst, at_of (j := 3) rfl rfl, lq, _, rfl, .inl S.row.seq, _, _, rfl, rfl, _, rfl, ifd (fun c => ?_) (fun c => ?_)⟩
        · have c' : ((rowV tq).length : Int) < 60 := c
          rw [rowV_len] at c'
          refine ⟨_, rfl, _, rfl, _, rfl, _, _, rfl, rfl, _, rfl, _, _, rfl, rfl, md, _, _, rfl, rfl, _, rfl, x, dx, l, st, lq, us, tq, z, _, _, rfl, X, S, e, rok, by omega, nl, fun _ p H' s hp => ?_, fun nb r p p1 p2 st2 lq2 H' b r0 r1 hl A S2 hp => ?_⟩
          · exact q p st lq us tq z H' (fun b' o hb _ _ => s b' o hb) (X.same s) (S.same s) e rok hlen lok (.inl rfl) rfl hp
          · have hd : (vals (us ++ [(p1, d + 1 + n / 60 % 4, r)])).take 1 = (vals us).take 1 := by
              rw [vals_append, List.take_append_of_le_length (by obtain ⟨_, _, eg⟩ := rok.g.ne; rw [eg]; simp)]
            refine q p st2 lq2 _ _ z H' (fun b' o hb _ n2 => b b' o hb n2) A S2 (by rw [vals_append, vals_append, e]; rfl) ?_ (by rw [List.length_append]; show us.length + 1 ≤ 60; omega) lok (.inr hl) hd hp
            rw [vals_append]
            exact rok.snoc (by omega) (by omega) r0 r1 (by rw [vals_len]; omega)
        · exact ⟨rfl, rfl⟩
      · exact ⟨rfl, rfl⟩
    rintro σ H2 ⟨rfl, rfl⟩
    refine ⟨_, rfl, rfl, _, rfl, if_eq (fun k1 => ?_) (fun k1 => ?_)⟩
    · refine ⟨_, rfl, _, rfl, _, rfl, _, rfl, x, dx, l, st, lq, us, tq, z, d, _, rfl, X, S, e, rok, lok, dz, d2, fun H3 s3 => ⟨_, rfl, szl 2, fun p hp => ?_⟩⟩
      have s4 := s3.trans (Same.new (o := .tup [.bl true, .ref st]) hp)
      exact q p st lq us tq z _ (fun b' o hb _ _ => s4 b' o hb) (X.same s4) (S.same s4) e rok hlen lok (.inl rfl) rfl upd_same
    · refine ⟨_, rfl, _, rfl, _, rfl, x, dx, l, st, lq, us, tq, z, d, rfl, X, S, e, rok, lok, dz, d2, fun H3 s3 => ⟨_, rfl, szl 2, fun p hp => ?_⟩⟩
      have s4 := s3.trans (Same.new (o := .tup [.bl true, .ref st]) hp)
      exact q p st lq us tq z _ (fun b' o hb _ _ => s4 b' o hb) (X.same s4) (S.same s4) e rok hlen lok (.inl rfl) rfl upd_same

theorem ok_law_as_told {f : Addr} {fd : FuncData} (F : Fun K "_law_as_told" "_law_as_told" s_law_as_told f fd) (T : Txt K mg) (D_law_two : Df P w K mg base CX0 2 "_law_two" ["_law_found", "_law_one", "_law_other"] (sp_law_two T)) (D_law_whole : Df P w K mg base CX0 1 "_law_whole" ["_law_found"] (sp_law_whole T)) :
    FnOk P w K mg base CX0 3 f fd ["_law_loan", "_law_stood"] (sp_law_as_told T) := by
  refine F.ok sc_law_as_told (fun vs H Q E h => ?_) (fun cdv A outer s H vs Q E hr h => ?_)
  · obtain ⟨x, dx, l, st, lq, us, tq, z, rfl, _⟩ := h
    rfl
  · obtain ⟨x, dx, l, st, lq, us, tq, z, rfl, X, S, e, q⟩ := h
    refine ⟨_, (pss_cons (ps_if (pt_not (pt_val (pc0 D_law_two hr (pa_cons (pe_tup (pa_cons (pe_fld (pv 0) rfl) (pa_cons (pe_fld (pv 0) rfl) pa_nil))) (pa_cons (pe_ix ix_list (pv 1) pe_int (fun _ _ => rfl)) (pa_cons (pe_ix ix_list (pv 1) pe_int (fun _ _ => rfl)) pa_nil)))))) (pss_one (ps_ret pe_bl)) pss_nil)
            (pss_one (ps_ret (pe_and (pc0 D_law_whole hr (pa_cons (pe_fld (pv 0) rfl) pa_nil)) (pe_and (pe_cmpR op_eq (pe_fld (pv 0) rfl) (pe_ix ix_list (pv 1) pe_int (fun _ _ => rfl)) (nomark _)) (pe_one (pe_cmpR (op_eqD hr.units) (pe_fld (pv 0) rfl) (pe_ix ix_list (pv 1) pe_int (fun _ _ => rfl)) (nomark _)))))))), ?_⟩
    refine ⟨_, rfl, x, _, dx, _, _, rfl, X.ob, T.cl_Loan, T.n_Loan_left, lf_left _ _, _, rfl, x, _, dx, _, _, rfl, X.ob, T.cl_Loan, T.n_Loan_begun, lf_begun _ _, szl 2, fun p hp => ?_⟩
    have s1 : Same H (L2.upd H p (.tup [.int z.left, .int z.begun])) := Same.new hp
    have S1 := S.same s1
    have X1 := X.same s1
    refine ⟨_, rfl, st, _, _, _, rfl, rfl, SqL.of S1.lst, at0 rfl, _, rfl, st, _, _, _, rfl, rfl, SqL.of S1.lst, at_of (j := 1) rfl rfl, p, _, _, rfl, upd_same, true, rfl, ifnT ?_⟩
    refine ⟨_, rfl, x, _, dx, _, _, rfl, X1.ob, T.cl_Loan, T.n_Loan_day, lf_day _ _, _, rfl, _, rfl, iteT ?_⟩
    refine ⟨_, rfl, x, _, dx, _, _, rfl, X1.ob, T.cl_Loan, T.n_Loan_day, lf_day _ _, _, rfl, st, _, _, _, rfl, rfl, SqL.of S1.lst, at_of (j := 2) rfl rfl, rfl, _, rfl, ?_⟩
    rw [eqInt rfl]
    refine iteT ⟨_, rfl, x, _, dx, _, _, rfl, X1.ob, T.cl_Loan, T.n_Loan_rates, lf_rates _ _, _, rfl, st, _, _, _, rfl, rfl, SqL.of S1.lst, at_of (j := 3) rfl rfl, row_eq X1.row S1.row e (q _ s1)⟩

theorem ok_law {f : Addr} {fd : FuncData} (F : Fun K "law" "law" s_law f fd) (T : Txt K mg) (D_law_rate_by : Df P w K mg base CX0 2 "_law_rate_by" ["_law_cell"] (sp_law_rate_by T)) (D_law_cell_at : Df P w K mg base CX0 1 "_law_cell_at" ["_law_script", "_law_k"] (sp_law_cell_at T)) (D_law_amount_by : Df P w K mg base CX0 2 "_law_amount_by" ["_law_cell"] (sp_law_amount_by T)) (D_Loan_init : Di P w K mg base (L2.CX P w) 3 T.a_Loan "Loan" ["self", "amount", "rates"] (sp_Loan_init T)) (D_law_mixed : Df P w K mg base CX0 1 "_law_mixed" ["_law_cell", "_law_many"] (sp_law_mixed T)) (D_law_deed : Df P w K mg base CX0 6 "_law_deed" ["_law_loan", "_law_stood", "_law_day", "_law_number"] (sp_law_deed T)) (D_law_as_told : Df P w K mg base CX0 3 "_law_as_told" ["_law_loan", "_law_stood"] (sp_law_as_told T)) :
    FnOk P w K mg base CX0 7 f fd ["_law_script"] (sp_law K) := by
  refine F.ok sc_law (fun vs H Q E h => ?_) (fun cdv A outer s H vs Q E hr h => ?_)
  · obtain ⟨a, ns, rfl, _⟩ := h
    rfl
  · obtain ⟨a, ns, rfl, hS, hlen, k⟩ := h
    refine ⟨_, (pss_cons (ps_set (i := 1) sc_law.nd rfl (Or.inl rfl) (pe_lst (pa_cons (pe_tup (pa_cons pe_int (pa_cons (pc0 D_law_rate_by hr (pa_cons (pc0 D_law_cell_at hr (pa_cons (pv 0) (pa_cons pe_int pa_nil))) pa_nil)) pa_nil))) pa_nil)))
            (pss_cons (ps_set (i := 2) sc_law.nd rfl (Or.inl rfl) (pe_lst (pa_cons (pc0 D_law_amount_by hr (pa_cons (pc0 D_law_cell_at hr (pa_cons (pv 0) (pa_cons pe_int pa_nil))) pa_nil)) (pa_cons (pc0 D_law_amount_by hr (pa_cons (pc0 D_law_cell_at hr (pa_cons (pv 0) (pa_cons pe_int pa_nil))) pa_nil)) pa_nil))))
            (pss_cons (ps_set (i := 3) sc_law.nd rfl (Or.inl rfl) (pe_lst (pa_cons (pe_make D_Loan_init.mC D_Loan_init.G (hr.mono (by decide)) rfl T.g_Loan D_Loan_init.b .nil passL (pa_cons (pe_ix ix_list (pv 2) pe_int (fun _ _ => rfl)) (pa_cons (pv 1) pa_nil))) (pa_cons (pe_make D_Loan_init.mC D_Loan_init.G (hr.mono (by decide)) rfl T.g_Loan D_Loan_init.b .nil passL (pa_cons (pe_ix ix_list (pv 2) pe_int (fun _ _ => rfl)) (pa_cons (pv 1) pa_nil))) pa_nil))))
            (pss_cons (ps_set (i := 4) sc_law.nd rfl (Or.inl rfl) (pe_lst (pa_cons (pe_lst (pa_cons (pe_ix ix_list (pv 2) pe_int (fun _ _ => rfl)) (pa_cons pe_int (pa_cons pe_int (pa_cons (pe_callTy call_list_of (by rfl) T.b_list (by decide +kernel) (pa_cons (pv 1) pa_nil)) pa_nil))))) (pa_cons (pe_lst (pa_cons (pe_ix ix_list (pv 2) pe_int (fun _ _ => rfl)) (pa_cons pe_int (pa_cons pe_int (pa_cons (pe_callTy call_list_of (by rfl) T.b_list (by decide +kernel) (pa_cons (pv 1) pa_nil)) pa_nil))))) pa_nil))))
            (pss_cons (ps_set (i := 5) sc_law.nd rfl (Or.inl rfl) (pe_op op_mulX (pc0 D_law_mixed hr (pa_cons (pc0 D_law_cell_at hr (pa_cons (pv 0) (pa_cons pe_int pa_nil))) (pa_cons pe_int pa_nil))) (pe_callTy call_int1 (by rfl) T.b_int (by decide +kernel) (pa_cons (pe_cmpR op_eq (pe_op op_mod (pc0 D_law_cell_at hr (pa_cons (pv 0) (pa_cons pe_int pa_nil))) pe_int) pe_int (nomark _)) pa_nil))))
            (pss_cons (ps_for PassesOwn.never rfl (pi_list (pe_slice sl_list (pv 0) (po_some pe_int) po_none)) (pg_name (i := 6) sc_law.nd rfl (Or.inl rfl)) (pss_cons (ps_set (i := 7) sc_law.nd rfl (Or.inl rfl) (pe_op op_mod (pv 6) pe_int))
            (pss_cons (ps_set (i := 8) sc_law.nd rfl (Or.inl rfl) (pe_callB (call_min2 rfl) (by rfl) T.b_min (by decide +kernel) (pa_cons pe_int (pa_cons (pe_op op_add (pe_callB (call_max2 rfl) (by rfl) T.b_max (by decide +kernel) (pa_cons (pv 5) (pa_cons (pe_ix ix_list (pe_ix ix_list (pv 4) (pv 7) (fun _ _ => rfl)) pe_int (fun _ _ => rfl)) pa_nil))) (pe_op op_mod (pe_op op_fdiv (pv 6) pe_int) pe_int)) pa_nil))))
            (pss_cons (ps_asg (pc0 D_law_deed hr (pa_cons (pe_ix ix_list (pv 3) (pv 7) (fun _ _ => rfl)) (pa_cons (pe_ix ix_list (pv 4) (pv 7) (fun _ _ => rfl)) (pa_cons (pv 8) (pa_cons (pv 6) pa_nil))))) (pg_tup rfl (pgs_cons (pg_name (i := 9) sc_law.nd rfl (Or.inl rfl)) (pgs_cons (pg_sub (pv 4) (pv 7) set_list) pgs_nil))))
            (pss_cons (ps_if (PW.pt (pw_or (pt_not (pt_val (pv 9))) (pw_or (pt_not (pt_val (pc0 D_law_as_told hr (pa_cons (pe_ix ix_list (pv 3) pe_int (fun _ _ => rfl)) (pa_cons (pe_ix ix_list (pv 4) pe_int (fun _ _ => rfl)) pa_nil))))) (pw_or1 (pt_not (pt_val (pc0 D_law_as_told hr (pa_cons (pe_ix ix_list (pv 3) pe_int (fun _ _ => rfl)) (pa_cons (pe_ix ix_list (pv 4) pe_int (fun _ _ => rfl)) pa_nil))))))))) (pss_one (ps_ret pe_bl)) pss_nil)
            (pss_one (ps_if (PW.pt (pw_and (pt_cmpR op_eq (pe_ix ix_list (pe_ix ix_list (pv 4) (pv 7) (fun _ _ => rfl)) pe_int (fun _ _ => rfl)) pe_int (nomark _)) (pw_and1 (pt_cmpR op_eq (pe_ix ix_list (pe_ix ix_list (pv 4) (pv 7) (fun _ _ => rfl)) pe_int (fun _ _ => rfl)) pe_int (nomark _))))) (pss_cons (ps_set (i := 10) sc_law.nd rfl (Or.inl rfl) (pc0 D_law_amount_by hr (pa_cons (pe_op op_fdiv (pv 6) pe_int) pa_nil)))
            (pss_cons (ps_asg (pe_make D_Loan_init.mC D_Loan_init.G (hr.mono (by decide)) rfl T.g_Loan D_Loan_init.b .nil passL (pa_cons (pv 10) (pa_cons (pv 1) pa_nil))) (pg_sub (pv 3) (pv 7) set_list))
            (pss_one (ps_asg (pe_lst (pa_cons (pv 10) (pa_cons pe_int (pa_cons pe_int (pa_cons (pe_callTy call_list_of (by rfl) T.b_list (by decide +kernel) (pa_cons (pv 1) pa_nil)) pa_nil))))) (pg_sub (pv 4) (pv 7) set_list))))) pss_nil)))))))
            (pss_one (ps_ret (pe_cmpR (op_eqD hr.units) (pv 1) (pe_slice sl_list (pe_ix ix_list (pe_ix ix_list (pv 4) pe_int (fun _ _ => rfl)) pe_int (fun _ _ => rfl)) po_none (po_some pe_int)) (nomark _)))))))))), ?_⟩
    refine ⟨_, rfl, a, ns, _, rfl, hS, by decide, _, rfl, fun H1 s1 => ⟨szl 2, fun p0 h0 => ?_⟩⟩
    have ro := rateBy_ok (cellAt ns 0)
    generalize rateBy (cellAt ns 0) = r0 at ro ⊢
    have z1 : Same H1 (L2.upd H1 p0 (tupV (0, r0))) := Same.new h0
    have t1 : (L2.upd H1 p0 (tupV (0, r0))) p0 = some (tupV (0, r0)) := upd_same
    refine ⟨szl 1, fun lr hlr => ?_⟩
    change (L2.upd H1 p0 (tupV (0, r0))) lr = none at hlr
    show gName 1 _ _ (L2.upd (L2.upd H1 p0 (tupV (0, r0))) lr (.lst [.ref p0])) _
    generalize L2.upd H1 p0 (tupV (0, r0)) = J at z1 t1 hlr ⊢
    have z2 : Same J (L2.upd J lr (.lst [.ref p0])) := Same.new hlr
    have R2 : Row (L2.upd J lr (.lst [.ref p0])) lr [(p0, 0, r0)] := ⟨upd_same, fun t ht => by
      obtain rfl : t = (p0, 0, r0) := by simpa using ht
      exact z2 _ _ t1⟩
    generalize L2.upd J lr (.lst [.ref p0]) = H2 at z2 R2 ⊢
    have hS2 := ((s1.trans z1).trans z2).seq hS
    have g0 : Good (vals [(p0, 0, r0)]) := ⟨⟨r0, [], rfl⟩, ⟨by show (-1 : Int) < 0; decide, trivial⟩, fun p hp => by
      obtain rfl : p = (0, r0) := by simpa [vals] using hp
      exact ro⟩
    have rok0 : Rok (vals [(p0, 0, r0)]) := ⟨g0, by show (0 : Int) ≤ 100000; decide, by show 1 ≤ 1000; decide⟩
    have eok : chk (-1) (vals [(p0, 0, r0)]) = .ok := chk_good rok0.g rok0.last
    generalize ets : ([(p0, 0, r0)] : List Trp) = ts at R2 g0 rok0 eok
    have len0 : ts.length ≤ 60 := by rw [← ets]; show 1 ≤ 60; decide
    have hd0 : (vals ts).take 1 = [(0, r0)] := by rw [← ets]; rfl
    have va0 : vals ts = [(0, r0)] := by rw [← ets]; rfl
    clear ets t1 h0 hlr
    refine ⟨_, rfl, a, ns, _, rfl, hS2, by decide, _, rfl, fun H3 s3 => ⟨_, rfl, a, ns, _, rfl, s3.seq hS2, by decide, _, rfl, fun H4 s4 => ?_⟩⟩
    have am1 := amountBy_ok (cellAt ns 1)
    have am2 := amountBy_ok (cellAt ns 2)
    generalize amountBy (cellAt ns 1) = u at am1 ⊢
    generalize amountBy (cellAt ns 2) = v at am2 ⊢
    refine ⟨szl 2, fun la hla => ?_⟩
    have s5 : Same H4 (L2.upd H4 la (.lst [.int u, .int v])) := Same.new hla
    have t5 : (L2.upd H4 la (.lst [.int u, .int v])) la = some (.lst [.int u, .int v]) := upd_same
    show gName 2 (.ref la) _ (L2.upd H4 la (.lst [.int u, .int v])) _
    generalize L2.upd H4 la (.lst [.int u, .int v]) = B at s5 t5 ⊢
    have s25 := (s3.trans s4).trans s5
    have hSB := s25.seq hS2
    have RB := R2.same s25
    clear hS2 R2 hla s3 s4 s5 s25 hS z1 z2 s1
    refine ⟨_, rfl, la, _, _, _, rfl, rfl, SqL.of t5, at0 rfl, _, rfl, fun x dx nx ndx nex => ?_⟩
    have s7 : Same B (L2.upd (L2.upd B dx (.own x)) x (.ins T.a_Loan dx [])) := (Same.new ndx).upd (by rw [L2.upd_ne (Ne.symm nex)]; exact nx)
    have hob : (L2.upd (L2.upd B dx (.own x)) x (.ins T.a_Loan dx [])) x = some (.ins T.a_Loan dx []) := upd_same
    generalize L2.upd (L2.upd B dx (.own x)) x (.ins T.a_Loan dx []) = H7 at s7 hob ⊢
    refine ⟨x, dx, lr, u, ts, rfl, hob, RB.same s7, fun n => absurd am1 n, fun _ _ e => absurd (e.symm.trans eok) (by decide), fun _ _ e => absurd (e.symm.trans eok) (by decide), fun _ _ _ l H8 b8 hl X8 => ?_⟩
    have s8 : Same B H8 := fun b o e => b8 b o (s7 b o e) (ne_of_none e nx)
    have nlB : B l = none := s7.free hl
    clear b8 s7 hob hl
    refine ⟨rfl, _, rfl, la, _, _, _, rfl, rfl, SqL.of (s8 _ _ t5), at_of (j := 1) rfl rfl, _, rfl, fun y dy ny ndy ney => ?_⟩
    have s9 : Same H8 (L2.upd (L2.upd H8 dy (.own y)) y (.ins T.a_Loan dy [])) := (Same.new ndy).upd (by rw [L2.upd_ne (Ne.symm ney)]; exact ny)
    have hob : (L2.upd (L2.upd H8 dy (.own y)) y (.ins T.a_Loan dy [])) y = some (.ins T.a_Loan dy []) := upd_same
    generalize L2.upd (L2.upd H8 dy (.own y)) y (.ins T.a_Loan dy []) = H9 at s9 hob ⊢
    refine ⟨y, dy, lr, v, ts, rfl, hob, RB.same (s8.trans s9), fun n => absurd am2 n, fun _ _ e => absurd (e.symm.trans eok) (by decide), fun _ _ e => absurd (e.symm.trans eok) (by decide), fun _ _ _ l2 H10 b10 hl2 Y10 => ?_⟩
    have s8t : Same H8 H10 := fun b o e => b10 b o (s9 b o e) (ne_of_none e ny)
    have nl28 : H8 l2 = none := s9.free hl2
    have nll : l ≠ l2 := ne_of_none X8.row.lst nl28
    have nxy : x ≠ y := ne_of_none X8.ob ny
    have nl2B : B l2 = none := s8.free nl28
    have nyB : B y = none := s8.free ny
    have X10 := X8.same s8t
    have s10 := s8.trans s8t
    clear b10 s9 hob hl2 X8 s8t
    refine ⟨rfl, szl 2, fun ll hll => ?_⟩
    have z11 : Same H10 (L2.upd H10 ll (.lst [.ref x, .ref y])) := Same.new hll
    have u11 : (L2.upd H10 ll (.lst [.ref x, .ref y])) ll = some (.lst [.ref x, .ref y]) := upd_same
    have nllB : B ll = none := s10.free hll
    show gName 3 (.ref ll) _ (L2.upd H10 ll (.lst [.ref x, .ref y])) _
    generalize L2.upd H10 ll (.lst [.ref x, .ref y]) = H11 at z11 u11 ⊢
    have s11 := s10.trans z11
    have X11 := X10.same z11
    have Y11 := Y10.same z11
    refine ⟨_, rfl, la, _, _, _, rfl, rfl, SqL.of (s11 _ _ t5), at0 rfl, _, rfl, lr, _, rfl, .inl (RB.same s11).seq, fun lq hq => ⟨szl 4, fun st hst => ?_⟩⟩
    have z12 : Same H11 (L2.upd H11 lq (.lst (rowV ts))) := Same.new hq
    have R12 : Row (L2.upd H11 lq (.lst (rowV ts))) lq ts := ⟨upd_same, ((RB.same s11).same z12).prs⟩
    change (L2.upd H11 lq (.lst (rowV ts))) st = none at hst
    show tCons _ _ _ (L2.upd (L2.upd H11 lq (.lst (rowV ts))) st (.lst [.int u, .int 0, .int 0, .ref lq])) _
    generalize L2.upd H11 lq (.lst (rowV ts)) = H12 at z12 R12 hst ⊢
    have z13 : Same H12 (L2.upd H12 st (.lst [.int u, .int 0, .int 0, .ref lq])) := Same.new hst
    have u13 : (L2.upd H12 st (.lst [.int u, .int 0, .int 0, .ref lq])) st = some (.lst [.int u, .int 0, .int 0, .ref lq]) := upd_same
    generalize L2.upd H12 st (.lst [.int u, .int 0, .int 0, .ref lq]) = H13 at z13 u13 ⊢
    have z1113 := z12.trans z13
    have s13 := s11.trans z1113
    have R13 := R12.same z13
    refine ⟨_, rfl, la, _, _, _, rfl, rfl, SqL.of (s13 _ _ t5), at_of (j := 1) rfl rfl, _, rfl, lr, _, rfl, .inl (RB.same s13).seq, fun lq2 hq2 => ⟨szl 4, fun st2 hst2 => ?_⟩⟩
    have z14 : Same H13 (L2.upd H13 lq2 (.lst (rowV ts))) := Same.new hq2
    have R14 : Row (L2.upd H13 lq2 (.lst (rowV ts))) lq2 ts := ⟨upd_same, ((RB.same s13).same z14).prs⟩
    change (L2.upd H13 lq2 (.lst (rowV ts))) st2 = none at hst2
    show tNil _ (L2.upd (L2.upd H13 lq2 (.lst (rowV ts))) st2 (.lst [.int v, .int 0, .int 0, .ref lq2])) _
    generalize L2.upd H13 lq2 (.lst (rowV ts)) = H14 at z14 R14 hst2 ⊢
    have z15 : Same H14 (L2.upd H14 st2 (.lst [.int v, .int 0, .int 0, .ref lq2])) := Same.new hst2
    have u15 : (L2.upd H14 st2 (.lst [.int v, .int 0, .int 0, .ref lq2])) st2 = some (.lst [.int v, .int 0, .int 0, .ref lq2]) := upd_same
    generalize L2.upd H14 st2 (.lst [.int v, .int 0, .int 0, .ref lq2]) = H15 at z15 u15 ⊢
    have z1315 := z14.trans z15
    have s15 := s13.trans z1315
    refine ⟨szl 2, fun ls hls => ?_⟩
    have z16 : Same H15 (L2.upd H15 ls (.lst [.ref st, .ref st2])) := Same.new hls
    have u16 : (L2.upd H15 ls (.lst [.ref st, .ref st2])) ls = some (.lst [.ref st, .ref st2]) := upd_same
    have nlsB : B ls = none := s15.free hls
    show gName 4 (.ref ls) _ (L2.upd H15 ls (.lst [.ref st, .ref st2])) _
    generalize L2.upd H15 ls (.lst [.ref st, .ref st2]) = H16 at z16 u16 ⊢
    have s16 := s15.trans z16
    have z1116 := (z1113.trans z1315).trans z16
    have ok1 : LnOk ⟨u, 0, 0⟩ := ⟨by show 0 ≤ u; omega, am1.2, by show (0 : Int) ≤ 0; decide, by show (0 : Int) ≤ 0; decide, by show (0 : Int) ≤ 100000; decide⟩
    have ok2 : LnOk ⟨v, 0, 0⟩ := ⟨by show 0 ≤ v; omega, am2.2, by show (0 : Int) ≤ 0; decide, by show (0 : Int) ≤ 0; decide, by show (0 : Int) ≤ 100000; decide⟩
    have W0 : Two T.a_Loan r0 B H16 ll ls 0 ⟨x, dx, l, st, lq, ts, ts, ⟨u, 0, 0⟩⟩ ⟨y, dy, l2, st2, lq2, ts, ts, ⟨v, 0, 0⟩⟩ :=
      ⟨⟨X11.same z1116, ⟨(z1315.trans z16) _ _ u13, R13.same (z1315.trans z16)⟩, rfl, rok0, len0, ok1, Ne.symm (ne_of_none X11.row.lst hq), nx, nlB, hd0⟩,
       ⟨Y11.same z1116, ⟨z16 _ _ u15, (R14.same z15).same z16⟩, rfl, rok0, len0, ok2, Ne.symm (ne_of_none (Y11.same z1113).row.lst hq2), nyB, nl2B, hd0⟩,
       z1116 _ _ u11, u16, nxy, nll, Ne.symm (ne_of_none Y11.row.lst hq), Ne.symm (ne_of_none (X11.same z1113).row.lst hq2)⟩
    clear X11 Y11 R13 R14 u13 u15 u11 u16 z1113 z1315 z1116 z16 z15 z14 z13 z12 R12 hq hq2 hst hst2 hls hll z11 X10 Y10 s11 s13 s15 s10 s8
    have hS16 := s16.seq hSB
    have f0 := mixed_ge (c := cellAt ns 3) (m := 90001) (by decide)
    have f1 := mixed_lt (c := cellAt ns 3) (m := 90001) (by decide)
    refine ⟨_, rfl, a, ns, _, rfl, hS16, by decide, _, _, rfl, by decide, _, rfl, a, ns, _, rfl, hS16, by decide, _, _, rfl, rfl, md, rfl, .inr ⟨_, rfl, _, _, rfl, rfl, IntMulOk.of_left (PySem.intBits_le_64 (by omega) (by omega)), ?_⟩⟩
    obtain ⟨far, ef⟩ : ∃ far, mixed (cellAt ns 3) 90001 * (if decide (V.int (cellAt ns 3 % 3) = V.int 1) = true then 1 else 0) = far := ⟨_, rfl⟩
    show gName 5 (V.int (mixed (cellAt ns 3) 90001 * (if decide (V.int (cellAt ns 3 % 3) = V.int 1) = true then 1 else 0))) _ _ _
    rw [ef]
    clear ef f0 f1
    refine ⟨_, rfl, _, rfl, a, _, rfl, hS16, fun p hp => ?_⟩
    obtain ⟨ms, ems⟩ : ∃ ms : List Int, cutV (ns.map V.int) (some 4) none = ms.map V.int := ⟨_, by unfold cutV; rw [← List.map_drop, ← List.map_take]⟩
    rw [ems]
    have z17 : Same H16 (L2.upd H16 p (.lst (ms.map V.int))) := Same.new hp
    have u17 : (L2.upd H16 p (.lst (ms.map V.int))) p = some (.lst (ms.map V.int)) := upd_same
    have pne : ∀ {H' : Hp} {q b : Addr} {w : List V}, H' p = some (.lst (ms.map V.int)) → H' q = some (.lst (.ref b :: w)) → p ≠ q := by
      intro H' q b w h1 h2 y
      rw [y, h2] at h1
      cases ms with
      | nil => cases h1
      | cons m1 m2 => cases h1
    refine ⟨p, rfl, ⟨_, SqL.of u17⟩, for_list (K := K) (a := p) (xs := ms.map V.int)
      (fun i σ H' => ∃ (r q : Lr) (v6 v7 v8 v9 v10 : Option V), Same B H' ∧ Two T.a_Loan r0 B H' ll ls 0 r q ∧ H' p = some (.lst (ms.map V.int)) ∧ σ = [some (.ref a), some (.ref lr), some (.ref la), some (.ref ll), some (.ref ls), some (.int far), v6, v7, v8, v9, v10])
      ⟨_, _, _, _, _, _, _, s16.trans z17, W0.same z17, u17, rfl⟩ (fun i σ H' _ ⟨_, _, _, _, _, _, _, _, _, h, _⟩ => SqL.of h) ?_ ?_⟩
    · rintro i v' σ H' hi ⟨r', q', v6, v7, v8, v9, v10, sB, W', up, rfl⟩
      obtain ⟨n, hn, rfl⟩ := map_get hi
      obtain ⟨w, ew⟩ : ∃ w : Nat, n % 2 = (w : Int) := ⟨(n % 2).toNat, by omega⟩
      have hw : w < 2 := by omega
      obtain ⟨r, q, W⟩ := W'.at hw
      clear W' r' q'
      refine ⟨_, rfl, _, _, rfl, rfl, md, ?_⟩
      have hz0 := W.a.lok.d0
      have hz1 := W.a.lok.d1
      refine ⟨_, rfl, _, rfl, _, rfl, ls, _, _, _, rfl, rfl, SqL.of W.hs, at_of ew (prV_at hw _ _), r.st, _, _, _, rfl, rfl, SqL.of W.a.S.lst, at_of (j := 2) rfl rfl, _, _, rfl, _, rfl, _, _, rfl, rfl, dv, _, _, rfl, rfl, md, _, _, rfl, rfl, _, _, rfl, ?_⟩
      obtain ⟨d, ed, d0, d1⟩ : ∃ d, (if (if r.z.day > far then r.z.day else far) + n / 10 % 6 < 100000 then (if r.z.day > far then r.z.day else far) + n / 10 % 6 else 100000) = d ∧ r.z.day ≤ d ∧ d ≤ 100000 := by
        refine ⟨_, rfl, ?_, ?_⟩
        · split <;> split <;> omega
        · split <;> omega
      show gName 8 (V.int (if (if r.z.day > far then r.z.day else far) + n / 10 % 6 < 100000 then (if r.z.day > far then r.z.day else far) + n / 10 % 6 else 100000)) _ _ _
      rw [ed]
      refine ⟨_, rfl, _, rfl, ll, _, _, _, rfl, rfl, SqL.of W.hl, at_of ew (prV_at hw _ _), _, rfl, _, rfl, ls, _, _, _, rfl, rfl, SqL.of W.hs, at_of ew (prV_at hw _ _), _, rfl, _, rfl, r.x, r.dx, r.l, r.st, r.lq, r.us, r.tq, r.z, d, n, rfl, W.a.X, W.a.S, W.a.e, W.a.rok, W.a.len, W.a.lok, d0, d1, W.a.n, fun pp st2 lq2 us2 tq2 z2 H2 fr A2 S2 e2 rok2 len2 lok2 hlq hd2 hpp => ?_⟩
      have W2 := W.deed hw fr A2 S2 e2 rok2 len2 lok2 hlq hd2
      have sB2 : Same B H2 := fun b o hb => fr b o (sB b o hb) (ne_of_none hb W.a.bx) (ne_of_none hb W.a.bl)
      have up2 : H2 p = some (.lst (ms.map V.int)) := fr _ _ up (by intro y; rw [y, W.a.X.ob] at up; cases up) (by
        have h1 := W.a.X.row.lst
        obtain ⟨t, u, et⟩ : ∃ t u, r.us = t :: u := by
          cases e : r.us with
          | nil => exact absurd e W.a.ne
          | cons t u => exact ⟨t, u, rfl⟩
        rw [et] at h1
        exact pne up h1)
      obtain ⟨hs2, W3⟩ := W2
      refine ⟨pp, _, rfl, SqT.of hpp, rfl, _, _, rfl, _, _, rfl, _, rfl, _, rfl, ls, _, _, w, rfl, rfl, hs2, by rw [ew]; exact prV_ix hw _ _, ?_⟩
      rw [prV_set hw]
      have sB3 : Same B (L2.upd H2 ls (.lst (prV w st2 q.st))) := fun b o hb => by
        rw [L2.upd_ne (ne_of_none hb nlsB)]
        exact sB2 _ _ hb
      have up3 : (L2.upd H2 ls (.lst (prV w st2 q.st))) p = some (.lst (ms.map V.int)) := by
        obtain ⟨c, u, ec, _⟩ := prV_head w r.st q.st
        rw [ec] at hs2
        rw [L2.upd_ne (pne up2 hs2)]
        exact up2
      refine ⟨rfl, ?_⟩
      show tSeq _ _ _ _ (L2.upd H2 ls (.lst (prV w st2 q.st)))
      generalize L2.upd H2 ls (.lst (prV w st2 q.st)) = H3 at W3 sB3 up3 ⊢
      clear hs2 fr A2 S2 up2 sB2 up sB W
      obtain ⟨r1, q1, W4⟩ := W3.zero hw
      refine ⟨_, rfl, true, rfl, ifnT ?_⟩
      refine ⟨_, rfl, ll, _, _, _, rfl, rfl, SqL.of W4.hl, at0 rfl, _, rfl, ls, _, _, _, rfl, rfl, SqL.of W4.hs, at0 rfl, r1.x, r1.dx, r1.l, r1.st, r1.lq, r1.us, r1.tq, r1.z, rfl, W4.a.X, W4.a.S, W4.a.e, fun H4 s4 => ⟨true, rfl, ifnT ?_⟩⟩
      have W5 := W4.same s4
      refine ⟨_, rfl, ll, _, _, _, rfl, rfl, SqL.of W5.hl, at_of (j := 1) rfl rfl, _, rfl, ls, _, _, _, rfl, rfl, SqL.of W5.hs, at_of (j := 1) rfl rfl, q1.x, q1.dx, q1.l, q1.st, q1.lq, q1.us, q1.tq, q1.z, rfl, W5.b.X, W5.b.S, W5.b.e, fun H5 s5 => ⟨true, rfl, ifnT ?_⟩⟩
      have s45 := s4.trans s5
      have W6 := W3.same s45
      have sB5 := sB3.trans s45
      have up5 := s45 _ _ up3
      clear W3 W4 W5 s4 s5 s45 up3 sB3
      generalize (⟨r.x, r.dx, r.l, st2, lq2, us2, tq2, z2⟩ : Lr) = r2 at W6
      obtain ⟨r3, q3, W7⟩ := W6.zero hw
      refine ⟨_, rfl, _, rfl, ls, _, _, _, rfl, rfl, SqL.of W6.hs, at_of ew (prV_at hw _ _), r2.st, _, _, _, rfl, rfl, SqL.of W6.a.S.lst, at0 rfl, rfl, _, rfl, if_eq (fun _ => ?_) (fun _ => ?_)⟩
      · refine ⟨_, rfl, _, rfl, ls, _, _, _, rfl, rfl, SqL.of W6.hs, at_of ew (prV_at hw _ _), r2.st, _, _, _, rfl, rfl, SqL.of W6.a.S.lst, at_of (j := 1) rfl rfl, rfl, _, rfl, if_eq (fun _ => ?_) (fun _ => ?_)⟩
        · refine ⟨_, rfl, _, _, rfl, rfl, dv, _, rfl, fun H6 s6 => ?_⟩
          have ham := amountBy_ok (n / 60)
          generalize amountBy (n / 60) = am at ham ⊢
          have W8 := W6.same s6
          have sB6 := sB5.trans s6
          refine ⟨_, rfl, _, rfl, fun x dx nx ndx nex => ?_⟩
          have s7 : Same H6 (L2.upd (L2.upd H6 dx (.own x)) x (.ins T.a_Loan dx [])) := (Same.new ndx).upd (by rw [L2.upd_ne (Ne.symm nex)]; exact nx)
          have hob : (L2.upd (L2.upd H6 dx (.own x)) x (.ins T.a_Loan dx [])) x = some (.ins T.a_Loan dx []) := upd_same
          generalize L2.upd (L2.upd H6 dx (.own x)) x (.ins T.a_Loan dx []) = H7 at s7 hob ⊢
          refine ⟨x, dx, lr, am, ts, rfl, hob, RB.same (sB6.trans s7), fun n => absurd ham n, fun _ _ e => absurd (e.symm.trans eok) (by decide), fun _ _ e => absurd (e.symm.trans eok) (by decide), fun _ _ _ l H8 b8 hl X8 => ?_⟩
          have s8 : Same H6 H8 := fun b o e => b8 b o (s7 b o e) (ne_of_none e nx)
          have nl : H6 l = none := s7.free hl
          have W9 := W8.same s8
          refine ⟨rfl, _, rfl, _, rfl, ll, _, _, w, rfl, rfl, W9.hl, by rw [ew]; exact prV_ix hw _ _, ?_⟩
          rw [prV_set hw]
          have ok1 : LnOk ⟨am, 0, 0⟩ := ⟨by show 0 ≤ am; omega, ham.2, by show (0 : Int) ≤ 0; decide, by show (0 : Int) ≤ 0; decide, by show (0 : Int) ≤ 100000; decide⟩
          have sB9 : Same B (L2.upd H8 ll (.lst (prV w x q.x))) := fun b o hb => by
            rw [L2.upd_ne (ne_of_none hb nllB)]
            exact s8 _ _ (sB6 _ _ hb)
          refine ⟨_, rfl, _, rfl, lr, _, rfl, .inl (RB.same sB9).seq, fun lqn hq => ⟨szl 4, fun stn hst => ?_⟩⟩
          obtain ⟨_, hls, W10⟩ := W8.anew (lr := lr) hw sB6 nllB s8 nx nl X8 RB rok0 len0 ok1 hd0 hq hst
          have zz := (Same.new (o := .lst (rowV ts)) hq).trans (Same.new (o := .lst [.int am, .int 0, .int 0, .ref lqn]) hst)
          refine ⟨_, rfl, _, rfl, ls, _, _, w, rfl, rfl, hls, by rw [ew]; exact prV_ix hw _ _, ?_⟩
          rw [prV_set hw]
          have up9 : (L2.upd H8 ll (.lst (prV w x q.x))) p = some (.lst (ms.map V.int)) := by
            have h1 := W9.hl
            obtain ⟨c, u, ec, _⟩ := prV_head w r2.x q.x
            rw [ec] at h1
            rw [L2.upd_ne (pne (s8 _ _ (s6 _ _ up5)) h1)]
            exact s8 _ _ (s6 _ _ up5)
          obtain ⟨r5, q5, W11⟩ := W10.zero hw
          refine ⟨r5, q5, _, _, _, _, _, fun b o hb => ?_, W11, ?_, rfl⟩
          · rw [L2.upd_ne (ne_of_none hb nlsB)]
            exact zz _ _ (sB9 _ _ hb)
          · obtain ⟨c, u, ec, _⟩ := prV_head w r2.st q.st
            rw [ec] at hls
            rw [L2.upd_ne (pne (zz _ _ up9) hls)]
            exact zz _ _ up9
        · exact ⟨r3, q3, _, _, _, _, _, sB5, W7, up5, rfl⟩
      · exact ⟨r3, q3, _, _, _, _, _, sB5, W7, up5, rfl⟩
    · rintro σ H' ⟨r, q, v6, v7, v8, v9, v10, sB, W, up, rfl⟩
      refine ⟨_, rfl, _, rfl, ls, _, _, _, rfl, rfl, SqL.of W.hs, at0 rfl, r.st, _, _, _, rfl, rfl, SqL.of W.a.S.lst, at_of (j := 3) rfl rfl, _, rfl, r.lq, _, rfl, W.a.S.row.seq, fun p9 h9 => ?_⟩
      obtain ⟨t, u, et⟩ : ∃ t u, r.tq = t :: u := by
        cases e : r.tq with
        | nil => exact absurd e W.a.ne2
        | cons t u => exact ⟨t, u, rfl⟩
      rw [show cutV (rowV r.tq) none (some 1) = (rowV r.tq).take 1 from cut_to (k := 1) (n := 1) rfl (by rw [rowV_len, et]; simp), rowV_take]
      have z9 := Same.new (o := .lst (rowV (r.tq.take 1))) h9
      refine row_eq ((RB.same sB).same z9) ⟨upd_same, fun t ht => (W.a.S.row.same z9).prs t (List.mem_of_mem_take ht)⟩ ?_ (k _)
      rw [va0, vals_take, ← W.a.e, W.a.hd]

end
theorem all_mk {l : PySem.W.OpenLaw} {w : World} {K : PySem.W.Frag} {h : Heap} {mg : Str → Option Value} (X : K.In h) (G : h.Ns mainGlobals mg) {fa a_LoanError a_BadAmount a_BadRate a_BadDay a_BadPay a_Loan f_need_rate f_checked f_grown f_need_amount f_Loan_init f_Loan_stand f_Loan_owed f_Loan_pay f_Loan_change f_law_cell_at f_law_whole f_law_mixed f_law_rate_by f_law_rate_of f_law_amount_by f_law_owed f_law_parts f_law_two f_law_walked f_law_cents_by f_law_pay f_law_no_pay f_law_change f_law_look f_law_deed f_law_as_told f_law : Addr}
    {od_need_rate an_need_rate : Option Addr} {sl_need_rate : Array (Option Value)} {oc_need_rate kV_need_rate dc_need_rate pm_need_rate cd_need_rate ct_need_rate : Value}
    {od_checked an_checked : Option Addr} {sl_checked : Array (Option Value)} {oc_checked kV_checked dc_checked pm_checked cd_checked ct_checked : Value}
    {od_grown an_grown : Option Addr} {sl_grown : Array (Option Value)} {oc_grown kV_grown dc_grown pm_grown cd_grown ct_grown : Value}
    {od_need_amount an_need_amount : Option Addr} {sl_need_amount : Array (Option Value)} {oc_need_amount kV_need_amount dc_need_amount pm_need_amount cd_need_amount ct_need_amount : Value}
    {od_Loan_init an_Loan_init : Option Addr} {sl_Loan_init : Array (Option Value)} {oc_Loan_init kV_Loan_init dc_Loan_init pm_Loan_init cd_Loan_init ct_Loan_init : Value}
    {od_Loan_stand an_Loan_stand : Option Addr} {sl_Loan_stand : Array (Option Value)} {oc_Loan_stand kV_Loan_stand dc_Loan_stand pm_Loan_stand cd_Loan_stand ct_Loan_stand : Value}
    {od_Loan_owed an_Loan_owed : Option Addr} {sl_Loan_owed : Array (Option Value)} {oc_Loan_owed kV_Loan_owed dc_Loan_owed pm_Loan_owed cd_Loan_owed ct_Loan_owed : Value}
    {od_Loan_pay an_Loan_pay : Option Addr} {sl_Loan_pay : Array (Option Value)} {oc_Loan_pay kV_Loan_pay dc_Loan_pay pm_Loan_pay cd_Loan_pay ct_Loan_pay : Value}
    {od_Loan_change an_Loan_change : Option Addr} {sl_Loan_change : Array (Option Value)} {oc_Loan_change kV_Loan_change dc_Loan_change pm_Loan_change cd_Loan_change ct_Loan_change : Value}
    {od_law_cell_at an_law_cell_at : Option Addr} {sl_law_cell_at : Array (Option Value)} {oc_law_cell_at kV_law_cell_at dc_law_cell_at pm_law_cell_at cd_law_cell_at ct_law_cell_at : Value}
    {od_law_whole an_law_whole : Option Addr} {sl_law_whole : Array (Option Value)} {oc_law_whole kV_law_whole dc_law_whole pm_law_whole cd_law_whole ct_law_whole : Value}
    {od_law_mixed an_law_mixed : Option Addr} {sl_law_mixed : Array (Option Value)} {oc_law_mixed kV_law_mixed dc_law_mixed pm_law_mixed cd_law_mixed ct_law_mixed : Value}
    {od_law_rate_by an_law_rate_by : Option Addr} {sl_law_rate_by : Array (Option Value)} {oc_law_rate_by kV_law_rate_by dc_law_rate_by pm_law_rate_by cd_law_rate_by ct_law_rate_by : Value}
    {od_law_rate_of an_law_rate_of : Option Addr} {sl_law_rate_of : Array (Option Value)} {oc_law_rate_of kV_law_rate_of dc_law_rate_of pm_law_rate_of cd_law_rate_of ct_law_rate_of : Value}
    {od_law_amount_by an_law_amount_by : Option Addr} {sl_law_amount_by : Array (Option Value)} {oc_law_amount_by kV_law_amount_by dc_law_amount_by pm_law_amount_by cd_law_amount_by ct_law_amount_by : Value}
    {od_law_owed an_law_owed : Option Addr} {sl_law_owed : Array (Option Value)} {oc_law_owed kV_law_owed dc_law_owed pm_law_owed cd_law_owed ct_law_owed : Value}
    {od_law_parts an_law_parts : Option Addr} {sl_law_parts : Array (Option Value)} {oc_law_parts kV_law_parts dc_law_parts pm_law_parts cd_law_parts ct_law_parts : Value}
    {od_law_two an_law_two : Option Addr} {sl_law_two : Array (Option Value)} {oc_law_two kV_law_two dc_law_two pm_law_two cd_law_two ct_law_two : Value}
    {od_law_walked an_law_walked : Option Addr} {sl_law_walked : Array (Option Value)} {oc_law_walked kV_law_walked dc_law_walked pm_law_walked cd_law_walked ct_law_walked : Value}
    {od_law_cents_by an_law_cents_by : Option Addr} {sl_law_cents_by : Array (Option Value)} {oc_law_cents_by kV_law_cents_by dc_law_cents_by pm_law_cents_by cd_law_cents_by ct_law_cents_by : Value}
    {od_law_pay an_law_pay : Option Addr} {sl_law_pay : Array (Option Value)} {oc_law_pay kV_law_pay dc_law_pay pm_law_pay cd_law_pay ct_law_pay : Value}
    {od_law_no_pay an_law_no_pay : Option Addr} {sl_law_no_pay : Array (Option Value)} {oc_law_no_pay kV_law_no_pay dc_law_no_pay pm_law_no_pay cd_law_no_pay ct_law_no_pay : Value}
    {od_law_change an_law_change : Option Addr} {sl_law_change : Array (Option Value)} {oc_law_change kV_law_change dc_law_change pm_law_change cd_law_change ct_law_change : Value}
    {od_law_look an_law_look : Option Addr} {sl_law_look : Array (Option Value)} {oc_law_look kV_law_look dc_law_look pm_law_look cd_law_look ct_law_look : Value}
    {od_law_deed an_law_deed : Option Addr} {sl_law_deed : Array (Option Value)} {oc_law_deed kV_law_deed dc_law_deed pm_law_deed cd_law_deed ct_law_deed : Value}
    {od_law_as_told an_law_as_told : Option Addr} {sl_law_as_told : Array (Option Value)} {oc_law_as_told kV_law_as_told dc_law_as_told pm_law_as_told cd_law_as_told ct_law_as_told : Value}
    {od_law an_law : Option Addr} {sl_law : Array (Option Value)} {oc_law kV_law dc_law pm_law cd_law ct_law : Value}
    {tk_MOST_DAY : Tok}
    {tk_MOST_RATE : Tok}
    {tk_MOST_AMOUNT : Tok}
    {tk_MILLION : Tok} (hfa : mg "law" = some (.ref fa))
    (z_tuple : PySem.W.nsIn K mainGlobals "tuple" = some none)
    (z_len : PySem.W.nsIn K mainGlobals "len" = some none)
    (z_max : PySem.W.nsIn K mainGlobals "max" = some none)
    (z_min : PySem.W.nsIn K mainGlobals "min" = some none)
    (z_int : PySem.W.nsIn K mainGlobals "int" = some none)
    (z_bool : PySem.W.nsIn K mainGlobals "bool" = some none)
    (z_list : PySem.W.nsIn K mainGlobals "list" = some none)
    (z_range : PySem.W.nsIn K mainGlobals "range" = some none)
    (z_isinstance : PySem.W.nsIn K mainGlobals "isinstance" = some none)
    (z_ValueError : PySem.W.nsIn K mainGlobals "ValueError" = some none)
    (q_MOST_DAY : PySem.W.nsIn K mainGlobals "MOST_DAY" = some (some (.int 100000 tk_MOST_DAY)))
    (q_MOST_RATE : PySem.W.nsIn K mainGlobals "MOST_RATE" = some (some (.int 100000 tk_MOST_RATE)))
    (q_MOST_AMOUNT : PySem.W.nsIn K mainGlobals "MOST_AMOUNT" = some (some (.int 1000000000000 tk_MOST_AMOUNT)))
    (q_MILLION : PySem.W.nsIn K mainGlobals "MILLION" = some (some (.int 1000000 tk_MILLION)))
    (ac_LoanError : PySem.W.nsIn K mainGlobals "LoanError" = some (some (.ref a_LoanError)))
    (xc_LoanError : PySem.W.excIn K a_LoanError [.type "ValueError", .type "Exception", .type "BaseException", .type "object"] "ValueError.__new__" = true)
    (xk_LoanError : PySem.W.keepIn K (.ref a_LoanError) = true)
    (xs_LoanError : PySem.W.subIn K (.ref a_LoanError) (.type "BaseException") = some true)
    (xt_LoanError : PySem.W.typeIn K (.ref a_LoanError) = some (.type "type"))
    (ac_BadAmount : PySem.W.nsIn K mainGlobals "BadAmount" = some (some (.ref a_BadAmount)))
    (xc_BadAmount : PySem.W.excIn K a_BadAmount [.type "ValueError", .type "Exception", .type "BaseException", .type "object"] "ValueError.__new__" = true)
    (xk_BadAmount : PySem.W.keepIn K (.ref a_BadAmount) = true)
    (xs_BadAmount : PySem.W.subIn K (.ref a_BadAmount) (.type "BaseException") = some true)
    (xt_BadAmount : PySem.W.typeIn K (.ref a_BadAmount) = some (.type "type"))
    (ac_BadRate : PySem.W.nsIn K mainGlobals "BadRate" = some (some (.ref a_BadRate)))
    (xc_BadRate : PySem.W.excIn K a_BadRate [.type "ValueError", .type "Exception", .type "BaseException", .type "object"] "ValueError.__new__" = true)
    (xk_BadRate : PySem.W.keepIn K (.ref a_BadRate) = true)
    (xs_BadRate : PySem.W.subIn K (.ref a_BadRate) (.type "BaseException") = some true)
    (xt_BadRate : PySem.W.typeIn K (.ref a_BadRate) = some (.type "type"))
    (ac_BadDay : PySem.W.nsIn K mainGlobals "BadDay" = some (some (.ref a_BadDay)))
    (xc_BadDay : PySem.W.excIn K a_BadDay [.type "ValueError", .type "Exception", .type "BaseException", .type "object"] "ValueError.__new__" = true)
    (xk_BadDay : PySem.W.keepIn K (.ref a_BadDay) = true)
    (xs_BadDay : PySem.W.subIn K (.ref a_BadDay) (.type "BaseException") = some true)
    (xt_BadDay : PySem.W.typeIn K (.ref a_BadDay) = some (.type "type"))
    (ac_BadPay : PySem.W.nsIn K mainGlobals "BadPay" = some (some (.ref a_BadPay)))
    (xc_BadPay : PySem.W.excIn K a_BadPay [.type "ValueError", .type "Exception", .type "BaseException", .type "object"] "ValueError.__new__" = true)
    (xk_BadPay : PySem.W.keepIn K (.ref a_BadPay) = true)
    (xs_BadPay : PySem.W.subIn K (.ref a_BadPay) (.type "BaseException") = some true)
    (xt_BadPay : PySem.W.typeIn K (.ref a_BadPay) = some (.type "type"))
    (ac_Loan : PySem.W.nsIn K mainGlobals "Loan" = some (some (.ref a_Loan)))
    (pg_Loan : PySem.W.plainGet K a_Loan Str.empty = true)
    (hd_Loan : PySem.W.hasDictIn K a_Loan = true)
    (po_Loan : PySem.W.plainOver K a_Loan = true)
    (sa_Loan : PySem.W.findIn K (.ref a_Loan) "__setattr__" = some (some (.builtin "object.__setattr__")))
    (mk_Loan : PySem.W.makesIn K a_Loan = true)
    (kc_Loan : PySem.W.keepIn K (.ref a_Loan) = true)
    (nf_Loan_left : PySem.W.findIn K (.ref a_Loan) "left" = some none)
    (nf_Loan_begun : PySem.W.findIn K (.ref a_Loan) "begun" = some none)
    (nf_Loan_day : PySem.W.findIn K (.ref a_Loan) "day" = some none)
    (nf_Loan_rates : PySem.W.findIn K (.ref a_Loan) "rates" = some none)
    (sb_BadAmount_BadDay : PySem.W.subIn K (.ref a_BadAmount) (.ref a_BadDay) = some false)
    (sb_BadAmount_BadPay : PySem.W.subIn K (.ref a_BadAmount) (.ref a_BadPay) = some false)
    (sb_BadDay_BadDay : PySem.W.subIn K (.ref a_BadDay) (.ref a_BadDay) = some true)
    (sb_BadDay_BadPay : PySem.W.subIn K (.ref a_BadDay) (.ref a_BadPay) = some false)
    (sb_BadPay_BadDay : PySem.W.subIn K (.ref a_BadPay) (.ref a_BadDay) = some false)
    (sb_BadPay_BadPay : PySem.W.subIn K (.ref a_BadPay) (.ref a_BadPay) = some true)
    (sb_BadRate_BadDay : PySem.W.subIn K (.ref a_BadRate) (.ref a_BadDay) = some false)
    (sb_BadRate_BadPay : PySem.W.subIn K (.ref a_BadRate) (.ref a_BadPay) = some false)
    (dd_BadDay : PySem.W.hasDictIn K a_BadDay = true)
    (dd_BadPay : PySem.W.hasDictIn K a_BadPay = true)
    (at_need_rate : PySem.W.nsIn K mainGlobals "need_rate" = some (some (.ref f_need_rate)))
    (lk_need_rate : K.lookup f_need_rate = some ⟨oc_need_rate, od_need_rate, .func (PySem.W.fnOf "need_rate" "need_rate" (defArgs s_need_rate) (defBody s_need_rate) (defScope s_need_rate) .none kV_need_rate dc_need_rate pm_need_rate an_need_rate cd_need_rate ct_need_rate), sl_need_rate⟩)
    (cd_need_rate_in : PySem.W.codeIn K cd_need_rate "need_rate" = true)
    (kp_need_rate : PySem.W.keepIn K (.ref f_need_rate) = true)
    (at_checked : PySem.W.nsIn K mainGlobals "checked" = some (some (.ref f_checked)))
    (lk_checked : K.lookup f_checked = some ⟨oc_checked, od_checked, .func (PySem.W.fnOf "checked" "checked" (defArgs s_checked) (defBody s_checked) (defScope s_checked) .none kV_checked dc_checked pm_checked an_checked cd_checked ct_checked), sl_checked⟩)
    (cd_checked_in : PySem.W.codeIn K cd_checked "checked" = true)
    (kp_checked : PySem.W.keepIn K (.ref f_checked) = true)
    (at_grown : PySem.W.nsIn K mainGlobals "grown" = some (some (.ref f_grown)))
    (lk_grown : K.lookup f_grown = some ⟨oc_grown, od_grown, .func (PySem.W.fnOf "grown" "grown" (defArgs s_grown) (defBody s_grown) (defScope s_grown) .none kV_grown dc_grown pm_grown an_grown cd_grown ct_grown), sl_grown⟩)
    (cd_grown_in : PySem.W.codeIn K cd_grown "grown" = true)
    (kp_grown : PySem.W.keepIn K (.ref f_grown) = true)
    (at_need_amount : PySem.W.nsIn K mainGlobals "need_amount" = some (some (.ref f_need_amount)))
    (lk_need_amount : K.lookup f_need_amount = some ⟨oc_need_amount, od_need_amount, .func (PySem.W.fnOf "need_amount" "need_amount" (defArgs s_need_amount) (defBody s_need_amount) (defScope s_need_amount) .none kV_need_amount dc_need_amount pm_need_amount an_need_amount cd_need_amount ct_need_amount), sl_need_amount⟩)
    (cd_need_amount_in : PySem.W.codeIn K cd_need_amount "need_amount" = true)
    (kp_need_amount : PySem.W.keepIn K (.ref f_need_amount) = true)
    (at_Loan_init : PySem.W.findIn K (.ref a_Loan) "__init__" = some (some (.ref f_Loan_init)))
    (is_Loan_init : PySem.W.isFn K (.ref f_Loan_init) = true)
    (lk_Loan_init : K.lookup f_Loan_init = some ⟨oc_Loan_init, od_Loan_init, .func (PySem.W.fnOf "__init__" "Loan.__init__" (defArgs s_Loan_init) (defBody s_Loan_init) (defScope s_Loan_init) .none kV_Loan_init dc_Loan_init pm_Loan_init an_Loan_init cd_Loan_init ct_Loan_init), sl_Loan_init⟩)
    (cd_Loan_init_in : PySem.W.codeIn K cd_Loan_init "Loan.__init__" = true)
    (kp_Loan_init : PySem.W.keepIn K (.ref f_Loan_init) = true)
    (at_Loan_stand : PySem.W.findIn K (.ref a_Loan) "stand" = some (some (.ref f_Loan_stand)))
    (is_Loan_stand : PySem.W.isFn K (.ref f_Loan_stand) = true)
    (lk_Loan_stand : K.lookup f_Loan_stand = some ⟨oc_Loan_stand, od_Loan_stand, .func (PySem.W.fnOf "stand" "Loan.stand" (defArgs s_Loan_stand) (defBody s_Loan_stand) (defScope s_Loan_stand) .none kV_Loan_stand dc_Loan_stand pm_Loan_stand an_Loan_stand cd_Loan_stand ct_Loan_stand), sl_Loan_stand⟩)
    (cd_Loan_stand_in : PySem.W.codeIn K cd_Loan_stand "Loan.stand" = true)
    (kp_Loan_stand : PySem.W.keepIn K (.ref f_Loan_stand) = true)
    (at_Loan_owed : PySem.W.findIn K (.ref a_Loan) "owed" = some (some (.ref f_Loan_owed)))
    (is_Loan_owed : PySem.W.isFn K (.ref f_Loan_owed) = true)
    (lk_Loan_owed : K.lookup f_Loan_owed = some ⟨oc_Loan_owed, od_Loan_owed, .func (PySem.W.fnOf "owed" "Loan.owed" (defArgs s_Loan_owed) (defBody s_Loan_owed) (defScope s_Loan_owed) .none kV_Loan_owed dc_Loan_owed pm_Loan_owed an_Loan_owed cd_Loan_owed ct_Loan_owed), sl_Loan_owed⟩)
    (cd_Loan_owed_in : PySem.W.codeIn K cd_Loan_owed "Loan.owed" = true)
    (kp_Loan_owed : PySem.W.keepIn K (.ref f_Loan_owed) = true)
    (at_Loan_pay : PySem.W.findIn K (.ref a_Loan) "pay" = some (some (.ref f_Loan_pay)))
    (is_Loan_pay : PySem.W.isFn K (.ref f_Loan_pay) = true)
    (lk_Loan_pay : K.lookup f_Loan_pay = some ⟨oc_Loan_pay, od_Loan_pay, .func (PySem.W.fnOf "pay" "Loan.pay" (defArgs s_Loan_pay) (defBody s_Loan_pay) (defScope s_Loan_pay) .none kV_Loan_pay dc_Loan_pay pm_Loan_pay an_Loan_pay cd_Loan_pay ct_Loan_pay), sl_Loan_pay⟩)
    (cd_Loan_pay_in : PySem.W.codeIn K cd_Loan_pay "Loan.pay" = true)
    (kp_Loan_pay : PySem.W.keepIn K (.ref f_Loan_pay) = true)
    (at_Loan_change : PySem.W.findIn K (.ref a_Loan) "change" = some (some (.ref f_Loan_change)))
    (is_Loan_change : PySem.W.isFn K (.ref f_Loan_change) = true)
    (lk_Loan_change : K.lookup f_Loan_change = some ⟨oc_Loan_change, od_Loan_change, .func (PySem.W.fnOf "change" "Loan.change" (defArgs s_Loan_change) (defBody s_Loan_change) (defScope s_Loan_change) .none kV_Loan_change dc_Loan_change pm_Loan_change an_Loan_change cd_Loan_change ct_Loan_change), sl_Loan_change⟩)
    (cd_Loan_change_in : PySem.W.codeIn K cd_Loan_change "Loan.change" = true)
    (kp_Loan_change : PySem.W.keepIn K (.ref f_Loan_change) = true)
    (at_law_cell_at : PySem.W.nsIn K mainGlobals "_law_cell_at" = some (some (.ref f_law_cell_at)))
    (lk_law_cell_at : K.lookup f_law_cell_at = some ⟨oc_law_cell_at, od_law_cell_at, .func (PySem.W.fnOf "_law_cell_at" "_law_cell_at" (defArgs s_law_cell_at) (defBody s_law_cell_at) (defScope s_law_cell_at) .none kV_law_cell_at dc_law_cell_at pm_law_cell_at an_law_cell_at cd_law_cell_at ct_law_cell_at), sl_law_cell_at⟩)
    (cd_law_cell_at_in : PySem.W.codeIn K cd_law_cell_at "_law_cell_at" = true)
    (kp_law_cell_at : PySem.W.keepIn K (.ref f_law_cell_at) = true)
    (at_law_whole : PySem.W.nsIn K mainGlobals "_law_whole" = some (some (.ref f_law_whole)))
    (lk_law_whole : K.lookup f_law_whole = some ⟨oc_law_whole, od_law_whole, .func (PySem.W.fnOf "_law_whole" "_law_whole" (defArgs s_law_whole) (defBody s_law_whole) (defScope s_law_whole) .none kV_law_whole dc_law_whole pm_law_whole an_law_whole cd_law_whole ct_law_whole), sl_law_whole⟩)
    (cd_law_whole_in : PySem.W.codeIn K cd_law_whole "_law_whole" = true)
    (kp_law_whole : PySem.W.keepIn K (.ref f_law_whole) = true)
    (at_law_mixed : PySem.W.nsIn K mainGlobals "_law_mixed" = some (some (.ref f_law_mixed)))
    (lk_law_mixed : K.lookup f_law_mixed = some ⟨oc_law_mixed, od_law_mixed, .func (PySem.W.fnOf "_law_mixed" "_law_mixed" (defArgs s_law_mixed) (defBody s_law_mixed) (defScope s_law_mixed) .none kV_law_mixed dc_law_mixed pm_law_mixed an_law_mixed cd_law_mixed ct_law_mixed), sl_law_mixed⟩)
    (cd_law_mixed_in : PySem.W.codeIn K cd_law_mixed "_law_mixed" = true)
    (kp_law_mixed : PySem.W.keepIn K (.ref f_law_mixed) = true)
    (at_law_rate_by : PySem.W.nsIn K mainGlobals "_law_rate_by" = some (some (.ref f_law_rate_by)))
    (lk_law_rate_by : K.lookup f_law_rate_by = some ⟨oc_law_rate_by, od_law_rate_by, .func (PySem.W.fnOf "_law_rate_by" "_law_rate_by" (defArgs s_law_rate_by) (defBody s_law_rate_by) (defScope s_law_rate_by) .none kV_law_rate_by dc_law_rate_by pm_law_rate_by an_law_rate_by cd_law_rate_by ct_law_rate_by), sl_law_rate_by⟩)
    (cd_law_rate_by_in : PySem.W.codeIn K cd_law_rate_by "_law_rate_by" = true)
    (kp_law_rate_by : PySem.W.keepIn K (.ref f_law_rate_by) = true)
    (at_law_rate_of : PySem.W.nsIn K mainGlobals "_law_rate_of" = some (some (.ref f_law_rate_of)))
    (lk_law_rate_of : K.lookup f_law_rate_of = some ⟨oc_law_rate_of, od_law_rate_of, .func (PySem.W.fnOf "_law_rate_of" "_law_rate_of" (defArgs s_law_rate_of) (defBody s_law_rate_of) (defScope s_law_rate_of) .none kV_law_rate_of dc_law_rate_of pm_law_rate_of an_law_rate_of cd_law_rate_of ct_law_rate_of), sl_law_rate_of⟩)
    (cd_law_rate_of_in : PySem.W.codeIn K cd_law_rate_of "_law_rate_of" = true)
    (kp_law_rate_of : PySem.W.keepIn K (.ref f_law_rate_of) = true)
    (at_law_amount_by : PySem.W.nsIn K mainGlobals "_law_amount_by" = some (some (.ref f_law_amount_by)))
    (lk_law_amount_by : K.lookup f_law_amount_by = some ⟨oc_law_amount_by, od_law_amount_by, .func (PySem.W.fnOf "_law_amount_by" "_law_amount_by" (defArgs s_law_amount_by) (defBody s_law_amount_by) (defScope s_law_amount_by) .none kV_law_amount_by dc_law_amount_by pm_law_amount_by an_law_amount_by cd_law_amount_by ct_law_amount_by), sl_law_amount_by⟩)
    (cd_law_amount_by_in : PySem.W.codeIn K cd_law_amount_by "_law_amount_by" = true)
    (kp_law_amount_by : PySem.W.keepIn K (.ref f_law_amount_by) = true)
    (at_law_owed : PySem.W.nsIn K mainGlobals "_law_owed" = some (some (.ref f_law_owed)))
    (lk_law_owed : K.lookup f_law_owed = some ⟨oc_law_owed, od_law_owed, .func (PySem.W.fnOf "_law_owed" "_law_owed" (defArgs s_law_owed) (defBody s_law_owed) (defScope s_law_owed) .none kV_law_owed dc_law_owed pm_law_owed an_law_owed cd_law_owed ct_law_owed), sl_law_owed⟩)
    (cd_law_owed_in : PySem.W.codeIn K cd_law_owed "_law_owed" = true)
    (kp_law_owed : PySem.W.keepIn K (.ref f_law_owed) = true)
    (at_law_parts : PySem.W.nsIn K mainGlobals "_law_parts" = some (some (.ref f_law_parts)))
    (lk_law_parts : K.lookup f_law_parts = some ⟨oc_law_parts, od_law_parts, .func (PySem.W.fnOf "_law_parts" "_law_parts" (defArgs s_law_parts) (defBody s_law_parts) (defScope s_law_parts) .none kV_law_parts dc_law_parts pm_law_parts an_law_parts cd_law_parts ct_law_parts), sl_law_parts⟩)
    (cd_law_parts_in : PySem.W.codeIn K cd_law_parts "_law_parts" = true)
    (kp_law_parts : PySem.W.keepIn K (.ref f_law_parts) = true)
    (at_law_two : PySem.W.nsIn K mainGlobals "_law_two" = some (some (.ref f_law_two)))
    (lk_law_two : K.lookup f_law_two = some ⟨oc_law_two, od_law_two, .func (PySem.W.fnOf "_law_two" "_law_two" (defArgs s_law_two) (defBody s_law_two) (defScope s_law_two) .none kV_law_two dc_law_two pm_law_two an_law_two cd_law_two ct_law_two), sl_law_two⟩)
    (cd_law_two_in : PySem.W.codeIn K cd_law_two "_law_two" = true)
    (kp_law_two : PySem.W.keepIn K (.ref f_law_two) = true)
    (at_law_walked : PySem.W.nsIn K mainGlobals "_law_walked" = some (some (.ref f_law_walked)))
    (lk_law_walked : K.lookup f_law_walked = some ⟨oc_law_walked, od_law_walked, .func (PySem.W.fnOf "_law_walked" "_law_walked" (defArgs s_law_walked) (defBody s_law_walked) (defScope s_law_walked) .none kV_law_walked dc_law_walked pm_law_walked an_law_walked cd_law_walked ct_law_walked), sl_law_walked⟩)
    (cd_law_walked_in : PySem.W.codeIn K cd_law_walked "_law_walked" = true)
    (kp_law_walked : PySem.W.keepIn K (.ref f_law_walked) = true)
    (at_law_cents_by : PySem.W.nsIn K mainGlobals "_law_cents_by" = some (some (.ref f_law_cents_by)))
    (lk_law_cents_by : K.lookup f_law_cents_by = some ⟨oc_law_cents_by, od_law_cents_by, .func (PySem.W.fnOf "_law_cents_by" "_law_cents_by" (defArgs s_law_cents_by) (defBody s_law_cents_by) (defScope s_law_cents_by) .none kV_law_cents_by dc_law_cents_by pm_law_cents_by an_law_cents_by cd_law_cents_by ct_law_cents_by), sl_law_cents_by⟩)
    (cd_law_cents_by_in : PySem.W.codeIn K cd_law_cents_by "_law_cents_by" = true)
    (kp_law_cents_by : PySem.W.keepIn K (.ref f_law_cents_by) = true)
    (at_law_pay : PySem.W.nsIn K mainGlobals "_law_pay" = some (some (.ref f_law_pay)))
    (lk_law_pay : K.lookup f_law_pay = some ⟨oc_law_pay, od_law_pay, .func (PySem.W.fnOf "_law_pay" "_law_pay" (defArgs s_law_pay) (defBody s_law_pay) (defScope s_law_pay) .none kV_law_pay dc_law_pay pm_law_pay an_law_pay cd_law_pay ct_law_pay), sl_law_pay⟩)
    (cd_law_pay_in : PySem.W.codeIn K cd_law_pay "_law_pay" = true)
    (kp_law_pay : PySem.W.keepIn K (.ref f_law_pay) = true)
    (at_law_no_pay : PySem.W.nsIn K mainGlobals "_law_no_pay" = some (some (.ref f_law_no_pay)))
    (lk_law_no_pay : K.lookup f_law_no_pay = some ⟨oc_law_no_pay, od_law_no_pay, .func (PySem.W.fnOf "_law_no_pay" "_law_no_pay" (defArgs s_law_no_pay) (defBody s_law_no_pay) (defScope s_law_no_pay) .none kV_law_no_pay dc_law_no_pay pm_law_no_pay an_law_no_pay cd_law_no_pay ct_law_no_pay), sl_law_no_pay⟩)
    (cd_law_no_pay_in : PySem.W.codeIn K cd_law_no_pay "_law_no_pay" = true)
    (kp_law_no_pay : PySem.W.keepIn K (.ref f_law_no_pay) = true)
    (at_law_change : PySem.W.nsIn K mainGlobals "_law_change" = some (some (.ref f_law_change)))
    (lk_law_change : K.lookup f_law_change = some ⟨oc_law_change, od_law_change, .func (PySem.W.fnOf "_law_change" "_law_change" (defArgs s_law_change) (defBody s_law_change) (defScope s_law_change) .none kV_law_change dc_law_change pm_law_change an_law_change cd_law_change ct_law_change), sl_law_change⟩)
    (cd_law_change_in : PySem.W.codeIn K cd_law_change "_law_change" = true)
    (kp_law_change : PySem.W.keepIn K (.ref f_law_change) = true)
    (at_law_look : PySem.W.nsIn K mainGlobals "_law_look" = some (some (.ref f_law_look)))
    (lk_law_look : K.lookup f_law_look = some ⟨oc_law_look, od_law_look, .func (PySem.W.fnOf "_law_look" "_law_look" (defArgs s_law_look) (defBody s_law_look) (defScope s_law_look) .none kV_law_look dc_law_look pm_law_look an_law_look cd_law_look ct_law_look), sl_law_look⟩)
    (cd_law_look_in : PySem.W.codeIn K cd_law_look "_law_look" = true)
    (kp_law_look : PySem.W.keepIn K (.ref f_law_look) = true)
    (at_law_deed : PySem.W.nsIn K mainGlobals "_law_deed" = some (some (.ref f_law_deed)))
    (lk_law_deed : K.lookup f_law_deed = some ⟨oc_law_deed, od_law_deed, .func (PySem.W.fnOf "_law_deed" "_law_deed" (defArgs s_law_deed) (defBody s_law_deed) (defScope s_law_deed) .none kV_law_deed dc_law_deed pm_law_deed an_law_deed cd_law_deed ct_law_deed), sl_law_deed⟩)
    (cd_law_deed_in : PySem.W.codeIn K cd_law_deed "_law_deed" = true)
    (kp_law_deed : PySem.W.keepIn K (.ref f_law_deed) = true)
    (at_law_as_told : PySem.W.nsIn K mainGlobals "_law_as_told" = some (some (.ref f_law_as_told)))
    (lk_law_as_told : K.lookup f_law_as_told = some ⟨oc_law_as_told, od_law_as_told, .func (PySem.W.fnOf "_law_as_told" "_law_as_told" (defArgs s_law_as_told) (defBody s_law_as_told) (defScope s_law_as_told) .none kV_law_as_told dc_law_as_told pm_law_as_told an_law_as_told cd_law_as_told ct_law_as_told), sl_law_as_told⟩)
    (cd_law_as_told_in : PySem.W.codeIn K cd_law_as_told "_law_as_told" = true)
    (kp_law_as_told : PySem.W.keepIn K (.ref f_law_as_told) = true)
    (at_law : PySem.W.nsIn K mainGlobals "law" = some (some (.ref f_law)))
    (lk_law : K.lookup f_law = some ⟨oc_law, od_law, .func (PySem.W.fnOf "law" "law" (defArgs s_law) (defBody s_law) (defScope s_law) .none kV_law dc_law pm_law an_law cd_law ct_law), sl_law⟩)
    (cd_law_in : PySem.W.codeIn K cd_law "law" = true)
    (kp_law : PySem.W.keepIn K (.ref f_law) = true) :
    ∃ fd : FuncData, (∀ (s : Shared) (v : Value), BindsTo s fd ⟨[v], []⟩ [("_law_script", v)]) ∧ ∀ base : Heap, K.In base → base.Ns mainGlobals mg → FnOk l.prog w K mg base CX0 7 fa fd ["_law_script"] (sp_law K) := by
  have e := hfa.symm.trans (PySem.W.mg_of X G at_law)
  cases e
  let T : Txt K mg := ⟨PySem.W.mg_none_of X G z_tuple, PySem.W.mg_none_of X G z_len, PySem.W.mg_none_of X G z_max, PySem.W.mg_none_of X G z_min, PySem.W.mg_none_of X G z_int, PySem.W.mg_none_of X G z_bool, PySem.W.mg_none_of X G z_list, PySem.W.mg_none_of X G z_range, PySem.W.mg_none_of X G z_isinstance, PySem.W.mg_none_of X G z_ValueError, ⟨_, PySem.W.mg_of X G q_MOST_DAY⟩, ⟨_, PySem.W.mg_of X G q_MOST_RATE⟩, ⟨_, PySem.W.mg_of X G q_MOST_AMOUNT⟩, ⟨_, PySem.W.mg_of X G q_MILLION⟩, a_LoanError, PySem.W.mg_of X G ac_LoanError, ⟨xc_LoanError, xk_LoanError, xs_LoanError, xt_LoanError⟩, a_BadAmount, PySem.W.mg_of X G ac_BadAmount, ⟨xc_BadAmount, xk_BadAmount, xs_BadAmount, xt_BadAmount⟩, a_BadRate, PySem.W.mg_of X G ac_BadRate, ⟨xc_BadRate, xk_BadRate, xs_BadRate, xt_BadRate⟩, a_BadDay, PySem.W.mg_of X G ac_BadDay, ⟨xc_BadDay, xk_BadDay, xs_BadDay, xt_BadDay⟩, a_BadPay, PySem.W.mg_of X G ac_BadPay, ⟨xc_BadPay, xk_BadPay, xs_BadPay, xt_BadPay⟩, a_Loan, PySem.W.mg_of X G ac_Loan, ⟨pg_Loan, hd_Loan, po_Loan, sa_Loan⟩, nf_Loan_left, nf_Loan_begun, nf_Loan_day, nf_Loan_rates, PySem.W.exm_ref xs_BadDay dd_BadDay xt_BadDay sb_BadAmount_BadDay, PySem.W.exm_ref xs_BadPay dd_BadPay xt_BadPay sb_BadAmount_BadPay, PySem.W.exm_ref xs_BadDay dd_BadDay xt_BadDay sb_BadDay_BadDay, PySem.W.exm_ref xs_BadPay dd_BadPay xt_BadPay sb_BadDay_BadPay, PySem.W.exm_ref xs_BadDay dd_BadDay xt_BadDay sb_BadPay_BadDay, PySem.W.exm_ref xs_BadPay dd_BadPay xt_BadPay sb_BadPay_BadPay, PySem.W.exm_ref xs_BadDay dd_BadDay xt_BadDay sb_BadRate_BadDay, PySem.W.exm_ref xs_BadPay dd_BadPay xt_BadPay sb_BadRate_BadPay⟩
  have F_need_rate := fun_mk (st := s_need_rate) lk_need_rate cd_need_rate_in kp_need_rate
  have B_need_rate := F_need_rate.binds (ps := ["rate"]) fun _ _ _ _ _ _ us hl => match us, hl with | [_], _ => rfl
  have F_checked := fun_mk (st := s_checked) lk_checked cd_checked_in kp_checked
  have B_checked := F_checked.binds (ps := ["rates"]) fun _ _ _ _ _ _ us hl => match us, hl with | [_], _ => rfl
  have F_grown := fun_mk (st := s_grown) lk_grown cd_grown_in kp_grown
  have B_grown := F_grown.binds (ps := ["rates", "start", "end"]) fun _ _ _ _ _ _ us hl => match us, hl with | [_, _, _], _ => rfl
  have F_need_amount := fun_mk (st := s_need_amount) lk_need_amount cd_need_amount_in kp_need_amount
  have B_need_amount := F_need_amount.binds (ps := ["amount"]) fun _ _ _ _ _ _ us hl => match us, hl with | [_], _ => rfl
  have F_Loan_init := fun_mk (st := s_Loan_init) lk_Loan_init cd_Loan_init_in kp_Loan_init
  have B_Loan_init := F_Loan_init.binds (ps := ["self", "amount", "rates"]) fun _ _ _ _ _ _ us hl => match us, hl with | [_, _, _], _ => rfl
  have F_Loan_stand := fun_mk (st := s_Loan_stand) lk_Loan_stand cd_Loan_stand_in kp_Loan_stand
  have B_Loan_stand := F_Loan_stand.binds (ps := ["self", "day"]) fun _ _ _ _ _ _ us hl => match us, hl with | [_, _], _ => rfl
  have F_Loan_owed := fun_mk (st := s_Loan_owed) lk_Loan_owed cd_Loan_owed_in kp_Loan_owed
  have B_Loan_owed := F_Loan_owed.binds (ps := ["self", "day"]) fun _ _ _ _ _ _ us hl => match us, hl with | [_, _], _ => rfl
  have F_Loan_pay := fun_mk (st := s_Loan_pay) lk_Loan_pay cd_Loan_pay_in kp_Loan_pay
  have B_Loan_pay := F_Loan_pay.binds (ps := ["self", "day", "cents"]) fun _ _ _ _ _ _ us hl => match us, hl with | [_, _, _], _ => rfl
  have F_Loan_change := fun_mk (st := s_Loan_change) lk_Loan_change cd_Loan_change_in kp_Loan_change
  have B_Loan_change := F_Loan_change.binds (ps := ["self", "day", "rate"]) fun _ _ _ _ _ _ us hl => match us, hl with | [_, _, _], _ => rfl
  have F_law_cell_at := fun_mk (st := s_law_cell_at) lk_law_cell_at cd_law_cell_at_in kp_law_cell_at
  have B_law_cell_at := F_law_cell_at.binds (ps := ["_law_script", "_law_k"]) fun _ _ _ _ _ _ us hl => match us, hl with | [_, _], _ => rfl
  have F_law_whole := fun_mk (st := s_law_whole) lk_law_whole cd_law_whole_in kp_law_whole
  have B_law_whole := F_law_whole.binds (ps := ["_law_found"]) fun _ _ _ _ _ _ us hl => match us, hl with | [_], _ => rfl
  have F_law_mixed := fun_mk (st := s_law_mixed) lk_law_mixed cd_law_mixed_in kp_law_mixed
  have B_law_mixed := F_law_mixed.binds (ps := ["_law_cell", "_law_many"]) fun _ _ _ _ _ _ us hl => match us, hl with | [_, _], _ => rfl
  have F_law_rate_by := fun_mk (st := s_law_rate_by) lk_law_rate_by cd_law_rate_by_in kp_law_rate_by
  have B_law_rate_by := F_law_rate_by.binds (ps := ["_law_cell"]) fun _ _ _ _ _ _ us hl => match us, hl with | [_], _ => rfl
  have F_law_rate_of := fun_mk (st := s_law_rate_of) lk_law_rate_of cd_law_rate_of_in kp_law_rate_of
  have B_law_rate_of := F_law_rate_of.binds (ps := ["_law_row", "_law_day"]) fun _ _ _ _ _ _ us hl => match us, hl with | [_, _], _ => rfl
  have F_law_amount_by := fun_mk (st := s_law_amount_by) lk_law_amount_by cd_law_amount_by_in kp_law_amount_by
  have B_law_amount_by := F_law_amount_by.binds (ps := ["_law_cell"]) fun _ _ _ _ _ _ us hl => match us, hl with | [_], _ => rfl
  have F_law_owed := fun_mk (st := s_law_owed) lk_law_owed cd_law_owed_in kp_law_owed
  have B_law_owed := F_law_owed.binds (ps := ["_law_left", "_law_begun"]) fun _ _ _ _ _ _ us hl => match us, hl with | [_, _], _ => rfl
  have F_law_parts := fun_mk (st := s_law_parts) lk_law_parts cd_law_parts_in kp_law_parts
  have B_law_parts := F_law_parts.binds (ps := ["_law_left", "_law_begun", "_law_cents"]) fun _ _ _ _ _ _ us hl => match us, hl with | [_, _, _], _ => rfl
  have F_law_two := fun_mk (st := s_law_two) lk_law_two cd_law_two_in kp_law_two
  have B_law_two := F_law_two.binds (ps := ["_law_found", "_law_one", "_law_other"]) fun _ _ _ _ _ _ us hl => match us, hl with | [_, _, _], _ => rfl
  have F_law_walked := fun_mk (st := s_law_walked) lk_law_walked cd_law_walked_in kp_law_walked
  have B_law_walked := F_law_walked.binds (ps := ["_law_stood", "_law_day"]) fun _ _ _ _ _ _ us hl => match us, hl with | [_, _], _ => rfl
  have F_law_cents_by := fun_mk (st := s_law_cents_by) lk_law_cents_by cd_law_cents_by_in kp_law_cents_by
  have B_law_cents_by := F_law_cents_by.binds (ps := ["_law_size", "_law_left", "_law_begun"]) fun _ _ _ _ _ _ us hl => match us, hl with | [_, _, _], _ => rfl
  have F_law_pay := fun_mk (st := s_law_pay) lk_law_pay cd_law_pay_in kp_law_pay
  have B_law_pay := F_law_pay.binds (ps := ["_law_loan", "_law_stood", "_law_day", "_law_size"]) fun _ _ _ _ _ _ us hl => match us, hl with | [_, _, _, _], _ => rfl
  have F_law_no_pay := fun_mk (st := s_law_no_pay) lk_law_no_pay cd_law_no_pay_in kp_law_no_pay
  have B_law_no_pay := F_law_no_pay.binds (ps := ["_law_loan", "_law_stood", "_law_day", "_law_size"]) fun _ _ _ _ _ _ us hl => match us, hl with | [_, _, _, _], _ => rfl
  have F_law_change := fun_mk (st := s_law_change) lk_law_change cd_law_change_in kp_law_change
  have B_law_change := F_law_change.binds (ps := ["_law_loan", "_law_stood", "_law_day", "_law_size"]) fun _ _ _ _ _ _ us hl => match us, hl with | [_, _, _, _], _ => rfl
  have F_law_look := fun_mk (st := s_law_look) lk_law_look cd_law_look_in kp_law_look
  have B_law_look := F_law_look.binds (ps := ["_law_loan", "_law_stood", "_law_day"]) fun _ _ _ _ _ _ us hl => match us, hl with | [_, _, _], _ => rfl
  have F_law_deed := fun_mk (st := s_law_deed) lk_law_deed cd_law_deed_in kp_law_deed
  have B_law_deed := F_law_deed.binds (ps := ["_law_loan", "_law_stood", "_law_day", "_law_number"]) fun _ _ _ _ _ _ us hl => match us, hl with | [_, _, _, _], _ => rfl
  have F_law_as_told := fun_mk (st := s_law_as_told) lk_law_as_told cd_law_as_told_in kp_law_as_told
  have B_law_as_told := F_law_as_told.binds (ps := ["_law_loan", "_law_stood"]) fun _ _ _ _ _ _ us hl => match us, hl with | [_, _], _ => rfl
  have F_law := fun_mk (st := s_law) lk_law cd_law_in kp_law
  have B_law := F_law.binds (ps := ["_law_script"]) fun _ _ _ _ _ _ us hl => match us, hl with | [_], _ => rfl
  refine ⟨PySem.W.fnOf "law" "law" (defArgs s_law) (defBody s_law) (defScope s_law) .none kV_law dc_law pm_law an_law cd_law ct_law, fun s v => .of_eq rfl, fun base _ _ => ?_⟩
  let D_need_rate : Df l.prog w K mg base (L2.CX l.prog w) 1 "need_rate" ["rate"] (sp_need_rate T) := ⟨f_need_rate, _, ok_need_rate F_need_rate T , PySem.W.mg_of X G at_need_rate, kp_need_rate, B_need_rate⟩
  let D_checked : Df l.prog w K mg base (L2.CX l.prog w) 2 "checked" ["rates"] (sp_checked T) := ⟨f_checked, _, ok_checked F_checked T D_need_rate, PySem.W.mg_of X G at_checked, kp_checked, B_checked⟩
  let D_grown : Df l.prog w K mg base CX0 1 "grown" ["rates", "start", "end"] (sp_grown T) := ⟨f_grown, _, ok_grown F_grown T , PySem.W.mg_of X G at_grown, kp_grown, B_grown⟩
  let D_need_amount : Df l.prog w K mg base (L2.CX l.prog w) 1 "need_amount" ["amount"] (sp_need_amount T) := ⟨f_need_amount, _, ok_need_amount F_need_amount T , PySem.W.mg_of X G at_need_amount, kp_need_amount, B_need_amount⟩
  let D_Loan_init : Di l.prog w K mg base (L2.CX l.prog w) 3 T.a_Loan "Loan" ["self", "amount", "rates"] (sp_Loan_init T) := ⟨f_Loan_init, _, ok_Loan_init F_Loan_init T D_need_amount D_checked, ⟨mk_Loan, at_Loan_init, is_Loan_init, kc_Loan⟩, PySem.W.mg_of X G ac_Loan, B_Loan_init⟩
  let D_Loan_stand : Dm l.prog w K mg base (L2.CX l.prog w) 2 T.a_Loan "stand" ["self", "day"] (sp_Loan_stand T) := ⟨f_Loan_stand, _, ok_Loan_stand F_Loan_stand T D_grown, ⟨at_Loan_stand, is_Loan_stand, kp_Loan_stand⟩, B_Loan_stand⟩
  let D_Loan_owed : Dm l.prog w K mg base (L2.CX l.prog w) 3 T.a_Loan "owed" ["self", "day"] (sp_Loan_owed T) := ⟨f_Loan_owed, _, ok_Loan_owed F_Loan_owed T D_Loan_stand, ⟨at_Loan_owed, is_Loan_owed, kp_Loan_owed⟩, B_Loan_owed⟩
  let D_Loan_pay : Dm l.prog w K mg base (L2.CX l.prog w) 4 T.a_Loan "pay" ["self", "day", "cents"] (sp_Loan_pay T) := ⟨f_Loan_pay, _, ok_Loan_pay F_Loan_pay T D_Loan_stand D_Loan_owed, ⟨at_Loan_pay, is_Loan_pay, kp_Loan_pay⟩, B_Loan_pay⟩
  let D_Loan_change : Dm l.prog w K mg base (L2.CX l.prog w) 2 T.a_Loan "change" ["self", "day", "rate"] (sp_Loan_change T) := ⟨f_Loan_change, _, ok_Loan_change F_Loan_change T D_need_rate, ⟨at_Loan_change, is_Loan_change, kp_Loan_change⟩, B_Loan_change⟩
  let D_law_cell_at : Df l.prog w K mg base CX0 1 "_law_cell_at" ["_law_script", "_law_k"] (sp_law_cell_at T) := ⟨f_law_cell_at, _, ok_law_cell_at F_law_cell_at T , PySem.W.mg_of X G at_law_cell_at, kp_law_cell_at, B_law_cell_at⟩
  let D_law_whole : Df l.prog w K mg base CX0 1 "_law_whole" ["_law_found"] (sp_law_whole T) := ⟨f_law_whole, _, ok_law_whole F_law_whole T , PySem.W.mg_of X G at_law_whole, kp_law_whole, B_law_whole⟩
  let D_law_mixed : Df l.prog w K mg base CX0 1 "_law_mixed" ["_law_cell", "_law_many"] (sp_law_mixed T) := ⟨f_law_mixed, _, ok_law_mixed F_law_mixed T , PySem.W.mg_of X G at_law_mixed, kp_law_mixed, B_law_mixed⟩
  let D_law_rate_by : Df l.prog w K mg base CX0 2 "_law_rate_by" ["_law_cell"] (sp_law_rate_by T) := ⟨f_law_rate_by, _, ok_law_rate_by F_law_rate_by T D_law_mixed, PySem.W.mg_of X G at_law_rate_by, kp_law_rate_by, B_law_rate_by⟩
  let D_law_rate_of : Df l.prog w K mg base CX0 1 "_law_rate_of" ["_law_row", "_law_day"] (sp_law_rate_of T) := ⟨f_law_rate_of, _, ok_law_rate_of F_law_rate_of T , PySem.W.mg_of X G at_law_rate_of, kp_law_rate_of, B_law_rate_of⟩
  let D_law_amount_by : Df l.prog w K mg base CX0 2 "_law_amount_by" ["_law_cell"] (sp_law_amount_by T) := ⟨f_law_amount_by, _, ok_law_amount_by F_law_amount_by T D_law_mixed, PySem.W.mg_of X G at_law_amount_by, kp_law_amount_by, B_law_amount_by⟩
  let D_law_owed : Df l.prog w K mg base CX0 1 "_law_owed" ["_law_left", "_law_begun"] (sp_law_owed T) := ⟨f_law_owed, _, ok_law_owed F_law_owed T , PySem.W.mg_of X G at_law_owed, kp_law_owed, B_law_owed⟩
  let D_law_parts : Df l.prog w K mg base CX0 1 "_law_parts" ["_law_left", "_law_begun", "_law_cents"] (sp_law_parts T) := ⟨f_law_parts, _, ok_law_parts F_law_parts T , PySem.W.mg_of X G at_law_parts, kp_law_parts, B_law_parts⟩
  let D_law_two : Df l.prog w K mg base CX0 2 "_law_two" ["_law_found", "_law_one", "_law_other"] (sp_law_two T) := ⟨f_law_two, _, ok_law_two F_law_two T D_law_whole, PySem.W.mg_of X G at_law_two, kp_law_two, B_law_two⟩
  let D_law_walked : Df l.prog w K mg base CX0 2 "_law_walked" ["_law_stood", "_law_day"] (sp_law_walked T) := ⟨f_law_walked, _, ok_law_walked F_law_walked T D_law_rate_of, PySem.W.mg_of X G at_law_walked, kp_law_walked, B_law_walked⟩
  let D_law_cents_by : Df l.prog w K mg base CX0 2 "_law_cents_by" ["_law_size", "_law_left", "_law_begun"] (sp_law_cents_by T) := ⟨f_law_cents_by, _, ok_law_cents_by F_law_cents_by T D_law_owed D_law_mixed, PySem.W.mg_of X G at_law_cents_by, kp_law_cents_by, B_law_cents_by⟩
  let D_law_pay : Df l.prog w K mg base CX0 5 "_law_pay" ["_law_loan", "_law_stood", "_law_day", "_law_size"] (sp_law_pay T) := ⟨f_law_pay, _, ok_law_pay F_law_pay T D_law_walked D_law_cents_by D_law_parts D_Loan_pay D_law_two, PySem.W.mg_of X G at_law_pay, kp_law_pay, B_law_pay⟩
  let D_law_no_pay : Df l.prog w K mg base CX0 5 "_law_no_pay" ["_law_loan", "_law_stood", "_law_day", "_law_size"] (sp_law_no_pay T) := ⟨f_law_no_pay, _, ok_law_no_pay F_law_no_pay T D_law_owed D_law_walked D_Loan_pay, PySem.W.mg_of X G at_law_no_pay, kp_law_no_pay, B_law_no_pay⟩
  let D_law_change : Df l.prog w K mg base CX0 3 "_law_change" ["_law_loan", "_law_stood", "_law_day", "_law_size"] (sp_law_change T) := ⟨f_law_change, _, ok_law_change F_law_change T D_law_rate_by D_Loan_change, PySem.W.mg_of X G at_law_change, kp_law_change, B_law_change⟩
  let D_law_look : Df l.prog w K mg base CX0 4 "_law_look" ["_law_loan", "_law_stood", "_law_day"] (sp_law_look T) := ⟨f_law_look, _, ok_law_look F_law_look T D_law_walked D_Loan_stand D_Loan_owed D_law_two D_law_whole D_law_owed, PySem.W.mg_of X G at_law_look, kp_law_look, B_law_look⟩
  let D_law_deed : Df l.prog w K mg base CX0 6 "_law_deed" ["_law_loan", "_law_stood", "_law_day", "_law_number"] (sp_law_deed T) := ⟨f_law_deed, _, ok_law_deed F_law_deed T D_law_owed D_law_walked D_law_pay D_law_change D_law_no_pay D_law_look, PySem.W.mg_of X G at_law_deed, kp_law_deed, B_law_deed⟩
  let D_law_as_told : Df l.prog w K mg base CX0 3 "_law_as_told" ["_law_loan", "_law_stood"] (sp_law_as_told T) := ⟨f_law_as_told, _, ok_law_as_told F_law_as_told T D_law_two D_law_whole, PySem.W.mg_of X G at_law_as_told, kp_law_as_told, B_law_as_told⟩
  exact ok_law F_law T D_law_rate_by D_law_cell_at D_law_amount_by D_Loan_init D_law_mixed D_law_deed D_law_as_told
theorem walk {l : PySem.W.OpenLaw} {q : Program} {loose : List Str} {XP : (Str → Option Value) → Heap → Prop} {YP : World → Heap → Prop} {d : DefRec} {K : Params → PySem.W.Frag} (hn : l.most = some 63) (hdf : d.params.defaults = [])
    (hY : ∀ (w : World) (h : Heap), YP w h → (K w.params).In h)
    (F : ∀ (w : World) (mg : Str → Option Value) (fa : Addr) (h : Heap), (K w.params).In h → h.Ns mainGlobals mg → mg d.name = some (.ref fa) →
      ∃ fd : FuncData, (∀ (s : Shared) (u : Value), BindsTo s fd ⟨[u], []⟩ [("_law_script", u)]) ∧ ∀ base : Heap, (K w.params).In base → base.Ns mainGlobals mg → FnOk l.prog w (K w.params) mg base CX0 7 fa fd ["_law_script"] (sp_law (K w.params))) :
    PySem.W.WalkO q loose XP YP l.row.toRowW d [] (fun f vs => PySem.call f vs) :=
  L2.walk_of (n := 63) (k := 7) (x := "_law_script") (CX := fun _ => CX0) (sp := fun w => sp_law (K w.params)) hn (by decide) hdf ⟨rfl, by decide, by decide⟩ hY F (fun _ _ a ns hl _ hS => ⟨a, ns, rfl, hS, hl, fun _ => rfl⟩) fun _ _ _ _ _ z => z
end Toy
open PySem PySem.W PyProof.Rows
set_option maxRecDepth 100000 in
set_option maxHeartbeats 0 in
theorem PySem.Challenge.cw_loanplan_k08_whole_days_walked_holds : PySem.Challenge.rw_loanplan_k08_whole_days_walked.Holds := by
  w_on; o_law; k_head; (case hw => w_witness2)
  k_fill
  refine Toy.walk (l := PySem.Challenge.rw_loanplan_k08_whole_days_walked) rfl rfl (fun w h Y => PySem.W.kIn_of Y) ?F
  case F =>
    intro w mg fa h KX G hmg
    refine' Toy.all_mk KX G hmg ?z_tuple ?z_len ?z_max ?z_min ?z_int ?z_bool ?z_list ?z_range ?z_isinstance ?z_ValueError ?q_MOST_DAY ?q_MOST_RATE ?q_MOST_AMOUNT ?q_MILLION ?ac_LoanError ?xc_LoanError ?xk_LoanError ?xs_LoanError ?xt_LoanError ?ac_BadAmount ?xc_BadAmount ?xk_BadAmount ?xs_BadAmount ?xt_BadAmount ?ac_BadRate ?xc_BadRate ?xk_BadRate ?xs_BadRate ?xt_BadRate ?ac_BadDay ?xc_BadDay ?xk_BadDay ?xs_BadDay ?xt_BadDay ?ac_BadPay ?xc_BadPay ?xk_BadPay ?xs_BadPay ?xt_BadPay ?ac_Loan ?pg_Loan ?hd_Loan ?po_Loan ?sa_Loan ?mk_Loan ?kc_Loan ?nf_Loan_left ?nf_Loan_begun ?nf_Loan_day ?nf_Loan_rates ?sb_BadAmount_BadDay ?sb_BadAmount_BadPay ?sb_BadDay_BadDay ?sb_BadDay_BadPay ?sb_BadPay_BadDay ?sb_BadPay_BadPay ?sb_BadRate_BadDay ?sb_BadRate_BadPay ?dd_BadDay ?dd_BadPay ?at_need_rate ?lk_need_rate ?cd_need_rate_in ?kp_need_rate ?at_checked ?lk_checked ?cd_checked_in ?kp_checked ?at_grown ?lk_grown ?cd_grown_in ?kp_grown ?at_need_amount ?lk_need_amount ?cd_need_amount_in ?kp_need_amount ?at_Loan_init ?is_Loan_init ?lk_Loan_init ?cd_Loan_init_in ?kp_Loan_init ?at_Loan_stand ?is_Loan_stand ?lk_Loan_stand ?cd_Loan_stand_in ?kp_Loan_stand ?at_Loan_owed ?is_Loan_owed ?lk_Loan_owed ?cd_Loan_owed_in ?kp_Loan_owed ?at_Loan_pay ?is_Loan_pay ?lk_Loan_pay ?cd_Loan_pay_in ?kp_Loan_pay ?at_Loan_change ?is_Loan_change ?lk_Loan_change ?cd_Loan_change_in ?kp_Loan_change ?at_law_cell_at ?lk_law_cell_at ?cd_law_cell_at_in ?kp_law_cell_at ?at_law_whole ?lk_law_whole ?cd_law_whole_in ?kp_law_whole ?at_law_mixed ?lk_law_mixed ?cd_law_mixed_in ?kp_law_mixed ?at_law_rate_by ?lk_law_rate_by ?cd_law_rate_by_in ?kp_law_rate_by ?at_law_rate_of ?lk_law_rate_of ?cd_law_rate_of_in ?kp_law_rate_of ?at_law_amount_by ?lk_law_amount_by ?cd_law_amount_by_in ?kp_law_amount_by ?at_law_owed ?lk_law_owed ?cd_law_owed_in ?kp_law_owed ?at_law_parts ?lk_law_parts ?cd_law_parts_in ?kp_law_parts ?at_law_two ?lk_law_two ?cd_law_two_in ?kp_law_two ?at_law_walked ?lk_law_walked ?cd_law_walked_in ?kp_law_walked ?at_law_cents_by ?lk_law_cents_by ?cd_law_cents_by_in ?kp_law_cents_by ?at_law_pay ?lk_law_pay ?cd_law_pay_in ?kp_law_pay ?at_law_no_pay ?lk_law_no_pay ?cd_law_no_pay_in ?kp_law_no_pay ?at_law_change ?lk_law_change ?cd_law_change_in ?kp_law_change ?at_law_look ?lk_law_look ?cd_law_look_in ?kp_law_look ?at_law_deed ?lk_law_deed ?cd_law_deed_in ?kp_law_deed ?at_law_as_told ?lk_law_as_told ?cd_law_as_told_in ?kp_law_as_told ?at_law ?lk_law ?cd_law_in ?kp_law
    (case z_tuple => k_is)
    (case z_len => k_is)
    (case z_max => k_is)
    (case z_min => k_is)
    (case z_int => k_is)
    (case z_bool => k_is)
    (case z_list => k_is)
    (case z_range => k_is)
    (case z_isinstance => k_is)
    (case z_ValueError => k_is)
    (case q_MOST_DAY => k_is)
    (case q_MOST_RATE => k_is)
    (case q_MOST_AMOUNT => k_is)
    (case q_MILLION => k_is)
    (case ac_LoanError => k_is)
    (case xc_LoanError => k_exc)
    (case xk_LoanError => k_is)
    (case xs_LoanError => k_is)
    (case xt_LoanError => k_is)
    (case ac_BadAmount => k_is)
    (case xc_BadAmount => k_exc)
    (case xk_BadAmount => k_is)
    (case xs_BadAmount => k_is)
    (case xt_BadAmount => k_is)
    (case ac_BadRate => k_is)
    (case xc_BadRate => k_exc)
    (case xk_BadRate => k_is)
    (case xs_BadRate => k_is)
    (case xt_BadRate => k_is)
    (case ac_BadDay => k_is)
    (case xc_BadDay => k_exc)
    (case xk_BadDay => k_is)
    (case xs_BadDay => k_is)
    (case xt_BadDay => k_is)
    (case ac_BadPay => k_is)
    (case xc_BadPay => k_exc)
    (case xk_BadPay => k_is)
    (case xs_BadPay => k_is)
    (case xt_BadPay => k_is)
    (case ac_Loan => k_is)
    (case pg_Loan => k_is)
    (case hd_Loan => k_is)
    (case po_Loan => k_is)
    (case sa_Loan => k_is)
    (case mk_Loan => k_is)
    (case kc_Loan => k_is)
    (case nf_Loan_left => k_is)
    (case nf_Loan_begun => k_is)
    (case nf_Loan_day => k_is)
    (case nf_Loan_rates => k_is)
    (case sb_BadAmount_BadDay => first | k_is | rfl)
    (case sb_BadAmount_BadPay => first | k_is | rfl)
    (case sb_BadDay_BadDay => first | k_is | rfl)
    (case sb_BadDay_BadPay => first | k_is | rfl)
    (case sb_BadPay_BadDay => first | k_is | rfl)
    (case sb_BadPay_BadPay => first | k_is | rfl)
    (case sb_BadRate_BadDay => first | k_is | rfl)
    (case sb_BadRate_BadPay => first | k_is | rfl)
    (case dd_BadDay => k_is)
    (case dd_BadPay => k_is)
    (case at_need_rate => k_is)
    (case lk_need_rate => k_is)
    (case cd_need_rate_in => k_is)
    (case kp_need_rate => k_is)
    (case at_checked => k_is)
    (case lk_checked => k_is)
    (case cd_checked_in => k_is)
    (case kp_checked => k_is)
    (case at_grown => k_is)
    (case lk_grown => k_is)
    (case cd_grown_in => k_is)
    (case kp_grown => k_is)
    (case at_need_amount => k_is)
    (case lk_need_amount => k_is)
    (case cd_need_amount_in => k_is)
    (case kp_need_amount => k_is)
    (case at_Loan_init => k_is)
    (case is_Loan_init => k_is)
    (case lk_Loan_init => k_is)
    (case cd_Loan_init_in => k_is)
    (case kp_Loan_init => k_is)
    (case at_Loan_stand => k_is)
    (case is_Loan_stand => k_is)
    (case lk_Loan_stand => k_is)
    (case cd_Loan_stand_in => k_is)
    (case kp_Loan_stand => k_is)
    (case at_Loan_owed => k_is)
    (case is_Loan_owed => k_is)
    (case lk_Loan_owed => k_is)
    (case cd_Loan_owed_in => k_is)
    (case kp_Loan_owed => k_is)
    (case at_Loan_pay => k_is)
    (case is_Loan_pay => k_is)
    (case lk_Loan_pay => k_is)
    (case cd_Loan_pay_in => k_is)
    (case kp_Loan_pay => k_is)
    (case at_Loan_change => k_is)
    (case is_Loan_change => k_is)
    (case lk_Loan_change => k_is)
    (case cd_Loan_change_in => k_is)
    (case kp_Loan_change => k_is)
    (case at_law_cell_at => k_is)
    (case lk_law_cell_at => k_is)
    (case cd_law_cell_at_in => k_is)
    (case kp_law_cell_at => k_is)
    (case at_law_whole => k_is)
    (case lk_law_whole => k_is)
    (case cd_law_whole_in => k_is)
    (case kp_law_whole => k_is)
    (case at_law_mixed => k_is)
    (case lk_law_mixed => k_is)
    (case cd_law_mixed_in => k_is)
    (case kp_law_mixed => k_is)
    (case at_law_rate_by => k_is)
    (case lk_law_rate_by => k_is)
    (case cd_law_rate_by_in => k_is)
    (case kp_law_rate_by => k_is)
    (case at_law_rate_of => k_is)
    (case lk_law_rate_of => k_is)
    (case cd_law_rate_of_in => k_is)
    (case kp_law_rate_of => k_is)
    (case at_law_amount_by => k_is)
    (case lk_law_amount_by => k_is)
    (case cd_law_amount_by_in => k_is)
    (case kp_law_amount_by => k_is)
    (case at_law_owed => k_is)
    (case lk_law_owed => k_is)
    (case cd_law_owed_in => k_is)
    (case kp_law_owed => k_is)
    (case at_law_parts => k_is)
    (case lk_law_parts => k_is)
    (case cd_law_parts_in => k_is)
    (case kp_law_parts => k_is)
    (case at_law_two => k_is)
    (case lk_law_two => k_is)
    (case cd_law_two_in => k_is)
    (case kp_law_two => k_is)
    (case at_law_walked => k_is)
    (case lk_law_walked => k_is)
    (case cd_law_walked_in => k_is)
    (case kp_law_walked => k_is)
    (case at_law_cents_by => k_is)
    (case lk_law_cents_by => k_is)
    (case cd_law_cents_by_in => k_is)
    (case kp_law_cents_by => k_is)
    (case at_law_pay => k_is)
    (case lk_law_pay => k_is)
    (case cd_law_pay_in => k_is)
    (case kp_law_pay => k_is)
    (case at_law_no_pay => k_is)
    (case lk_law_no_pay => k_is)
    (case cd_law_no_pay_in => k_is)
    (case kp_law_no_pay => k_is)
    (case at_law_change => k_is)
    (case lk_law_change => k_is)
    (case cd_law_change_in => k_is)
    (case kp_law_change => k_is)
    (case at_law_look => k_is)
    (case lk_law_look => k_is)
    (case cd_law_look_in => k_is)
    (case kp_law_look => k_is)
    (case at_law_deed => k_is)
    (case lk_law_deed => k_is)
    (case cd_law_deed_in => k_is)
    (case kp_law_deed => k_is)
    (case at_law_as_told => k_is)
    (case lk_law_as_told => k_is)
    (case cd_law_as_told_in => k_is)
    (case kp_law_as_told => k_is)
    (case at_law => k_is)
    (case lk_law => k_is)
    (case cd_law_in => k_is)
    (case kp_law => k_is)
