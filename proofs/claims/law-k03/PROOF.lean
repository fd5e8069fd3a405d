import PyProof.Rows.All
import Wide.All
import OpenK.AllK
import Wide.FinOn
import HandS.ForMost
import HandS.Flow
import HandS.Wide
import HandS.IsInst
import HandS.Deep
import HandS.Style
import HandS.CallLocal
import HandS.ReplaceLit
import PySem.Challenge.RW_wholepackets_k03_whole_programs_come_bac
import HandS.Evl
import HandS.ReplaceList
import HandS.WideBits
import PyProof.ReprRoads
import HandS.Ends
import PyProof.Logic
import HandS.Replace
import PyProof.StrOps
import PyProof.StrReplace2
set_option Elab.async false
set_option linter.all false
set_option maxRecDepth 100000
set_option maxHeartbeats 4000000
namespace WP
open PySem PySem.Spec PyProof.Rows L2
def top (i : Nat) : Stmt := PySem.Challenge.pw_wholepackets_k03_whole_programs_come_bac.main.body.getD i (.Pass ⟨0, 0, 0, 0⟩)

/-! ### defs of the text -/
structure Has (K : PySem.W.Frag) (mg : Str → Option Value) (x : Str) (st : Stmt) (ps : List Str) : Prop where
  ex : ∃ f fd, Fun K x x st f fd ∧ mg x = some (.ref f) ∧ Binds K fd ps []
structure Ok (P : Program) (w : World) (K : PySem.W.Frag) (mg : Str → Option Value) (base : Heap) (k : Nat) (x : Str) (ps : List Str) (sp : Sp) : Prop where
  ex : ∃ f fd, FnOk P w K mg base CX0 k f fd ps sp ∧ mg x = some (.ref f) ∧ PySem.W.keepIn K (.ref f) = true ∧ Binds K fd ps []
section
variable {P : Program} {w : World} {K : PySem.W.Frag} {mg : Str → Option Value} {base : Heap}
theorem Ok.mono {j k : Nat} {x : Str} {ps : List Str} {sp : Sp} (o : Ok P w K mg base j x ps sp) (h : j ≤ k) : Ok P w K mg base k x ps sp := by
  obtain ⟨f, fd, G, r⟩ := o.ex
  exact ⟨f, fd, G.mono h, r⟩
theorem Ok.imp {k : Nat} {x : Str} {ps : List Str} {sp sp' : Sp} (o : Ok P w K mg base k x ps sp) (h : ∀ vs H Q E, sp' vs H Q E → sp vs H Q E) : Ok P w K mg base k x ps sp' := by
  obtain ⟨f, fd, G, r⟩ := o.ex
  exact ⟨f, fd, G.imp h, r⟩
theorem Has.ok {x : Str} {st : Stmt} {N ps : List Str} {k : Nat} {sp : Sp} (h : Has K mg x st ps) (S : FnScope N ps (defScope st)) (len : ∀ vs H Q E, sp vs H Q E → vs.length = ps.length)
    (hbody : ∀ (f : Addr) (cdv : Value) (A : Around) (outer : List Env) (s : Shared) (H : Hp) (vs : List V) (Q : VK) (E : XK), Room k (A.deeper (envOfC x (defScope st) s.heap.objs.size f cdv)) → sp vs H Q E →
      ∃ t, PSs (cxOf CX0 P w K mg base N x (defScope st) f cdv A outer s H E).nox (defBody st) t ∧ t { nx := fun _ H' => Q .non H', rt := Q } (start N vs) H) : Ok P w K mg base (k + 1) x ps sp := by
  obtain ⟨f, fd, F, m, b⟩ := h.ex
  exact ⟨f, fd, F.ok S len (fun cdv A outer s H vs Q E hr hs => hbody f cdv A outer s H vs Q E hr hs), m, F.kp, b⟩
/-- nothing is asked at level 0 -/
theorem Has.none {x : Str} {st : Stmt} {ps : List Str} {sp : Sp} (h : Has K mg x st ps) (no : ∀ vs H Q E, ¬ sp vs H Q E) : Ok P w K mg base 0 x ps sp := by
  obtain ⟨f, fd, F, m, b⟩ := h.ex
  exact ⟨f, fd, ⟨fun vs H Q E h => absurd h (no vs H Q E), fun A outer s H args us vs Q E _ _ _ _ h => absurd h (no vs H Q E)⟩, m, F.kp, b⟩
end
/-- the built-in names that the text leaves alone -/
structure Bt (mg : Str → Option Value) : Prop where
  len : mg "len" = none
  range : mg "range" = none
  str : mg "str" = none
  int : mg "int" = none
  min : mg "min" = none
  abs : mg "abs" = none
  list : mg "list" = none
  tuple : mg "tuple" = none
  bool : mg "bool" = none
  isinstance : mg "isinstance" = none
  repr : mg "repr" = none
  all : mg "all" = none
  enumerate : mg "enumerate" = none
  ord : mg "ord" = none

/-! ### heaps without some addresses -/
def Out (M : List Addr) (H : Hp) : Hp := fun b => if b ∈ M then none else H b
theorem out_none {M : List Addr} {H : Hp} {b : Addr} (h : b ∈ M) : Out M H b = none := if_pos h
theorem out_of {M : List Addr} {H : Hp} {b : Addr} (h : b ∉ M) : Out M H b = H b := if_neg h
theorem out_some {M : List Addr} {H : Hp} {b : Addr} {o : HO} (h : Out M H b = some o) : b ∉ M ∧ H b = some o := by
  by_cases hb : b ∈ M
  · rw [out_none hb] at h; cases h
  · rw [out_of hb] at h; exact ⟨hb, h⟩
theorem out_nil {H : Hp} : Out [] H = H := by funext b; exact out_of (by simp)
/-- all that was tracked outside M is as it was -/
def Kp (M : List Addr) (H H' : Hp) : Prop := ∀ b o, b ∉ M → H b = some o → H' b = some o
section
variable {M M' : List Addr} {H H' H1 H2 : Hp} {p l : Addr} {o : HO}
theorem Kp.refl : Kp M H H := fun _ _ _ h => h
theorem Kp.trans (a : Kp M H H1) (b : Kp M H1 H2) : Kp M H H2 := fun c o n h => b c o n (a c o n h)
theorem Kp.new (h : H p = none) : Kp M H (upd H p o) := fun b u _ e => by rw [upd_ne (ne_of_none e h)]; exact e
theorem Kp.wr (h : p ∈ M) : Kp M H (upd H p o) := fun b u n e => by
  have : b ≠ p := fun z => n (z ▸ h)
  rw [upd_ne this]; exact e
theorem Kp.more (k : Kp M H H') (s : ∀ b ∈ M, b ∈ M') : Kp M' H H' := fun b o n e => k b o (fun z => n (s b z)) e
theorem Kp.grow (k : Kp (l :: M) H H') (h : H l = none) : Kp M H H' := fun b o n e => k b o (by
  intro z
  rcases List.mem_cons.mp z with z | z
  · rw [z, h] at e; cases e
  · exact n z) e
theorem Kp.same (s : Same H H') : Kp M H H' := fun b o _ e => s b o e
theorem Kp.toSame (k : Kp [] H H') : Same H H' := fun b o e => k b o (by simp) e
theorem Kp.out (k : Kp M H H') : Same (Out M H) (Out M H') := fun b o e => by
  obtain ⟨n, e⟩ := out_some e
  rw [out_of n]; exact k b o n e
theorem same_out (s : ∀ b ∈ M, b ∈ M') : Same (Out M' H) (Out M H) := fun b o e => by
  obtain ⟨n, e⟩ := out_some e
  rw [out_of (fun z => n (s b z))]; exact e
theorem out_le : Same (Out M H) H := fun b o e => (out_some e).2
theorem Kp.free (k : Kp M H H') (h : H' l = none) (n : l ∉ M) : H l = none := by
  cases q : H l with
  | none => rfl
  | some o => rw [k l o n q] at h; cases h
theorem Same.new (h : H p = none) : Same H (upd H p o) := fun b u e => by rw [upd_ne (ne_of_none e h)]; exact e
end

/-! ### data -/
mutual
inductive At (H : Hp) : V → PyData → Prop
  | non : At H .non .none
  | int (i : Int) : At H (.int i) (.int i)
  | str (x : Str) : At H (.str x) (.str x)
  | lst {a : Addr} {xs : List V} {ds : List PyData} : H a = some (.lst xs) → AtL H xs ds → At H (.ref a) (.list ds)
  | tup {a : Addr} {xs : List V} {ds : List PyData} : H a = some (.tup xs) → AtL H xs ds → At H (.ref a) (.tuple ds)
inductive AtL (H : Hp) : List V → List PyData → Prop
  | nil : AtL H [] []
  | cons {v : V} {vs : List V} {d : PyData} {ds : List PyData} : At H v d → AtL H vs ds → AtL H (v :: vs) (d :: ds)
end
mutual
theorem At.mono {H H' : Hp} (e : Same H H') : ∀ {v : V} {d : PyData}, At H v d → At H' v d
  | _, _, .non => .non
  | _, _, .int i => .int i
  | _, _, .str x => .str x
  | _, _, .lst h k => .lst (e _ _ h) (AtL.mono e k)
  | _, _, .tup h k => .tup (e _ _ h) (AtL.mono e k)
theorem AtL.mono {H H' : Hp} (e : Same H H') : ∀ {vs : List V} {ds : List PyData}, AtL H vs ds → AtL H' vs ds
  | _, _, .nil => .nil
  | _, _, .cons h k => .cons (At.mono e h) (AtL.mono e k)
end
mutual
theorem At.dp {K : PySem.W.Frag} {H : Hp} : ∀ {v : V} {d : PyData}, At H v d → Dp K H v d
  | _, _, .non => .non
  | _, _, .int i => .int i
  | _, _, .str x => .str x
  | _, _, .lst h k => .lst (SqL.of h) (AtL.dp k)
  | _, _, .tup h k => .tup (SqT.of h) (AtL.dp k)
theorem AtL.dp {K : PySem.W.Frag} {H : Hp} : ∀ {vs : List V} {ds : List PyData}, AtL H vs ds → DpAll K H vs ds
  | _, _, .nil => .nil
  | _, _, .cons h k => .cons (At.dp h) (AtL.dp k)
end
section
variable {H H' : Hp} {v : V} {d d1 d2 d3 d4 d5 d6 d7 d8 d9 : PyData} {ds es : List PyData} {vs us : List V} {s : Str} {i : Int}
theorem At.str_inv (h : At H v (.str s)) : v = .str s := by cases h; rfl
theorem At.int_inv (h : At H v (.int i)) : v = .int i := by cases h; rfl
theorem At.non_inv (h : At H v .none) : v = .non := by cases h; rfl
theorem At.lst_inv (h : At H v (.list ds)) : ∃ a xs, v = .ref a ∧ H a = some (.lst xs) ∧ AtL H xs ds := by cases h with | lst h k => exact ⟨_, _, rfl, h, k⟩
theorem At.tup_inv (h : At H v (.tuple ds)) : ∃ a xs, v = .ref a ∧ H a = some (.tup xs) ∧ AtL H xs ds := by cases h with | tup h k => exact ⟨_, _, rfl, h, k⟩
theorem AtL.cons_inv (h : AtL H vs (d :: ds)) : ∃ x xs, vs = x :: xs ∧ At H x d ∧ AtL H xs ds := by cases h with | cons a b => exact ⟨_, _, rfl, a, b⟩
theorem AtL.nil_inv (h : AtL H vs []) : vs = [] := by cases h; rfl
theorem At.t1 (h : At H v (.tuple [d1])) : ∃ a x1, v = .ref a ∧ H a = some (.tup [x1]) ∧ At H x1 d1 := by
  obtain ⟨a, xs, rfl, ha, k⟩ := h.tup_inv
  cases k with | cons h1 k => cases k; exact ⟨a, _, rfl, ha, h1⟩
theorem At.t2 (h : At H v (.tuple [d1, d2])) : ∃ a x1 x2, v = .ref a ∧ H a = some (.tup [x1, x2]) ∧ At H x1 d1 ∧ At H x2 d2 := by
  obtain ⟨a, xs, rfl, ha, k⟩ := h.tup_inv
  cases k with | cons h1 k => cases k with | cons h2 k => cases k; exact ⟨a, _, _, rfl, ha, h1, h2⟩
theorem At.t3 (h : At H v (.tuple [d1, d2, d3])) : ∃ a x1 x2 x3, v = .ref a ∧ H a = some (.tup [x1, x2, x3]) ∧ At H x1 d1 ∧ At H x2 d2 ∧ At H x3 d3 := by
  obtain ⟨a, xs, rfl, ha, k⟩ := h.tup_inv
  cases k with | cons h1 k => cases k with | cons h2 k => cases k with | cons h3 k => cases k; exact ⟨a, _, _, _, rfl, ha, h1, h2, h3⟩
theorem At.t4 (h : At H v (.tuple [d1, d2, d3, d4])) : ∃ a x1 x2 x3 x4, v = .ref a ∧ H a = some (.tup [x1, x2, x3, x4]) ∧ At H x1 d1 ∧ At H x2 d2 ∧ At H x3 d3 ∧ At H x4 d4 := by
  obtain ⟨a, xs, rfl, ha, k⟩ := h.tup_inv
  cases k with | cons h1 k => cases k with | cons h2 k => cases k with | cons h3 k => cases k with | cons h4 k => cases k; exact ⟨a, _, _, _, _, rfl, ha, h1, h2, h3, h4⟩
theorem At.t6 (h : At H v (.tuple [d1, d2, d3, d4, d5, d6])) : ∃ a x1 x2 x3 x4 x5 x6, v = .ref a ∧ H a = some (.tup [x1, x2, x3, x4, x5, x6]) ∧ At H x1 d1 ∧ At H x2 d2 ∧ At H x3 d3 ∧ At H x4 d4 ∧ At H x5 d5 ∧ At H x6 d6 := by
  obtain ⟨a, xs, rfl, ha, k⟩ := h.tup_inv
  cases k with | cons h1 k => cases k with | cons h2 k => cases k with | cons h3 k => cases k with | cons h4 k => cases k with | cons h5 k => cases k with | cons h6 k => cases k; exact ⟨a, _, _, _, _, _, _, rfl, ha, h1, h2, h3, h4, h5, h6⟩
theorem At.t9 (h : At H v (.tuple [d1, d2, d3, d4, d5, d6, d7, d8, d9])) : ∃ a x1 x2 x3 x4 x5 x6 x7 x8 x9, v = .ref a ∧ H a = some (.tup [x1, x2, x3, x4, x5, x6, x7, x8, x9]) ∧ At H x1 d1 ∧ At H x2 d2 ∧ At H x3 d3 ∧ At H x4 d4 ∧ At H x5 d5 ∧ At H x6 d6 ∧ At H x7 d7 ∧ At H x8 d8 ∧ At H x9 d9 := by
  obtain ⟨a, xs, rfl, ha, k⟩ := h.tup_inv
  cases k with | cons h1 k => cases k with | cons h2 k => cases k with | cons h3 k => cases k with | cons h4 k => cases k with | cons h5 k => cases k with | cons h6 k => cases k with | cons h7 k => cases k with | cons h8 k => cases k with | cons h9 k => cases k; exact ⟨a, _, _, _, _, _, _, _, _, _, rfl, ha, h1, h2, h3, h4, h5, h6, h7, h8, h9⟩
theorem AtL.len : ∀ {vs : List V} {ds : List PyData}, AtL H vs ds → vs.length = ds.length
  | _, _, .nil => rfl
  | _, _, .cons _ k => congrArg (· + 1) k.len
theorem AtL.get : ∀ {vs : List V} {ds : List PyData} {i : Nat} {x : V}, AtL H vs ds → vs[i]? = some x → ∃ d, ds[i]? = some d ∧ At H x d
  | _, _, _, _, .nil, e => by simp at e
  | _, _, 0, _, .cons h _, e => by simp at e; subst e; exact ⟨_, rfl, h⟩
  | _, _, i + 1, x, .cons _ k, e => by
    obtain ⟨d, h1, h2⟩ := AtL.get (i := i) (x := x) k (by simpa using e)
    exact ⟨d, by simpa using h1, h2⟩
theorem AtL.getD : ∀ {vs : List V} {ds : List PyData} {i : Nat} {d : PyData}, AtL H vs ds → ds[i]? = some d → ∃ x, vs[i]? = some x ∧ At H x d
  | _, _, _, _, .nil, e => by simp at e
  | _, _, 0, _, .cons h _, e => by simp at e; subst e; exact ⟨_, rfl, h⟩
  | _, _, i + 1, d, .cons _ k, e => by
    obtain ⟨x, h1, h2⟩ := AtL.getD (i := i) (d := d) k (by simpa using e)
    exact ⟨x, by simpa using h1, h2⟩
theorem AtL.append : ∀ {vs us : List V} {ds es : List PyData}, AtL H vs ds → AtL H us es → AtL H (vs ++ us) (ds ++ es)
  | _, _, _, _, .nil, s => s
  | _, _, _, _, .cons r t, s => .cons r (AtL.append t s)
theorem AtL.snoc (h : AtL H vs ds) (k : At H v d) : AtL H (vs ++ [v]) (ds ++ [d]) := h.append (.cons k .nil)
theorem AtL.drop : ∀ (n : Nat) {vs : List V} {ds : List PyData}, AtL H vs ds → AtL H (vs.drop n) (ds.drop n)
  | 0, _, _, h => h
  | _ + 1, _, _, .nil => .nil
  | n + 1, _, _, .cons _ k => AtL.drop n k
theorem AtL.take : ∀ (n : Nat) {vs : List V} {ds : List PyData}, AtL H vs ds → AtL H (vs.take n) (ds.take n)
  | 0, _, _, _ => .nil
  | _ + 1, _, _, .nil => .nil
  | n + 1, _, _, .cons h k => .cons h (AtL.take n k)
theorem AtL.strs : ∀ {ss : List Str}, AtL H (ss.map V.str) (ss.map PyData.str)
  | [] => .nil
  | x :: ss => .cons (.str x) AtL.strs
theorem AtL.strs_inv : ∀ {ss : List Str} {vs : List V}, AtL H vs (ss.map PyData.str) → vs = ss.map V.str
  | [], _, h => h.nil_inv
  | x :: ss, _, h => by
    obtain ⟨y, ys, rfl, h1, h2⟩ := AtL.cons_inv h
    rw [h1.str_inv, AtL.strs_inv h2]; rfl
theorem AtL.ints : ∀ {ns : List Int}, AtL H (ns.map V.int) (ns.map PyData.int)
  | [] => .nil
  | x :: ss => .cons (.int x) AtL.ints
theorem AtL.ints_inv : ∀ {ss : List Int} {vs : List V}, AtL H vs (ss.map PyData.int) → vs = ss.map V.int
  | [], _, h => h.nil_inv
  | x :: ss, _, h => by
    obtain ⟨y, ys, rfl, h1, h2⟩ := AtL.cons_inv h
    rw [h1.int_inv, AtL.ints_inv h2]; rfl
end
theorem AtL.getM {α : Type} {H : Hp} {f : α → PyData} {xs : List α} {vs : List V} {i : Nat} {x : V} (h : AtL H vs (xs.map f)) (e : vs[i]? = some x) : ∃ y, xs[i]? = some y ∧ At H x (f y) := by
  obtain ⟨d, h1, h2⟩ := h.get e
  rw [List.getElem?_map] at h1
  cases q : xs[i]? with
  | none => rw [q] at h1; cases h1
  | some y => rw [q] at h1; cases h1; exact ⟨y, rfl, h2⟩
theorem AtL.getMD {α : Type} {H : Hp} {f : α → PyData} {xs : List α} {vs : List V} {i : Nat} {y : α} (h : AtL H vs (xs.map f)) (e : xs[i]? = some y) : ∃ x, vs[i]? = some x ∧ At H x (f y) :=
  h.getD (by rw [List.getElem?_map, e]; rfl)
/-- a place that is not open -/
theorem at0 {α : Type} {x : α} {r : List α} : atI (x :: r) (0 : Int) = some x := atI_nat (xs := x :: r) (j := 0) rfl
theorem at1 {α : Type} {x y : α} {r : List α} : atI (x :: y :: r) (1 : Int) = some y := atI_nat (xs := x :: y :: r) (j := 1) rfl
theorem at2 {α : Type} {x y z : α} {r : List α} : atI (x :: y :: z :: r) (2 : Int) = some z := atI_nat (xs := x :: y :: z :: r) (j := 2) rfl
theorem at3 {α : Type} {x y z u : α} {r : List α} : atI (x :: y :: z :: u :: r) (3 : Int) = some u := atI_nat (xs := x :: y :: z :: u :: r) (j := 3) rfl
theorem at4 {α : Type} {x y z u t : α} {r : List α} : atI (x :: y :: z :: u :: t :: r) (4 : Int) = some t := atI_nat (xs := x :: y :: z :: u :: t :: r) (j := 4) rfl
theorem at5 {α : Type} {x y z u t a : α} {r : List α} : atI (x :: y :: z :: u :: t :: a :: r) (5 : Int) = some a := atI_nat (xs := x :: y :: z :: u :: t :: a :: r) (j := 5) rfl
theorem at6 {α : Type} {x y z u t a b : α} {r : List α} : atI (x :: y :: z :: u :: t :: a :: b :: r) (6 : Int) = some b := atI_nat (xs := x :: y :: z :: u :: t :: a :: b :: r) (j := 6) rfl
theorem at7 {α : Type} {x y z u t a b c : α} {r : List α} : atI (x :: y :: z :: u :: t :: a :: b :: c :: r) (7 : Int) = some c := atI_nat (xs := x :: y :: z :: u :: t :: a :: b :: c :: r) (j := 7) rfl
theorem at8 {α : Type} {x y z u t a b c d : α} {r : List α} : atI (x :: y :: z :: u :: t :: a :: b :: c :: d :: r) (8 : Int) = some d := atI_nat (xs := x :: y :: z :: u :: t :: a :: b :: c :: d :: r) (j := 8) rfl
theorem sz {n : Nat} (h : n ≤ 16777216) : n ≤ sizeLine := by rw [sizeLine_eq]; exact h
theorem szl {n : Nat} (h : n < 16777216) : n < sizeLine := by rw [sizeLine_eq]; exact h
end WP
namespace WP
open PySem PySem.Spec PyProof.Rows L2 TL
/-! ### the data -/
abbrev Fld := Str × Str
abbrev Par := Str × Int
inductive Bop | add | sub | and | or | xor
def Bop.s : Bop → Str
  | .add => "+" | .sub => "-" | .and => "&" | .or => "|" | .xor => "^"
inductive Kd | exact | mask | pfx
def Kd.s : Kd → Str
  | .exact => "exact" | .mask => "mask" | .pfx => "prefix"
def cmpS : Bool → Str
  | true => "==" | false => "<"
inductive Opd
  | num (n : Int) | par (s : Str) | fld (o n : Str)
inductive Exp
  | one (a : Opd) | bin (op : Bop) (a b : Opd)
inductive Opn
  | set (f : Fld) (e : Exp) | send (e : Exp) | drop | add (h : Str) | rem (h : Str)
abbrev Row := Int × Option Int × Str
inductive Nxt
  | go (t : Str) | sel (f : Fld) (rows : List Row) (other : Str)
structure Sta where
  name : Str
  hdr : Option Str
  nxt : Nxt
structure Act where
  name : Str
  params : List Par
  ops : List Opn
structure Tab where
  name : Str
  keys : List (Fld × Kd)
  uses : List Str
  dflt : Str
  args : List Int
  size : Int
inductive Tst
  | nt (t : Tst) | valid (h : Str) | cmp (sg : Bool) (f : Fld) (n : Int)
/-- a list of statements -/
inductive Blk
  | nil | app (t : Str) (r : Blk) | ifs (t : Tst) (a b r : Blk)
abbrev Hdr := Str × List Par
structure Prg where
  name : Str
  hdrs : List Hdr
  meta' : List Par
  stas : List Sta
  acts : List Act
  tabs : List Tab
  ctl : Blk
  emits : List Str

/-! ### as Python has it -/
def ePar (p : Par) : PyData := .tuple [.str p.1, .int p.2]
def eHdr (h : Hdr) : PyData := .tuple [.str "header", .str h.1, .list (h.2.map ePar)]
def eFld (f : Fld) : PyData := .tuple [.str f.1, .str f.2]
def eOpd : Opd → PyData
  | .num n => .tuple [.str "num", .int n]
  | .par s => .tuple [.str "param", .str s]
  | .fld o n => .tuple [.str "field", .str o, .str n]
def eExp : Exp → PyData
  | .one a => eOpd a
  | .bin op a b => .tuple [.str op.s, eOpd a, eOpd b]
def eOpn : Opn → PyData
  | .set f e => .tuple [.str "set", eFld f, eExp e]
  | .send e => .tuple [.str "send", eExp e]
  | .drop => .tuple [.str "drop"]
  | .add h => .tuple [.str "add", .str h]
  | .rem h => .tuple [.str "remove", .str h]
def eON : Option Str → PyData
  | none => .none
  | some s => .str s
def eOI : Option Int → PyData
  | none => .none
  | some s => .int s
def eRow (r : Row) : PyData := .tuple [.int r.1, eOI r.2.1, .str r.2.2]
def eNxt : Nxt → PyData
  | .go t => .tuple [.str "go", .str t]
  | .sel f rows o => .tuple [.str "select", eFld f, .list (rows.map eRow), .str o]
def eSta (s : Sta) : PyData := .tuple [.str "state", .str s.name, eON s.hdr, eNxt s.nxt]
def eAct (a : Act) : PyData := .tuple [.str "action", .str a.name, .list (a.params.map ePar), .list (a.ops.map eOpn)]
def eKey (k : Fld × Kd) : PyData := .tuple [eFld k.1, .str k.2.s]
def eTab (t : Tab) : PyData := .tuple [.str "table", .str t.name, .list (t.keys.map eKey), .list (t.uses.map .str), .tuple [.str t.dflt, .list (t.args.map .int)], .int t.size]
def eTst : Tst → PyData
  | .nt t => .tuple [.str "not", eTst t]
  | .valid h => .tuple [.str "valid", .str h]
  | .cmp sg f n => .tuple [.str (cmpS sg), eFld f, .int n]
def eB : Blk → List PyData
  | .nil => []
  | .app t r => .tuple [.str "apply", .str t] :: eB r
  | .ifs t a b r => .tuple [.str "if", eTst t, .list (eB a), .list (eB b)] :: eB r
def ePrg (p : Prg) : PyData := .tuple [.str "program", .str p.name, .list (p.hdrs.map eHdr), .list (p.meta'.map ePar), .list (p.stas.map eSta), .list (p.acts.map eAct), .list (p.tabs.map eTab), .list (eB p.ctl), .list (p.emits.map .str)]

/-! ### as a text -/
def sI (n : Int) : Str := (toString n : String)
def xFld (f : Fld) : Str := f.1 ++ "." ++ f.2
def xOpd : Opd → Str
  | .num n => sI n
  | .par s => s
  | .fld o n => o ++ "." ++ n
def xExp : Exp → Str
  | .one a => xOpd a
  | .bin op a b => xOpd a ++ " " ++ op.s ++ " " ++ xOpd b
def xOpn : Opn → Str
  | .set f e => xFld f ++ " = " ++ xExp e
  | .send e => "send " ++ xExp e
  | .drop => "drop"
  | .add h => "add" ++ " " ++ h
  | .rem h => "remove" ++ " " ++ h
def lPar (p : Par) : Str := "  " ++ p.1 ++ ": " ++ sI p.2 ++ ";"
def lHdr (h : Hdr) : List Str := ["header " ++ h.1 ++ " {"] ++ h.2.map lPar ++ [("}" : Str)]
def lMeta (m : List Par) : List Str := if m = [] then [] else [("meta {" : Str)] ++ m.map lPar ++ [("}" : Str)]
def xVal (v : Int) : Option Int → Str
  | none => sI v
  | some m => sI v ++ " & " ++ sI m
def lRow (r : Row) : Str := "      " ++ xVal r.1 r.2.1 ++ " -> " ++ r.2.2 ++ ";"
def lNxt : Nxt → List Str
  | .go t => ["    go " ++ t ++ ";"]
  | .sel f rows o => ["    select " ++ xFld f ++ " {"] ++ rows.map lRow ++ ["      else -> " ++ o ++ ";", ("    }" : Str)]
def lExt : Option Str → List Str
  | none => []
  | some h => ["    extract " ++ h ++ ";"]
def lSta (s : Sta) : List Str := ["  state " ++ s.name ++ " {"] ++ lExt s.hdr ++ lNxt s.nxt ++ [("  }" : Str)]
def xPar (p : Par) : Str := p.1 ++ ": " ++ sI p.2
def lOpn (o : Opn) : Str := "  " ++ xOpn o ++ ";"
def lAct (a : Act) : List Str := ["action " ++ a.name ++ "(" ++ Str.join ", " (a.params.map xPar) ++ ") {"] ++ a.ops.map lOpn ++ [("}" : Str)]
def lKey (k : Fld × Kd) : Str := "  key " ++ xFld k.1 ++ " " ++ k.2.s ++ ";"
def lUse (u : Str) : Str := "  use " ++ u ++ ";"
def lTab (t : Tab) : List Str := ["table " ++ t.name ++ " {"] ++ t.keys.map lKey ++ t.uses.map lUse ++ ["  default " ++ t.dflt ++ "(" ++ Str.join ", " (t.args.map sI) ++ ");", "  size " ++ sI t.size ++ ";", ("}" : Str)]
def xTst : Tst → Str
  | .nt t => "not " ++ xTst t
  | .valid h => "valid " ++ h
  | .cmp sg f n => xFld f ++ " " ++ cmpS sg ++ " " ++ sI n
/-- nothing, or the else's lines -/
def lElse (ind : Str) : List Str → Bool → List Str
  | ls, true => [ind ++ "} else {"] ++ ls
  | _, false => []
def Blk.some : Blk → Bool
  | .nil => false
  | _ => true
def lB (ind : Str) : Blk → List Str
  | .nil => []
  | .app t r => (ind ++ "apply " ++ t ++ ";") :: lB ind r
  | .ifs t a b r => ([ind ++ "if " ++ xTst t ++ " {"] ++ lB (ind ++ "  ") a ++ lElse ind (lB (ind ++ "  ") b) b.some ++ [ind ++ "}"]) ++ lB ind r
def lEmit (e : List Str) : List Str := if e = [] then [] else ["emit " ++ Str.join ", " e ++ ";"]
def lPrg (p : Prg) : List Str := ["program " ++ p.name] ++ (p.hdrs.map lHdr).flatten ++ lMeta p.meta' ++ [("parser {" : Str)] ++ (p.stas.map lSta).flatten ++ [("}" : Str)] ++ (p.acts.map lAct).flatten ++ (p.tabs.map lTab).flatten ++ [("control {" : Str)] ++ lB "  " p.ctl ++ [("}" : Str)] ++ lEmit p.emits

/-! ### what holds of the parts -/
def RES : List Str := ["accept", "action", "add", "apply", "control", "default", "drop", "else", "emit", "exact", "extract", "go", "header", "if", "key", "mask", "meta", "not", "packet", "parser", "prefix", "program", "reject", "remove", "select", "send", "size", "state", "table", "use", "valid"]
def isLet (c : Nat) : Bool := (97 ≤ c && c ≤ 122) || (65 ≤ c && c ≤ 90)
def isDig (c : Nat) : Bool := 48 ≤ c && c ≤ 57
def isRun (c : Nat) : Bool := isLet c || isDig c || c == 95
/-- a name -/
structure Nm (s : Str) : Prop where
  hd : ∃ c r, tl s = c :: r ∧ isLet c = true
  run : ∀ c ∈ tl s, isRun c = true
  len : s.length ≤ 16
  res : s ∉ RES
def Nu (n : Int) : Prop := 0 ≤ n ∧ n ≤ 4294967295
def Own (o : Str) : Prop := o = "meta" ∨ o = "packet" ∨ Nm o
def Tgt (t : Str) : Prop := t = "accept" ∨ t = "reject" ∨ Nm t
def wPar (p : Par) : Prop := Nm p.1 ∧ Nu p.2
def wFld (f : Fld) : Prop := Own f.1 ∧ Nm f.2
def Few {α : Type} (w : α → Prop) (l : List α) : Prop := l.length ≤ 16 ∧ ∀ x ∈ l, w x
def wHdr (h : Hdr) : Prop := Nm h.1 ∧ Few wPar h.2
def wOpd : Opd → Prop
  | .num n => Nu n
  | .par s => Nm s
  | .fld o n => Own o ∧ Nm n
def wExp : Exp → Prop
  | .one a => wOpd a
  | .bin _ a b => wOpd a ∧ wOpd b
def wOpn : Opn → Prop
  | .set f e => wFld f ∧ wExp e
  | .send e => wExp e
  | .drop => True
  | .add h => Nm h
  | .rem h => Nm h
def wRow (r : Row) : Prop := Nu r.1 ∧ (∀ m, r.2.1 = some m → Nu m) ∧ Tgt r.2.2
def wNxt : Nxt → Prop
  | .go t => Tgt t
  | .sel f rows o => wFld f ∧ Few wRow rows ∧ Tgt o
def wSta (s : Sta) : Prop := Nm s.name ∧ (∀ h, s.hdr = some h → Nm h) ∧ wNxt s.nxt
def wAct (a : Act) : Prop := Nm a.name ∧ Few wPar a.params ∧ Few wOpn a.ops
def wKey (k : Fld × Kd) : Prop := wFld k.1
def wTab (t : Tab) : Prop := Nm t.name ∧ Few wKey t.keys ∧ Few Nm t.uses ∧ Nm t.dflt ∧ Few Nu t.args ∧ Nu t.size
/-- of at most n nots -/
def wTst : Nat → Tst → Prop
  | n, .nt t => ∃ m, n = m + 1 ∧ wTst m t
  | _, .valid h => Nm h
  | _, .cmp _ f n => wFld f ∧ Nu n
def Blk.count : Blk → Nat
  | .nil => 0
  | .app _ r => 1 + r.count
  | .ifs _ a b r => 1 + a.count + b.count + r.count
/-- blocks nested at most n deep, this one counted out -/
def wB : Nat → Blk → Prop
  | _, .nil => True
  | n, .app t r => Nm t ∧ wB n r
  | n, .ifs t a b r => wTst 8 t ∧ (∃ m, n = m + 1 ∧ wB m a ∧ wB m b) ∧ wB n r
structure wPrg (p : Prg) : Prop where
  name : Nm p.name
  hdrs : Few wHdr p.hdrs
  meta' : Few wPar p.meta'
  stas : Few wSta p.stas
  acts : Few wAct p.acts
  tabs : Few wTab p.tabs
  ctl : wB 7 p.ctl
  cnt : p.ctl.count ≤ 16
  emits : Few Nm p.emits

/-! ### lengths -/
theorem sI_len {n : Int} (h : Nu n) : (sI n).length ≤ 10 := by
  obtain ⟨h0, h1⟩ := h
  obtain ⟨k, rfl⟩ := Int.eq_ofNat_of_zero_le h0
  rw [len_tl]
  show (tl (Str.ofString (toString ((k : Nat) : Int)))).length ≤ 10
  rw [tl_num]
  exact numL_len (by decide) (by show k < 10000000000; omega)
theorem sI_log {n : Int} (h : Nu n) : n.natAbs.log2 < 1920 := by
  obtain ⟨h0, h1⟩ := h
  have h2 : n.natAbs < 2 ^ 33 := by omega
  by_cases hz : n.natAbs = 0
  · rw [hz]; decide
  · exact Nat.lt_of_lt_of_le ((Nat.log2_lt hz).mpr h2) (by decide)
theorem lit_len (s : String) : (Str.ofString s).length = s.toList.length := by
  rw [len_tl, tl_ofString, List.length_map]
theorem Own.len {o : Str} (h : Own o) : o.length ≤ 16 := by
  rcases h with rfl | rfl | h
  · decide +kernel
  · decide +kernel
  · exact h.len
theorem Tgt.len {o : Str} (h : Tgt o) : o.length ≤ 16 := by
  rcases h with rfl | rfl | h
  · decide +kernel
  · decide +kernel
  · exact h.len
theorem Bop.len (b : Bop) : b.s.length ≤ 1 := by cases b <;> decide +kernel
theorem Kd.len (b : Kd) : b.s.length ≤ 6 := by cases b <;> decide +kernel
theorem cmpS_len (b : Bool) : (cmpS b).length ≤ 2 := by cases b <;> decide +kernel
theorem al (a b : Str) : (a ++ b).length = a.length + b.length := PySem.Str.length_append a b
end WP
namespace WP
open PySem PySem.Spec PyProof.Rows L2 TL
/-! ### rules whose new heap is a letter -/
def tTupS (t : TA) : TE := fun σ H Q => t σ H fun xs H1 => xs.length ≤ sizeLine ∧ ∀ p H2, H1 p = none → Same H1 H2 → H2 p = some (.tup xs) → Q (.ref p) H2
def tLstS (t : TA) : TE := fun σ H Q => t σ H fun xs H1 => xs.length ≤ sizeLine ∧ ∀ p H2, H1 p = none → Same H1 H2 → H2 p = some (.lst xs) → Q (.ref p) H2
section
variable {X : Cx} {e : Expr} {es : List Expr} {te : TE} {t : TA} {pos : Pos}
theorem pe_tupS {x1} (h : PA X es t) : PE X (.Tuple es x1 pos) (tTupS t) := by
  refine ⟨fun pins s σ H Q I hq => ?_⟩
  refine wpAny_Tuple_spliced (thn (h.run pos pins s σ H _ I hq) fun us s1 ⟨xs, H1, I1, r, z, q⟩ => ⟨by rw [← r.length]; exact z, ?_⟩)
  have hf : H1 s1.heap.objs.size = none := I1.hok.fresh (Nat.le_refl _)
  refine ⟨.ref s1.heap.objs.size, upd H1 s1.heap.objs.size (.tup xs), I1.laid (t' := s1.toks) (fun b u e => Heap.get?_push_of_some _ e) (Nat.le_refl _) ?_, rfl, q _ _ hf (Same.new hf) upd_same⟩
  exact ⟨z, us, r, ⟨_, Heap.get?_push_size _ rfl, rfl, _, rfl⟩⟩
theorem pe_lstS (h : PA X es t) : PE X (.List es pos) (tLstS t) := by
  refine ⟨fun pins s σ H Q I hq => ?_⟩
  refine wpAny_List_spliced (thn (h.run pos pins s σ H _ I hq) fun us s1 ⟨xs, H1, I1, r, z, q⟩ => ⟨by rw [← r.length]; exact z, ?_⟩)
  have hf : H1 s1.heap.objs.size = none := I1.hok.fresh (Nat.le_refl _)
  refine ⟨.ref s1.heap.objs.size, upd H1 s1.heap.objs.size (.lst xs), I1.laid (t' := s1.toks) (fun b u e => Heap.get?_push_of_some _ e) (Nat.le_refl _) ?_, rfl, q _ _ hf (Same.new hf) upd_same⟩
  exact ⟨z, us, 0, r, Heap.get?_push_size _ rfl⟩
def rCatS : R2 := fun x y H Q => ∃ l b xs zs, x = .ref l ∧ y = .ref b ∧ H l = some (.lst xs) ∧ H b = some (.lst zs) ∧ xs.length + zs.length ≤ sizeLine ∧ ∀ p H2, H p = none → Same H H2 → H2 p = some (.lst (xs ++ zs)) → Q (.ref p) H2
theorem op_catS : OpR X (binaryOp .Add) rCatS := by
  intro pins s σ H x y v u Q I rx ry h
  obtain ⟨l, b, xs, zs, e1, e2, h1, h2, hz, q⟩ := h
  exact op_cat pins s σ H x y v u Q I rx ry ⟨l, b, xs, zs, e1, e2, h1, h2, hz, fun p hp => q p _ hp (Same.new hp) upd_same⟩
def rSlLS : V → Option Int → Option Int → Hp → VK → Prop := fun x lo hi H Q => ∃ a xs, x = .ref a ∧ H a = some (.lst xs) ∧ ∀ p H2, H p = none → Same H H2 → H2 p = some (.lst (cutV xs lo hi)) → Q (.ref p) H2
theorem sl_listS : SlR X rSlLS := by
  intro pins s σ H x v sl vl vu lo hi Q I rx h1 h2 h3 h
  obtain ⟨a, xs, e1, h4, q⟩ := h
  exact sl_list pins s σ H x v sl vl vu lo hi Q I rx h1 h2 h3 ⟨a, xs, e1, SqL.of h4, fun p hp => q p _ hp (Same.new hp) upd_same⟩
theorem call_list_ofS : CallR X (.type "list") (fun xs H Q => ∃ p ys, xs = [.ref p] ∧ H p = some (.lst ys) ∧ ∀ l H2, H l = none → Same H H2 → H2 l = some (.lst ys) → Q (.ref l) H2) := by
  intro pins s σ H xs us Q I r h
  obtain ⟨p, ys, e1, h1, q⟩ := h
  exact call_list_of pins s σ H xs us Q I r ⟨p, ys, e1, .inl (SqL.of h1), fun l hl => q l _ hl (Same.new hl) upd_same⟩
def rAppendS : V → List V → Hp → VK → Prop := fun x vs H Q => ∃ l xs y, x = .ref l ∧ vs = [y] ∧ H l = some (.lst xs) ∧ xs.length < sizeLine ∧ ∀ H2, Kp [l] H H2 → H2 l = some (.lst (xs ++ [y])) → Q .non H2
theorem mt_appendS : MtM X "list.append" rAppendS := by
  intro pins s σ H x vs v us Q I rx rv h
  obtain ⟨l, xs, y, e1, e2, h1, hz, q⟩ := h
  exact mt_append pins s σ H x vs v us Q I rx rv ⟨l, xs, y, e1, e2, h1, hz, q _ (Kp.wr (by simp)) upd_same⟩
def rExtendS : V → List V → Hp → VK → Prop := fun x vs H Q => ∃ l b xs zs, x = .ref l ∧ vs = [.ref b] ∧ H l = some (.lst xs) ∧ H b = some (.lst zs) ∧ xs.length + zs.length ≤ sizeLine ∧ ∀ H2, Kp [l] H H2 → H2 l = some (.lst (xs ++ zs)) → Q .non H2
theorem mt_extendS : MtM X "list.extend" rExtendS := by
  intro pins s σ H x vs v us Q I rx rv h
  obtain ⟨l, b, xs, zs, e1, e2, h1, h2, hz, q⟩ := h
  exact mt_extend pins s σ H x vs v us Q I rx rv ⟨l, b, xs, zs, e1, e2, h1, h2, hz, q _ (Kp.wr (by simp)) upd_same⟩
/-- pop of a place that is there -/
def rPopAtS : V → List V → Hp → VK → Prop := fun x vs H Q => ∃ l xs k y, x = .ref l ∧ vs = [.int ((k : Nat) : Int)] ∧ H l = some (.lst xs) ∧ xs.length ≤ 1000 ∧ xs[k]? = some y ∧ ∀ H2, Kp [l] H H2 → H2 l = some (.lst (xs.eraseIdx k)) → Q y H2
theorem mt_popAtS : MtM X "list.pop" rPopAtS := by
  intro pins s σ H x vs v us Q I rx rv h
  obtain ⟨l, xs, k, y, e1, e2, h1, hz, hk, q⟩ := h
  have hlt := (List.getElem?_eq_some_iff.mp hk).1
  exact mt_popAt pins s σ H x vs v us Q I rx rv ⟨l, xs, k, k, y, e1, e2, h1, by omega, by omega, PySem.StrLaws.seqIndex_nonneg (by omega) (by omega), hk, q _ (Kp.wr (by simp)) upd_same⟩
def rSetLS : V → V → V → Hp → (Hp → Prop) → Prop := fun o i v H Q => ∃ p xs k, o = .ref p ∧ i = .int ((k : Nat) : Int) ∧ H p = some (.lst xs) ∧ k < xs.length ∧ ∀ H2, Kp [p] H H2 → H2 p = some (.lst (xs.set k v)) → Q H2
theorem set_listS : PSet X rSetLS := by
  intro pins s σ H o i v ov iv u Q I r1 r2 r3 h
  obtain ⟨p, xs, k, e1, e2, h1, hk, q⟩ := h
  exact set_list pins s σ H o i v ov iv u Q I r1 r2 r3 ⟨p, xs, k, k, e1, e2, h1, by unfold ixN; rw [if_pos (by omega), if_pos (by omega)]; rfl, q _ (Kp.wr (by simp)) upd_same⟩
def rSplitS : V → List V → Hp → VK → Prop := fun x xs H Q => ∃ a b, x = .str a ∧ xs = [.str b] ∧ (b.length == 0) = false ∧ a.length + 2 ≤ sizeLine ∧ ∀ p H2, H p = none → Same H H2 → H2 p = some (.lst ((Txt.split a b).map V.str)) → Q (.ref p) H2
theorem mt_splitS : MtR X "str.split" rSplitS := by
  intro pins s σ H x xs v us Q I r1 r2 h
  obtain ⟨a, b, e1, e2, h1, h2, q⟩ := h
  exact mt_split pins s σ H x xs v us Q I r1 r2 ⟨a, b, e1, e2, h1, h2, fun p hp => q p _ hp (Same.new hp) upd_same⟩
theorem pe_splitS {o : Expr} {to : TE} {apos pos : Pos} (ho : PE X o to) (he : PE X e te) (hs : starEach [e] X.env = [(false, eval e X.env)] := by rfl) (hbase : attributeBase o "split" X.env (eval o X.env) = eval o X.env := by rfl) (hline : (apos.endLine == pos.line) = true := by rfl) :
    PE X (.Call (.Attribute o "split" apos) [e] [] pos) (tM1 rSplitS to te) := pe_m1 F.slot_str_split F.type_str_split mt_splitS ho he hs hbase hline
end
end WP
namespace WP
open PySem PySem.Spec PyProof.Rows L2 TL
theorem ifE {a b : V} {A B : Prop} (h : a = b) (k : A) : if decide (a = b) = true then A else B := by rw [decide_eq_true h]; exact iteT k
theorem ifN {a b : V} {A B : Prop} (h : a ≠ b) (k : B) : if decide (a = b) = true then A else B := by rw [decide_eq_false h]; exact iteF k
theorem take_s {α : Type} {l : List α} {i : Nat} {y : α} (h : l[i]? = some y) : l.take (i + 1) = l.take i ++ [y] := by
  rw [List.take_succ, h]; rfl
theorem sapp {H0 H H2 : Hp} {l : Addr} (s : Same H0 H) (h : H0 l = none) (k : Kp [l] H H2) : Same H0 H2 := fun b o e => k b o (by
  intro z
  have : b = l := by simpa using z
  rw [this, h] at e; cases e) (s b o e)
theorem xFld_len {f : Fld} (h : wFld f) : (xFld f).length ≤ 33 := by
  have h1 := h.1.len
  have h2 := h.2.len
  unfold xFld
  simp only [al, lit_len]
  simp
  omega
theorem xOpd_len {o : Opd} (h : wOpd o) : (xOpd o).length ≤ 33 := by
  cases o with
  | num n => have := sI_len h; show (sI n).length ≤ 33; omega
  | par s => have := Nm.len h; show s.length ≤ 33; omega
  | fld o n => exact xFld_len (f := (o, n)) h
theorem xExp_len {e : Exp} (h : wExp e) : (xExp e).length ≤ 70 := by
  cases e with
  | one a => have := xOpd_len h; show (xOpd a).length ≤ 70; omega
  | bin op a b =>
    have h1 := xOpd_len h.1
    have h2 := xOpd_len h.2
    have h3 := op.len
    unfold xExp
    simp only [al, lit_len]
    simp
    omega
theorem xOpn_len {o : Opn} (h : wOpn o) : (xOpn o).length ≤ 110 := by
  cases o with
  | set f e =>
    have h1 := xFld_len h.1
    have h2 := xExp_len h.2
    unfold xOpn; simp only [al, lit_len]; simp; omega
  | send e =>
    have h2 := xExp_len h
    unfold xOpn; simp only [al, lit_len]; simp; omega
  | drop => decide +kernel
  | add s =>
    have h2 := Nm.len h
    unfold xOpn; simp only [al, lit_len]; simp; omega
  | rem s =>
    have h2 := Nm.len h
    unfold xOpn; simp only [al, lit_len]; simp; omega
theorem xVal_len {v : Int} {m : Option Int} (h : Nu v) (h2 : ∀ x, m = some x → Nu x) : (xVal v m).length ≤ 23 := by
  have h1 := sI_len h
  cases m with
  | none => show (sI v).length ≤ 23; omega
  | some x =>
    have h3 := sI_len (h2 x rfl)
    unfold xVal; simp only [al, lit_len]; simp; omega
theorem xTst_len : ∀ {n : Nat} {t : Tst}, wTst n t → (xTst t).length ≤ 50 + 4 * n
  | n, .nt t, h => by
    obtain ⟨m, rfl, h⟩ := h
    have := xTst_len h
    show ("not " ++ xTst t : Str).length ≤ _
    simp only [al, lit_len]; simp; omega
  | n, .valid s, h => by
    have h : Nm s := by cases n <;> exact h
    have h2 := h.len
    show ("valid " ++ s : Str).length ≤ _
    simp only [al, lit_len]; simp; omega
  | n, .cmp sg f m, h => by
    have h : wFld f ∧ Nu m := by cases n <;> exact h
    have h1 := xFld_len h.1
    have h2 := cmpS_len sg
    have h3 := sI_len h.2
    show (xFld f ++ " " ++ cmpS sg ++ " " ++ sI m).length ≤ _
    simp only [al, lit_len]; simp; omega
theorem call_str_intS {X : Cx} : CallR X (.type "str") (fun xs H Q => ∃ i, xs = [.int i] ∧ Nu i ∧ Q (.str (sI i)) H) := by
  intro pins s σ H xs us Q I r h
  obtain ⟨i, e, hz, q⟩ := h
  exact call_str_int pins s σ H xs us Q I r ⟨i, e, sI_log hz, q⟩
/-! the written part named, for comprehensions -/
theorem ix_tupK {X : Cx} {K : PySem.W.Frag} (h : X.K = K) : IxR X (rIxT K) := h ▸ ix_tup
theorem ix_listK {X : Cx} {K : PySem.W.Frag} (h : X.K = K) : IxR X (rIxL K) := h ▸ ix_list
theorem ix_seqK {X : Cx} {K : PySem.W.Frag} (h : X.K = K) : IxR X (rIx K) := h ▸ ix_seq
theorem pg_tupK {X : Cx} {K : PySem.W.Frag} {es : List Expr} {k : Nat} {t : TGs} {n : Nat} {pos : Pos} (hK : X.K = K) (hc : X.calm = true) (h : PGs X es t)
    (hn : (assignEach es X.env).length = n := by rfl) (hst : (assignEach es X.env).findIdx? (·.1) = none := by rfl) : PG X (.Tuple es k pos) (gTup K n t) := by
  subst hK
  exact pg_tup hc h hn hst
/-- the sum of the lengths -/
def sumL (l : List Str) : Nat := (l.map (·.length)).sum
theorem sumL_le {c : Nat} : ∀ {l : List Str}, (∀ x ∈ l, x.length ≤ c) → sumL l ≤ l.length * c
  | [], _ => by simp [sumL]
  | x :: l, h => by
    have h1 := h x List.mem_cons_self
    have h2 := sumL_le fun y hy => h y (List.mem_cons_of_mem _ hy)
    unfold sumL at *
    simp only [List.map_cons, List.sum_cons, List.length_cons, Nat.succ_mul]
    omega
theorem join_len (s : Str) : ∀ l : List Str, (Str.join s l).length ≤ sumL l + l.length * s.length
  | [] => by show Str.length (Str.join s []) ≤ _; exact Nat.zero_le _
  | [x] => by show x.length ≤ _; simp [sumL]
  | x :: y :: r => by
    have h := join_len s (y :: r)
    show (x ++ s ++ Str.join s (y :: r)).length ≤ _
    simp only [al, sumL, List.map_cons, List.sum_cons, List.length_cons, Nat.succ_mul] at *
    omega
theorem few_join {s : Str} {l : List Str} {c : Nat} (h : l.length ≤ 16) (hs : s.length = 2) (h2 : ∀ x ∈ l, x.length ≤ c) : (Str.join s l).length ≤ 16 * c + 32 ∧ sumL l + l.length * s.length ≤ 16 * c + 32 := by
  have h3 := join_len s l
  have h4 := sumL_le h2
  have h5 : l.length * c ≤ 16 * c := Nat.mul_le_mul_right _ h
  rw [hs] at *
  omega
/-- [f(x) for x in a list of data] that changes nothing -/
theorem lc_map {K : PySem.W.Frag} {a : Addr} {xs : List V} {g : TG} {tt : TT} {te : TE} {vs : List Nat} {σ : L2.St} {H : Hp} {D : Addr} {R : Hp → Prop} {α : Type} (l : List α) (e : α → PyData) (r : α → V) (hD : H D = none) (ha : H a = some (.lst xs)) (hx : AtL H xs (l.map e)) (hz : l.length ≤ 100000)
    (hs : ∀ y x H' (C : V → Hp → Prop) (C' : Hp → Prop), y ∈ l → At H' x (e y) → Same H H' → (∀ H4, Same H' H4 → C (r y) H4) → g x (wipe σ vs) H' fun σ2 H2 => wipe σ2 vs = wipe σ vs ∧ tt σ2 H2 fun b H3 => if b = true then te σ2 H3 C else C' H3)
    (hd : ∀ H', Same H H' → H' D = some (.lst (l.map r)) → R H') :
    ∃ W : Nat → Nat → Hp → Prop, (∃ m, W 0 m (upd H D (.lst []))) ∧ ∀ i m H, W i m H →
      ((Itl K a).stop i H ∧ R H) ∨ ((Itl K a).go i H ∧ ∃ Nx : Hp → Prop, (∀ H', Nx H' → ∃ m', m' < m ∧ W (i + 1) m' H') ∧ ∀ x H', (Itl K a).yld i H x H' → g x (wipe σ vs) H' fun σ2 H2 => wipe σ2 vs = wipe σ vs ∧ tt σ2 H2 fun b H3 =>
        if b = true then te σ2 H3 fun y H4 => ∃ acc, H4 D = some (.lst acc) ∧ acc.length < sizeLine ∧ Nx (upd H4 D (.lst (acc ++ [y]))) else Nx H3) := by
  have hlen : xs.length = l.length := by rw [hx.len, List.length_map]
  refine lc_list (xs := xs) (fun i H' => Same H H' ∧ H' D = some (.lst ((l.take i).map r))) ⟨Same.new hD, upd_same⟩ (fun i H' _ ⟨s, _⟩ => SqL.of (s _ _ ha)) (fun i x H' hi ⟨s, h⟩ => ?_) (fun H' ⟨s, h⟩ => hd H' s ?_)
  · obtain ⟨y, hy, hat⟩ := hx.getM hi
    refine hs y x H' _ _ (List.mem_of_getElem? hy) (hat.mono s) s fun H4 s4 => ⟨_, s4 _ _ h, ?_, sapp (s.trans s4) hD (Kp.wr (by simp)), ?_⟩
    · have := (List.getElem?_eq_some_iff.mp hy).1
      exact szl (by simp; omega)
    · rw [upd_same, take_s hy, List.map_append]; rfl
  · rw [hlen] at h
    rw [h, List.take_length]
end WP
namespace WP
open PySem PySem.Spec PyProof.Rows L2 TL
theorem flat_len {α : Type} {f : α → List Str} {c : Nat} : ∀ {l : List α}, (∀ x ∈ l, (f x).length ≤ c) → ((l.map f).flatten).length ≤ l.length * c
  | [], _ => by simp
  | x :: l, h => by
    have h1 := h x List.mem_cons_self
    have h2 := flat_len (l := l) fun y hy => h y (List.mem_cons_of_mem _ hy)
    simp only [List.map_cons, List.flatten_cons, List.length_append, List.length_cons, Nat.succ_mul]
    omega
theorem flat_take {α : Type} {f : α → List Str} {c i : Nat} {l : List α} (h : ∀ x ∈ l, (f x).length ≤ c) (h2 : l.length ≤ 16) : (((l.take i).map f).flatten).length ≤ 16 * c := by
  have h3 := flat_len (l := l.take i) (f := f) (c := c) fun x hx => h x (List.mem_of_mem_take hx)
  have h4 : (l.take i).length ≤ 16 := by rw [List.length_take]; omega
  exact Nat.le_trans h3 (Nat.mul_le_mul_right _ h4)
theorem drop_cons {α : Type} {l r : List α} {i : Nat} {d : α} (h : l.drop i = d :: r) : l[i]? = some d ∧ l.drop (i + 1) = r := by
  constructor
  · have := List.getElem?_drop (xs := l) (i := i) (j := 0)
    rw [h] at this
    simpa using this.symm
  · have : (l.drop i).drop 1 = r := by rw [h]; rfl
    rwa [List.drop_drop] at this
theorem xPar_len {p : Par} (h : wPar p) : (xPar p).length ≤ 28 := by
  have l1 := h.1.len
  have l2 := sI_len h.2
  unfold xPar; simp only [al, lit_len]; simp; omega
theorem pars_len {l : List Par} (h : Few wPar l) : (Str.join ", " (l.map xPar)).length ≤ 480 ∧ (((l.map xPar).map (·.length)).sum + (l.map xPar).length * (Str.ofString ", ").length ≤ 16777216) := by
  obtain ⟨h1, h2⟩ := few_join (s := ", ") (l := l.map xPar) (c := 28) (by simpa using h.1) (by decide +kernel) (by
    intro x hx
    obtain ⟨y, hy, rfl⟩ := List.mem_map.mp hx
    exact xPar_len (h.2 y hy))
  exact ⟨h1, Nat.le_trans h2 (by decide)⟩
theorem nums_len {l : List Int} (h : Few Nu l) : (Str.join ", " (l.map sI)).length ≤ 192 ∧ (((l.map sI).map (·.length)).sum + (l.map sI).length * (Str.ofString ", ").length ≤ 16777216) := by
  obtain ⟨h1, h2⟩ := few_join (s := ", ") (l := l.map sI) (c := 10) (by simpa using h.1) (by decide +kernel) (by
    intro x hx
    obtain ⟨y, hy, rfl⟩ := List.mem_map.mp hx
    exact sI_len (h.2 y hy))
  exact ⟨h1, Nat.le_trans h2 (by decide)⟩
theorem names_len {l : List Str} (h : Few Nm l) : (Str.join ", " l).length ≤ 288 ∧ ((l.map (·.length)).sum + l.length * (Str.ofString ", ").length ≤ 16777216) := by
  obtain ⟨h1, h2⟩ := few_join (s := ", ") (l := l) (c := 16) h.1 (by decide +kernel) (fun x hx => (h.2 x hx).len)
  exact ⟨h1, Nat.le_trans h2 (by decide)⟩
/-! ### few lines, short ones -/
structure Sm (c : Nat) (ls : List Str) : Prop where
  few : ls.length ≤ c
  short : ∀ x ∈ ls, x.length ≤ 600
theorem Sm.append {a b : Nat} {l m : List Str} (h : Sm a l) (k : Sm b m) : Sm (a + b) (l ++ m) := ⟨by rw [List.length_append]; exact Nat.add_le_add h.few k.few, fun x hx => (List.mem_append.mp hx).elim (h.short x) (k.short x)⟩
theorem Sm.one {s : Str} (h : s.length ≤ 600) : Sm 1 [s] := ⟨Nat.le_refl _, fun x hx => by rw [List.mem_singleton.mp hx]; exact h⟩
theorem Sm.nil {a : Nat} : Sm a [] := ⟨Nat.zero_le _, fun x hx => absurd hx (by simp)⟩
theorem Sm.more {a b : Nat} {l : List Str} (h : Sm a l) (k : a ≤ b) : Sm b l := ⟨Nat.le_trans h.few k, h.short⟩
theorem Sm.map {α : Type} {w : α → Prop} {f : α → Str} {l : List α} (h : Few w l) (k : ∀ x, w x → (f x).length ≤ 600) : Sm 16 (l.map f) := ⟨by rw [List.length_map]; exact h.1, fun x hx => by
  obtain ⟨y, hy, rfl⟩ := List.mem_map.mp hx
  exact k y (h.2 y hy)⟩
theorem Sm.flat {α : Type} {w : α → Prop} {f : α → List Str} {l : List α} {c : Nat} (h : Few w l) (k : ∀ x, w x → Sm c (f x)) : Sm (16 * c) ((l.map f).flatten) := ⟨Nat.le_trans (flat_len fun x hx => (k x (h.2 x hx)).few) (Nat.mul_le_mul_right _ h.1), fun x hx => by
  obtain ⟨m, hm, hx⟩ := List.mem_flatten.mp hx
  obtain ⟨y, hy, rfl⟩ := List.mem_map.mp hm
  exact (k y (h.2 y hy)).short x hx⟩
theorem lPar_len {p : Par} (h : wPar p) : (lPar p).length ≤ 600 := by
  have l1 := h.1.len
  have l2 := sI_len h.2
  unfold lPar; simp only [al, lit_len]; simp; omega
theorem lHdr_sm {h : Hdr} (w : wHdr h) : Sm 18 (lHdr h) := by
  have l1 := w.1.len
  exact ((Sm.one (by simp only [al, lit_len]; simp; omega)).append (Sm.map w.2 fun x hx => lPar_len hx)).append (Sm.one (by decide +kernel))
theorem lMeta_sm {m : List Par} (w : Few wPar m) : Sm 18 (lMeta m) := by
  unfold lMeta
  by_cases h : m = []
  · rw [if_pos h]; exact Sm.nil
  · rw [if_neg h]
    exact ((Sm.one (by decide +kernel)).append (Sm.map w fun x hx => lPar_len hx)).append (Sm.one (by decide +kernel))
theorem lSta_sm {s : Sta} (w : wSta s) : Sm 22 (lSta s) := by
  obtain ⟨nm, hd, nx⟩ := s
  obtain ⟨w1, w2, w3⟩ := w
  dsimp only at w1 w2 w3
  have l1 := w1.len
  have a1 : Sm 1 (lExt hd) := by
    cases hd with
    | none => exact Sm.nil
    | some h =>
      have l2 := (w2 h rfl).len
      exact Sm.one (by simp only [al, lit_len]; simp; omega)
  have a2 : Sm 19 (lNxt nx) := by
    cases nx with
    | go t =>
      have l2 := Tgt.len w3
      exact (Sm.one (by simp only [al, lit_len]; simp; omega)).more (by decide)
    | sel f rows o =>
      have l2 := xFld_len w3.1
      have l3 := w3.2.2.len
      refine Sm.append (a := 17) (b := 2) (Sm.append (a := 1) (b := 16) (Sm.one (by simp only [al, lit_len]; simp; omega)) (Sm.map w3.2.1 fun x hx => ?_)) (Sm.append (a := 1) (b := 1) (Sm.one ?_) (Sm.one (by decide +kernel)))
      · have l4 := xVal_len hx.1 hx.2.1
        have l5 := hx.2.2.len
        unfold lRow; simp only [al, lit_len]; simp; omega
      · simp only [al, lit_len]; simp; omega
  exact (((Sm.one (by simp only [al, lit_len]; simp; omega)).append a1).append a2).append (Sm.one (by decide +kernel))
theorem lAct_sm {a : Act} (w : wAct a) : Sm 18 (lAct a) := by
  have l1 := w.1.len
  have l2 := (pars_len w.2.1).1
  refine (((Sm.one (by simp only [al, lit_len]; simp; omega)).append (Sm.map w.2.2 fun x hx => ?_)).append (Sm.one (by decide +kernel)))
  have l3 := xOpn_len hx
  unfold lOpn; simp only [al, lit_len]; simp; omega
theorem lTab_sm {t : Tab} (w : wTab t) : Sm 36 (lTab t) := by
  obtain ⟨w1, w2, w3, w4, w5, w6⟩ := w
  have l1 := w1.len
  have l2 := (nums_len w5).1
  have l3 := w4.len
  have l4 := sI_len w6
  refine Sm.append (a := 33) (b := 3) (Sm.append (a := 17) (b := 16) (Sm.append (a := 1) (b := 16) (Sm.one (by simp only [al, lit_len]; simp; omega)) (Sm.map w2 fun x hx => ?_)) (Sm.map w3 fun x hx => ?_)) (Sm.append (a := 1) (b := 2) (Sm.one (by simp only [al, lit_len]; simp; omega)) (Sm.append (a := 1) (b := 1) (Sm.one (by simp only [al, lit_len]; simp; omega)) (Sm.one (by decide +kernel))))
  · have l5 := xFld_len hx
    have l6 := x.2.len
    unfold lKey; simp only [al, lit_len]; simp; omega
  · have l5 := hx.len
    unfold lUse; simp only [al, lit_len]; simp; omega
theorem lB_len : ∀ (b : Blk) (ind : Str), (lB ind b).length ≤ 3 * b.count
  | .nil, _ => by simp [lB]
  | .app t r, ind => by
    have := lB_len r ind
    simp only [lB, List.length_cons, Blk.count]; omega
  | .ifs t a b r, ind => by
    have h1 := lB_len a (ind ++ "  ")
    have h2 := lB_len b (ind ++ "  ")
    have h3 := lB_len r ind
    have h4 : (lElse ind (lB (ind ++ "  ") b) b.some).length ≤ 1 + (lB (ind ++ "  ") b).length := by
      cases b.some
      · simp [lElse]
      · simp [lElse]; omega
    simp only [lB, List.length_append, List.length_cons, List.length_nil, Blk.count]
    omega
theorem lB_short : ∀ (b : Blk) (n : Nat) (ind : Str), wB n b → ind.length + 2 * n ≤ 20 → ∀ x ∈ lB ind b, x.length ≤ 600
  | .nil, _, _, _, _ => fun x hx => absurd hx (by simp [lB])
  | .app t r, n, ind, w, h => by
    have l1 := w.1.len
    have h3 := lB_short r n ind w.2 h
    intro x hx
    rcases List.mem_cons.mp hx with rfl | hx
    · simp only [al, lit_len]; simp; omega
    · exact h3 x hx
  | .ifs t a b r, n, ind, ⟨wt, ⟨m, e, wa, wb⟩, wr⟩, h => by
    have h0 : (ind ++ "  ").length + 2 * m ≤ 20 := by simp only [al, lit_len]; simp; omega
    have h1 := lB_short a m (ind ++ "  ") wa h0
    have h2 := lB_short b m (ind ++ "  ") wb h0
    have h3 := lB_short r n ind wr h
    have l1 := xTst_len wt
    intro x hx
    rcases List.mem_append.mp hx with hx | hx
    · rcases List.mem_append.mp hx with hx | hx
      · rcases List.mem_append.mp hx with hx | hx
        · rcases List.mem_append.mp hx with hx | hx
          · rw [List.mem_singleton.mp hx]; simp only [al, lit_len]; simp; omega
          · exact h1 x hx
        · cases e2 : b.some with
          | false => rw [e2] at hx; exact absurd hx (by simp [lElse])
          | true =>
            rw [e2] at hx
            rcases List.mem_append.mp hx with hx | hx
            · rw [List.mem_singleton.mp hx]; simp only [al, lit_len]; simp; omega
            · exact h2 x hx
      · rw [List.mem_singleton.mp hx]; simp only [al, lit_len]; simp; omega
    · exact h3 x hx
theorem lB_sm {b : Blk} {n : Nat} {ind : Str} (w : wB n b) (hc : b.count ≤ 16) (h : ind.length + 2 * n ≤ 20) : Sm 48 (lB ind b) := ⟨by have := lB_len b ind; omega, lB_short b n ind w h⟩
theorem lEmit_sm {l : List Str} (w : Few Nm l) : Sm 1 (lEmit l) := by
  unfold lEmit
  by_cases h : l = []
  · rw [if_pos h]; exact Sm.nil
  · rw [if_neg h]
    have := (names_len w).1
    exact Sm.one (by simp only [al, lit_len]; simp; omega)
theorem lPrg_sm {p : Prg} (w : wPrg p) : Sm 1576 (lPrg p) := by
  have l1 := w.name.len
  have h := ((((((((((Sm.one (s := "program " ++ p.name) (by simp only [al, lit_len]; simp; omega)).append (Sm.flat w.hdrs fun x hx => lHdr_sm hx)).append (lMeta_sm w.meta')).append (Sm.one (s := "parser {") (by decide +kernel))).append (Sm.flat w.stas fun x hx => lSta_sm hx)).append
    (Sm.one (s := "}") (by decide +kernel))).append (Sm.flat w.acts fun x hx => lAct_sm hx)).append (Sm.flat w.tabs fun x hx => lTab_sm hx)).append (Sm.one (s := "control {") (by decide +kernel))).append (lB_sm (ind := "  ") w.ctl w.cnt (by simp only [lit_len]; simp))).append (Sm.one (s := "}") (by decide +kernel))
  exact (h.append (lEmit_sm w.emits)).more (by decide)
theorem Sm.sum {c : Nat} {l : List Str} (h : Sm c l) : sumL l ≤ c * 600 := Nat.le_trans (sumL_le h.short) (Nat.mul_le_mul_right _ h.few)
end WP
namespace WP
open PySem PySem.Spec PyProof.Rows L2 TL
/-! ### tokens of a text, as a relation -/
abbrev Tok := Str × PyData
abbrev tW (s : Str) : Tok := ("word", .str s)
abbrev tN (s : Str) : Tok := ("name", .str s)
abbrev tU (n : Int) : Tok := ("number", .int n)
abbrev tS (s : Str) : Tok := ("sign", .str s)
abbrev tE : Tok := ("end", .str "")
def SGN : List Str := ["->", "==", "{", "}", "(", ")", ":", ";", ",", ".", "=", "<", "+", "-", "&", "|", "^"]
def mk (l : List Nat) : Str := ⟨l.toArray⟩
/-- a run of letters, digits and underscores is this token -/
inductive RunTok : List Nat → Tok → Prop
  | word (s : Str) : s ∈ RES → RunTok (tl s) (tW s)
  | name (s : Str) : Nm s → RunTok (tl s) (tN s)
  | num (n : Nat) : n ≤ 4294967295 → RunTok (numL n) (tU n)
/-- what may follow a run -/
def NR (s : List Nat) : Prop := ∀ c r, s = c :: r → isRun c = false
/-- g is the first sign that matches -/
def SignOk (g : Str) (s : List Nat) : Prop := ∃ i : Nat, SGN[i]? = some g ∧ ∀ (j : Nat) (x : Str), j < i → SGN[j]? = some x → pre (tl x) (tl g ++ s) = false
def cmc (c : Nat) : Prop := c = 32 ∨ c = 120 ∨ c = 101 ∨ c = 110 ∨ c = 100
inductive Lex : List Nat → List Tok → Prop
  | nil : Lex [] []
  | sp {s ts} : Lex s ts → Lex (32 :: s) ts
  | nl {s ts} : Lex s ts → Lex (10 :: s) ts
  | cm {s ts} (b : List Nat) : (∀ c ∈ b, cmc c) → Lex s ts → Lex (35 :: (b ++ 10 :: s)) ts
  | run {s ts} (w : List Nat) (t : Tok) : RunTok w t → NR s → Lex s ts → Lex (w ++ s) (t :: ts)
  | sign {s ts} (g : Str) : SignOk g s → Lex s ts → Lex (tl g ++ s) (tS g :: ts)
/-- the same for one line -/
inductive LexL : List Nat → List Tok → Prop
  | nil : LexL [] []
  | sp {s ts} : LexL s ts → LexL (32 :: s) ts
  | cm (b : List Nat) : LexL (35 :: b) []
  | run {s ts} (w : List Nat) (t : Tok) : RunTok w t → NR s → LexL s ts → LexL (w ++ s) (t :: ts)
  | sign {s ts} (g : Str) : SignOk g s → LexL s ts → LexL (tl g ++ s) (tS g :: ts)
theorem RES_run : ∀ s ∈ RES, ((tl s).all fun c => isRun c && c != 10) = true ∧ (match tl s with | c :: _ => isLet c | [] => false) = true ∧ s.length ≤ 16 := by
  intro s hs
  have h : (RES.all fun s => ((tl s).all fun c => isRun c && c != 10) && (match tl s with | c :: _ => isLet c | [] => false) && decide (s.length ≤ 16)) = true := by decide +kernel
  have := List.all_eq_true.mp h s hs
  simp only [Bool.and_eq_true, decide_eq_true_eq] at this
  exact ⟨this.1.1, this.1.2, this.2⟩
theorem dig_run {c : Nat} (h : isDig c = true) : isRun c = true := by unfold isRun; rw [h]; simp
theorem let_run {c : Nat} (h : isLet c = true) : isRun c = true := by unfold isRun; rw [h]; simp
theorem numL_dig {n c : Nat} (h : c ∈ numL n) : isDig c = true := by
  have := numL_digits n
  have h2 : 48 ≤ c ∧ c ≤ 57 := by
    by_cases h3 : c < 48 ∨ 57 < c
    · exact absurd h (numL_free h3)
    · omega
  unfold isDig
  simp [h2.1, h2.2]
theorem RunTok.all {w : List Nat} {t : Tok} (h : RunTok w t) : ∀ c ∈ w, isRun c = true := by
  cases h with
  | word s hs =>
    intro c hc
    have := List.all_eq_true.mp (RES_run s hs).1 c hc
    simp only [Bool.and_eq_true] at this
    exact this.1
  | name s hs => exact hs.run
  | num n hn => exact fun c hc => dig_run (numL_dig hc)
theorem run_ne {c : Nat} (h : isRun c = true) : c ≠ 10 ∧ c ≠ 32 ∧ c ≠ 35 ∧ c ≠ 62 ∧ c ≠ 61 := by
  unfold isRun isLet isDig at h
  simp only [Bool.or_eq_true, Bool.and_eq_true, decide_eq_true_eq, beq_iff_eq] at h
  omega
theorem RunTok.ne {w : List Nat} {t : Tok} (h : RunTok w t) : w ≠ [] := by
  cases h with
  | word s hs =>
    intro e
    have := (RES_run s hs).2.1
    rw [e] at this
    exact Bool.false_ne_true this
  | name s hs =>
    obtain ⟨c, r, e, _⟩ := hs.hd
    rw [e]; simp
  | num n hn => exact numL_ne n
/-- the first sign of a run: a letter or a digit -/
theorem RunTok.hd {w : List Nat} {t : Tok} (h : RunTok w t) : ∃ c r, w = c :: r ∧ (isLet c = true ∨ isDig c = true) := by
  cases h with
  | word s hs =>
    have := (RES_run s hs).2.1
    cases e : tl s with
    | nil => rw [e] at this; cases this
    | cons c r => rw [e] at this; exact ⟨c, r, rfl, .inl this⟩
  | name s hs =>
    obtain ⟨c, r, e, h⟩ := hs.hd
    exact ⟨c, r, e, .inl h⟩
  | num n hn =>
    cases e : numL n with
    | nil => exact absurd e (numL_ne n)
    | cons c r => exact ⟨c, r, rfl, .inr (numL_dig (by rw [e]; simp))⟩
theorem NR.nil : NR [] := fun _ _ h => nomatch h
theorem NR.cons {c : Nat} {r : List Nat} (h : isRun c = false) : NR (c :: r) := fun _ _ e => by cases e; exact h
theorem SGN_ne : ∀ g ∈ SGN, ((tl g).all fun c => !isRun c && c != 10 && c != 32 && c != 35) = true ∧ tl g ≠ [] ∧ g.length ≤ 2 := by
  intro s hs
  have h : (SGN.all fun s => ((tl s).all fun c => !isRun c && c != 10 && c != 32 && c != 35) && !(tl s).isEmpty && decide (s.length ≤ 2)) = true := by decide +kernel
  have := List.all_eq_true.mp h s hs
  simp only [Bool.and_eq_true, decide_eq_true_eq] at this
  exact ⟨this.1.1, by intro e; rw [e] at this; exact absurd this.1.2 (by decide), this.2⟩
theorem SignOk.mem {g : Str} {s : List Nat} (h : SignOk g s) : g ∈ SGN := by
  obtain ⟨i, h, _⟩ := h
  exact List.mem_of_getElem? h
/-! a text as its rows -/
theorem joinL_cons (p : List Nat) (ps : List (List Nat)) (h : ps ≠ []) : joinL [10] (p :: ps) = p ++ 10 :: joinL [10] ps := by
  cases ps with
  | nil => exact absurd rfl h
  | cons q qs => simp [joinL]
theorem joinL_pre (w p : List Nat) (ps : List (List Nat)) : joinL [10] ((w ++ p) :: ps) = w ++ joinL [10] (p :: ps) := by
  cases ps with
  | nil => simp [joinL]
  | cons q qs => simp [joinL]
theorem Lex.rows {s : List Nat} {ts : List Tok} (h : Lex s ts) : ∃ p ps q qs, s = joinL [10] (p :: ps) ∧ ts = (q :: qs).flatten ∧ Paired LexL (p :: ps) (q :: qs) ∧ ∀ r ∈ p :: ps, 10 ∉ r := by
  induction h with
  | nil => exact ⟨[], [], [], [], rfl, rfl, .cons .nil .nil, by simp⟩
  | sp _ ih =>
    obtain ⟨p, ps, q, qs, rfl, rfl, hp, hn⟩ := ih
    cases hp with
    | cons h1 h2 =>
      refine ⟨32 :: p, ps, q, qs, (joinL_pre [32] p ps).symm, rfl, .cons (.sp h1) h2, fun r hr => ?_⟩
      rcases List.mem_cons.mp hr with rfl | hr
      · have := hn p List.mem_cons_self
        simp [this]
      · exact hn r (List.mem_cons_of_mem _ hr)
  | nl _ ih =>
    obtain ⟨p, ps, q, qs, rfl, rfl, hp, hn⟩ := ih
    refine ⟨[], p :: ps, [], q :: qs, (joinL_cons [] (p :: ps) (by simp)).symm, rfl, .cons .nil hp, fun r hr => ?_⟩
    rcases List.mem_cons.mp hr with rfl | hr
    · simp
    · exact hn r hr
  | cm b hb _ ih =>
    obtain ⟨p, ps, q, qs, rfl, rfl, hp, hn⟩ := ih
    refine ⟨35 :: b, p :: ps, [], q :: qs, (joinL_cons (35 :: b) (p :: ps) (by simp)).symm, rfl, .cons (.cm b) hp, fun r hr => ?_⟩
    rcases List.mem_cons.mp hr with rfl | hr
    · intro z
      rcases List.mem_cons.mp z with z | z
      · cases z
      · have := hb _ z
        unfold cmc at this
        omega
    · exact hn r hr
  | run w t hw hn0 _ ih =>
    obtain ⟨p, ps, q, qs, rfl, rfl, hp, hn⟩ := ih
    cases hp with
    | cons h1 h2 =>
      refine ⟨w ++ p, ps, t :: q, qs, (joinL_pre w p ps).symm, rfl, .cons (.run w t hw (fun c r e => ?_) h1) h2, fun r hr => ?_⟩
      · cases ps with
        | nil => exact hn0 c r (by rw [e]; simp [joinL])
        | cons p2 ps => exact hn0 c (r ++ 10 :: joinL [10] (p2 :: ps)) (by rw [joinL_cons _ _ (by simp), e]; rfl)
      · rcases List.mem_cons.mp hr with rfl | hr
        · intro z
          rcases List.mem_append.mp z with z | z
          · exact (run_ne (hw.all _ z)).1 rfl
          · exact hn p List.mem_cons_self z
        · exact hn r (List.mem_cons_of_mem _ hr)
  | sign g hg _ ih =>
    obtain ⟨p, ps, q, qs, rfl, rfl, hp, hn⟩ := ih
    cases hp with
    | cons h1 h2 =>
      refine ⟨tl g ++ p, ps, tS g :: q, qs, (joinL_pre (tl g) p ps).symm, rfl, .cons (.sign g ?_ h1) h2, fun r hr => ?_⟩
      · obtain ⟨i, hi, hf⟩ := hg
        refine ⟨i, hi, fun j x hj hx => ?_⟩
        have := hf j x hj hx
        rw [← joinL_pre] at this
        cases ps with
        | nil => simpa [joinL] using this
        | cons p2 ps =>
          rw [joinL_cons _ _ (by simp)] at this
          have hx2 := SGN_ne x (List.mem_of_getElem? hx)
          -- no sign holds a newline
          unfold pre at this ⊢
          rw [beq_eq_false_iff_ne] at this ⊢
          intro e
          refine this ?_
          rw [List.take_append_of_le_length]
          · exact e
          · have := congrArg List.length e
            rw [List.length_take] at this
            omega
      · rcases List.mem_cons.mp hr with rfl | hr
        · intro z
          rcases List.mem_append.mp z with z | z
          · have := List.all_eq_true.mp (SGN_ne g hg.mem).1 _ z
            simp at this
          · exact hn p List.mem_cons_self z
        · exact hn r (List.mem_cons_of_mem _ hr)
end WP
namespace WP
open PySem PySem.Spec PyProof.Rows L2 TL
theorem for_strS {x : Str} {g : TG} {tb : TS} {D : Ends} {σ : L2.St} {H : Hp} (Pv : Nat → L2.St → Hp → Prop) (h0 : Pv 0 σ H)
    (hs : ∀ i c σ H, (tl x)[i]? = some c → Pv i σ H → g (.str ⟨#[c]⟩) σ H fun σ2 H2 => tb { D with nx := Pv (i + 1), ct := Pv (i + 1), bk := D.nx } σ2 H2) (hd : ∀ σ H, Pv (tl x).length σ H → D.nx σ H) :
    ∃ W : Nat → Nat → L2.St → Hp → Prop, (∃ m, W 0 m σ H) ∧ ∀ i m σ H, W i m σ H →
      ((Its x).stop i H ∧ D.nx σ H) ∨ ((Its x).go i H ∧ ∃ N : L2.St → Hp → Prop, (∀ σ' H', N σ' H' → ∃ m', m' < m ∧ W (i + 1) m' σ' H') ∧ ∀ y H', (Its x).yld i H y H' → g y σ H' fun σ2 H2 => tb { D with nx := N, ct := N, bk := D.nx } σ2 H2) := by
  have hl : x.cps.size = (tl x).length := by simp [tl]
  refine ⟨fun i m σ H => m = x.cps.size - i ∧ i ≤ x.cps.size ∧ Pv i σ H, ⟨x.cps.size, by simp, Nat.zero_le _, h0⟩, ?_⟩
  rintro i m σ H ⟨rfl, hi, p⟩
  by_cases hlt : i < x.cps.size
  · refine .inr ⟨hlt, Pv (i + 1), fun σ' H' p' => ⟨x.cps.size - (i + 1), by omega, rfl, hlt, p'⟩, fun y H' hy => ?_⟩
    obtain ⟨e, c, hc, e2⟩ := hy
    subst e e2
    exact hs i c σ _ (by simpa [tl] using hc) p
  · have e : i = x.cps.size := by omega
    exact .inl ⟨by show x.cps.size ≤ i; omega, hd σ H (by rw [← hl, ← e]; exact p)⟩
theorem for_enumS {K : PySem.W.Frag} {a : Addr} {xs : List V} {g : TG} {tb : TS} {D : Ends} {σ : L2.St} {H : Hp} (Pv : Nat → L2.St → Hp → Prop) (h0 : Pv 0 σ H) (hl : ∀ i σ H, i ≤ xs.length → Pv i σ H → SqL K H a xs)
    (hs : ∀ i x T σ H H2, xs[i]? = some x → Pv i σ H → H T = none → Same H H2 → H2 T = some (.tup [.int (i : Nat), x]) → g (.ref T) σ H2 fun σ2 H2 => tb { D with nx := Pv (i + 1), ct := Pv (i + 1), bk := D.nx } σ2 H2) (hd : ∀ σ H, Pv xs.length σ H → D.nx σ H) :
    ∃ W : Nat → Nat → L2.St → Hp → Prop, (∃ m, W 0 m σ H) ∧ ∀ i m σ H, W i m σ H →
      ((Ite K a).stop i H ∧ D.nx σ H) ∨ ((Ite K a).go i H ∧ ∃ N : L2.St → Hp → Prop, (∀ σ' H', N σ' H' → ∃ m', m' < m ∧ W (i + 1) m' σ' H') ∧ ∀ x H', (Ite K a).yld i H x H' → g x σ H' fun σ2 H2 => tb { D with nx := N, ct := N, bk := D.nx } σ2 H2) := by
  refine ⟨fun i m σ H => m = xs.length - i ∧ i ≤ xs.length ∧ Pv i σ H, ⟨xs.length, by simp, Nat.zero_le _, h0⟩, ?_⟩
  rintro i m σ H ⟨rfl, hi, p⟩
  have q := hl i σ H hi p
  by_cases hlt : i < xs.length
  · refine .inr ⟨⟨xs, xs[i], q, by simp [hlt]⟩, Pv (i + 1), fun σ' H' p' => ⟨xs.length - (i + 1), by omega, rfl, hlt, p'⟩, fun x H' y => ?_⟩
    obtain ⟨T, z, e, hT, e2, hz⟩ := y
    subst e e2
    exact hs i z T σ H _ (hz xs q) p hT (Same.new hT) upd_same
  · have e : i = xs.length := by omega
    subst e
    exact .inl ⟨⟨xs, q, Nat.le_refl _⟩, hd σ H p⟩
theorem cutS_nat (z : Str) {i j : Nat} (h : i ≤ z.length) : tl (cutS z (some (i : Int)) (some (j : Int))) = ((tl z).drop i).take (j - i) := by
  unfold cutS
  rw [HT.sIx_nat, HT.sIx_nat, tl_mk]
  have e1 : min i z.length = i := Nat.min_eq_left h
  rw [e1]
  show List.take (min j z.length - i) ((tl z).drop i) = _
  by_cases hj : j ≤ z.length
  · rw [Nat.min_eq_left hj]
  · rw [Nat.min_eq_right (by omega)]
    have hl : ((tl z).drop i).length = z.length - i := by rw [List.length_drop, ← len_tl]
    rw [List.take_of_length_le (by omega), List.take_of_length_le (by omega)]
theorem cutS_pre (z : Str) (j : Nat) : tl (cutS z none (some (j : Int))) = (tl z).take j := by
  unfold cutS
  rw [HT.sIx_nat, HT.sIx_none, tl_mk]
  show List.take (min j z.length - 0) ((tl z).drop 0) = _
  rw [Nat.sub_zero, List.drop_zero]
  by_cases hj : j ≤ z.length
  · rw [Nat.min_eq_left hj]
  · rw [Nat.min_eq_right (by omega), List.take_of_length_le (by rw [← len_tl]; exact Nat.le_refl _), List.take_of_length_le (by rw [← len_tl]; omega)]
theorem chr_le (c d : Nat) : (!decide ((⟨#[c]⟩ : Str).cps.toList < (⟨#[d]⟩ : Str).cps.toList)) = decide (d ≤ c) := by
  show (!decide ([c] < [d])) = _
  by_cases h : c < d
  · rw [decide_eq_true (show [c] < [d] from List.Lex.rel h), decide_eq_false (by omega)]; rfl
  · rw [decide_eq_false (show ¬ [c] < [d] from fun z => by cases z with | rel r => exact h r | cons r => cases r), decide_eq_true (by omega)]; rfl
theorem inV_res (s : Str) (l : List Str) : inV (.str s) (l.map V.str) = decide (s ∈ l) := by
  induction l with
  | nil => rfl
  | cons x l ih =>
    have h : inV (.str s) ((x :: l).map V.str) = (eqV (.str x) (.str s) || inV (.str s) (l.map V.str)) := rfl
    rw [h, ih]
    have h2 : eqV (.str x) (.str s) = decide (x = s) := by
      show (x == s) = _
      by_cases e : x = s
      · rw [decide_eq_true e]; exact beq_iff_eq.mpr e
      · rw [decide_eq_false e]; exact beq_eq_false_iff_ne.mpr e
    rw [h2]
    by_cases e : x = s
    · simp [e]
    · have e' : ¬ s = x := fun z => e z.symm
      simp [e, e']
theorem iteNN {a b : V} {A B : Prop} (h : a ≠ b) (k : A) : if (!decide (a = b)) = true then A else B := by rw [decide_eq_false h]; exact iteT k
theorem iteNE {a b : V} {A B : Prop} (h : a = b) (k : B) : if (!decide (a = b)) = true then A else B := by rw [decide_eq_true h]; exact iteF k
/-- a module's tuple of texts -/
structure Wt (K : PySem.W.Frag) (mg : Str → Option Value) (x : Str) (l : List Str) : Prop where
  ex : ∃ a, mg x = some (.ref a) ∧ ∀ H, SqT K H a (l.map V.str)
end WP
namespace WP
open PySem PySem.Spec PyProof.Rows L2 TL
local macro_rules | `(tactic| walk_at "len") => `(tactic| (show _ ≤ sizeLine; rw [sizeLine_eq]; (try simp only [al, lit_len]); (try simp) <;> omega))
local macro_rules | `(tactic| walk_at "lt") => `(tactic| (show _ < sizeLine; rw [sizeLine_eq]; (try simp only [List.length_map, List.length_append, List.length_cons, List.length_nil, List.length_take]); omega))
local macro_rules | `(tactic| walk_at "le") => `(tactic| (show _ ≤ sizeLine; rw [sizeLine_eq]; (try simp only [List.length_map, List.length_append, List.length_cons, List.length_nil, List.length_take]); omega))
local macro_rules | `(tactic| walk_at "now") => `(tactic| first | assumption | (refine (by assumption : Same _ _) _ _ ?_; walk_at "now"))
local macro_rules | `(tactic| walk_at "at") => `(tactic| first | exact at0 | exact at1 | exact at2 | exact at3 | exact at4 | exact at5 | exact at6 | exact at7 | exact at8)
local macro_rules | `(tactic| walk_at "v") => `(tactic| refine ⟨_, rfl, ?_⟩)
local macro_rules | `(tactic| walk_at "ix") => `(tactic| refine ⟨_, _, _, _, rfl, rfl, SqT.of (by walk_at "now"), (by walk_at "at"), ?_⟩)
local macro_rules | `(tactic| walk_at "ixl") => `(tactic| refine ⟨_, _, _, _, rfl, rfl, SqL.of (by walk_at "now"), (by walk_at "at"), ?_⟩)
local macro_rules | `(tactic| walk_at "str") => `(tactic| refine ⟨_, _, rfl, rfl, (by walk_at "len"), ?_⟩)
local macro_rules | `(tactic| walk_at "int") => `(tactic| refine ⟨_, _, rfl, rfl, ?_⟩)
local macro_rules | `(tactic| walk_at "eq") => `(tactic| refine ⟨rfl, _, rfl, ?_⟩)
local macro_rules | `(tactic| walk_at "app") => `(tactic| refine ⟨_, _, _, rfl, rfl, (by walk_at "now"), (by walk_at "lt"), ?_⟩)
local macro_rules | `(tactic| walk_at "ext") => `(tactic| refine ⟨_, _, _, _, rfl, rfl, (by walk_at "now"), (by walk_at "now"), (by walk_at "le"), ?_⟩)
local macro_rules | `(tactic| walk_at "cat") => `(tactic| refine ⟨_, _, _, _, rfl, rfl, (by walk_at "now"), (by walk_at "now"), (by walk_at "le"), ?_⟩)
local macro_rules | `(tactic| walk_at "num") => `(tactic| refine ⟨(by assumption : Nu _), ?_⟩)
local macro_rules | `(tactic| walk_at "ty") => `(tactic| refine ⟨Or.inl ⟨rfl, _, SqL.of (by walk_at "now")⟩, ?_⟩)
local macro_rules | `(tactic| walk_at "un2") => `(tactic| refine ⟨_, _, rfl, SqT.of (by walk_at "now"), rfl, _, _, rfl, _, _, rfl, rfl, ?_⟩)
local macro_rules | `(tactic| walk_at "un3") => `(tactic| refine ⟨_, _, rfl, SqT.of (by walk_at "now"), rfl, _, _, rfl, _, _, rfl, _, _, rfl, rfl, ?_⟩)
local macro_rules | `(tactic| walk_at "un4") => `(tactic| refine ⟨_, _, rfl, SqT.of (by walk_at "now"), rfl, _, _, rfl, _, _, rfl, _, _, rfl, _, _, rfl, rfl, ?_⟩)
local macro_rules | `(tactic| walk_at "un6") => `(tactic| refine ⟨_, _, rfl, SqT.of (by walk_at "now"), rfl, _, _, rfl, _, _, rfl, _, _, rfl, _, _, rfl, _, _, rfl, _, _, rfl, rfl, ?_⟩)
local macro_rules | `(tactic| walk_at "un9") => `(tactic| refine ⟨_, _, rfl, SqT.of (by walk_at "now"), rfl, _, _, rfl, _, _, rfl, _, _, rfl, _, _, rfl, _, _, rfl, _, _, rfl, _, _, rfl, _, _, rfl, _, _, rfl, rfl, ?_⟩)
local macro_rules | `(tactic| walk_at "go") => `(tactic| repeat (first | walk_at "v" | walk_at "eq" | walk_at "ix" | walk_at "str" | walk_at "ty" | walk_at "num"))

section
variable {P : Program} {w : World} {K : PySem.W.Frag} {mg : Str → Option Value} {base : Heap} {k : Nat}
/-! ### field_text, operand_text, expression_text, row_text, field_lines -/
def spFieldText : Sp := fun vs H Q _ => ∃ f v, vs = [v] ∧ At H v (eFld f) ∧ wFld f ∧ ∀ H', Same H H' → Q (.str (xFld f)) H'
def spOperandText : Sp := fun vs H Q _ => ∃ o v, vs = [v] ∧ At H v (eOpd o) ∧ wOpd o ∧ ∀ H', Same H H' → Q (.str (xOpd o)) H'
def spExpText : Sp := fun vs H Q _ => ∃ o v, vs = [v] ∧ At H v (eExp o) ∧ wExp o ∧ ∀ H', Same H H' → Q (.str (xExp o)) H'
def spRowText : Sp := fun vs H Q _ => ∃ r v, vs = [v] ∧ At H v (eRow r) ∧ wRow r ∧ ∀ H', Same H H' → Q (.str (xVal r.1 r.2.1 ++ " -> " ++ r.2.2 ++ ";")) H'
def spFieldLines : Sp := fun vs H Q _ => ∃ ps v, vs = [v, .str ""] ∧ At H v (.list (ps.map ePar)) ∧ Few wPar ps ∧ ∀ a H', Same H H' → H' a = some (.lst ((ps.map lPar).map V.str)) → Q (.ref a) H'
abbrev s_field_text : Stmt := top 44
abbrev n_field_text : List Str := ["field"]
theorem sc_field_text : FnScope n_field_text ["field"] (defScope s_field_text) := ⟨rfl, rfl, rfl, by decide +kernel, rfl, by decide +kernel, by decide +kernel⟩
/- slots: 0 field -/
theorem ok_field_text (h : Has K mg "field_text" s_field_text ["field"]) : Ok P w K mg base (k + 1) "field_text" ["field"] spFieldText := by
  refine h.ok sc_field_text (fun vs H Q E h => ?_) (fun f0 cdv A outer s H vs Q E hr h => ?_)
  · obtain ⟨f, v, rfl, _⟩ := h; rfl
  obtain ⟨f, v, rfl, hv, ⟨w1, w2⟩, q⟩ := h
  obtain ⟨a, x1, x2, rfl, ha, h1, h2⟩ := At.t2 hv
  obtain rfl := h1.str_inv
  obtain rfl := h2.str_inv
  have l1 := w1.len
  have l2 := w2.len
  refine ⟨_, (pss_one (ps_ret (pe_op op_add_str (pe_op op_add_str (pe_ix ix_tup (pv 0) pe_int (fun _ _ => rfl)) pe_str) (pe_ix ix_tup (pv 0) pe_int (fun _ _ => rfl))))), ?_⟩
  walk_at "go"
  exact q _ (Same.refl _)
abbrev s_operand_text : Stmt := top 45
abbrev n_operand_text : List Str := ["operand"]
theorem sc_operand_text : FnScope n_operand_text ["operand"] (defScope s_operand_text) := ⟨rfl, rfl, rfl, by decide +kernel, rfl, by decide +kernel, by decide +kernel⟩
/- slots: 0 operand -/
theorem ok_operand_text (B : Bt mg) (h : Has K mg "operand_text" s_operand_text ["operand"]) : Ok P w K mg base (k + 1) "operand_text" ["operand"] spOperandText := by
  refine h.ok sc_operand_text (fun vs H Q E h => ?_) (fun f0 cdv A outer s H vs Q E hr h => ?_)
  · obtain ⟨f, v, rfl, _⟩ := h; rfl
  obtain ⟨o, v, rfl, hv, hw, q⟩ := h
  refine ⟨_, (pss_cons (ps_if (pt_cmpR op_eq (pe_ix ix_tup (pv 0) pe_int (fun _ _ => rfl)) pe_str (nomark _)) (pss_one (ps_ret (pe_callTy call_str_intS (by rfl) B.str (by decide +kernel) (pa_cons (pe_ix ix_tup (pv 0) pe_int (fun _ _ => rfl)) pa_nil)))) pss_nil)
    (pss_cons (ps_if (pt_cmpR op_eq (pe_ix ix_tup (pv 0) pe_int (fun _ _ => rfl)) pe_str (nomark _)) (pss_one (ps_ret (pe_ix ix_tup (pv 0) pe_int (fun _ _ => rfl)))) pss_nil)
    (pss_one (ps_ret (pe_op op_add_str (pe_op op_add_str (pe_ix ix_tup (pv 0) pe_int (fun _ _ => rfl)) pe_str) (pe_ix ix_tup (pv 0) pe_int (fun _ _ => rfl))))))), ?_⟩
  cases o with
  | num n =>
    obtain ⟨a, x1, x2, rfl, ha, h1, h2⟩ := At.t2 hv
    obtain rfl := h1.str_inv
    obtain rfl := h2.int_inv
    have hw : Nu n := hw
    walk_at "go"
    exact q _ (Same.refl _)
  | par n =>
    obtain ⟨a, x1, x2, rfl, ha, h1, h2⟩ := At.t2 hv
    obtain rfl := h1.str_inv
    obtain rfl := h2.str_inv
    walk_at "go"
    exact q _ (Same.refl _)
  | fld o n =>
    obtain ⟨a, x1, x2, x3, rfl, ha, h1, h2, h3⟩ := At.t3 hv
    obtain rfl := h1.str_inv
    obtain rfl := h2.str_inv
    obtain rfl := h3.str_inv
    have l1 := hw.1.len
    have l2 := hw.2.len
    walk_at "go"
    exact q _ (Same.refl _)
theorem opd_in (o : Opd) : ∃ d r, eOpd o = .tuple (.str d :: r) ∧ inV (.str d) [.str "num", .str "param", .str "field"] = true := by
  cases o with
  | num n => exact ⟨_, _, rfl, by decide +kernel⟩
  | par n => exact ⟨_, _, rfl, by decide +kernel⟩
  | fld o n => exact ⟨_, _, rfl, by decide +kernel⟩
theorem bop_in (o : Bop) : inV (.str o.s) [.str "num", .str "param", .str "field"] = false := by cases o <;> decide +kernel
abbrev s_expression_text : Stmt := top 46
abbrev n_expression_text : List Str := ["e"]
theorem sc_expression_text : FnScope n_expression_text ["e"] (defScope s_expression_text) := ⟨rfl, rfl, rfl, by decide +kernel, rfl, by decide +kernel, by decide +kernel⟩
/- slots: 0 e -/
theorem ok_expression_text (h : Has K mg "expression_text" s_expression_text ["e"]) (c1 : Ok P w K mg base k "operand_text" ["operand"] spOperandText) : Ok P w K mg base (k + 1) "expression_text" ["e"] spExpText := by
  obtain ⟨f_o, fd_o, G_operand_text, m_operand_text, k_operand_text, b_operand_text⟩ := c1.ex
  refine h.ok sc_expression_text (fun vs H Q E h => ?_) (fun f0 cdv A outer s H vs Q E hr h => ?_)
  · obtain ⟨f, v, rfl, _⟩ := h; rfl
  obtain ⟨o, v, rfl, hv, hw, q⟩ := h
  refine ⟨_, (pss_cons (ps_if (pt_cmpR op_in_seq (pe_ix ix_tup (pv 0) pe_int (fun _ _ => rfl)) (pe_tupS (pa_cons pe_str (pa_cons pe_str (pa_cons pe_str pa_nil)))) (by with_unfolding_all rfl)) (pss_one (ps_ret (pe_call G_operand_text hr (by rfl) m_operand_text k_operand_text b_operand_text .nil pass0 (pa_cons (pv 0) pa_nil)))) pss_nil)
    (pss_one (ps_ret (pe_op op_add_str (pe_op op_add_str (pe_op op_add_str (pe_op op_add_str (pe_call G_operand_text hr (by rfl) m_operand_text k_operand_text b_operand_text .nil pass0 (pa_cons (pe_ix ix_tup (pv 0) pe_int (fun _ _ => rfl)) pa_nil)) pe_str) (pe_ix ix_tup (pv 0) pe_int (fun _ _ => rfl))) pe_str) (pe_call G_operand_text hr (by rfl) m_operand_text k_operand_text b_operand_text .nil pass0 (pa_cons (pe_ix ix_tup (pv 0) pe_int (fun _ _ => rfl)) pa_nil)))))), ?_⟩
  cases o with
  | one o =>
    obtain ⟨d, r, e1, e2⟩ := opd_in o
    have hv' : At H v (.tuple (.str d :: r)) := by rw [← e1]; exact hv
    obtain ⟨a, xs, rfl, ha, k1⟩ := hv'.tup_inv
    obtain ⟨x, xs, rfl, h1, k2⟩ := k1.cons_inv
    obtain rfl := h1.str_inv
    walk_at "go"
    refine ⟨sz (by decide), fun p H1 hp s1 hp1 => ⟨_, _, rfl, .inr (SqT.of hp1), rfl, rfl, ?_⟩⟩
    refine ⟨_, rfl, ?_⟩
    rw [e2]
    walk_at "go"
    exact ⟨o, _, rfl, hv.mono s1, hw, fun H2 s2 => q _ (s1.trans s2)⟩
  | bin op a b =>
    obtain ⟨a0, x1, x2, x3, rfl, ha, h1, h2, h3⟩ := At.t3 hv
    obtain rfl := h1.str_inv
    walk_at "go"
    refine ⟨sz (by decide), fun p H1 hp s1 hp1 => ⟨_, _, rfl, .inr (SqT.of hp1), rfl, rfl, ?_⟩⟩
    refine ⟨_, rfl, ?_⟩
    rw [bop_in op]
    have l1 := xOpd_len hw.1
    have l2 := xOpd_len hw.2
    have l3 := op.len
    walk_at "go"
    refine ⟨a, _, rfl, h2.mono s1, hw.1, fun H2 s2 => ?_⟩
    walk_at "go"
    refine ⟨b, _, rfl, h3.mono (s1.trans s2), hw.2, fun H3 s3 => ?_⟩
    walk_at "go"
    exact q _ ((s1.trans s2).trans s3)
abbrev s_row_text : Stmt := top 48
abbrev n_row_text : List Str := ["row", "value", "mask", "target", "left"]
theorem sc_row_text : FnScope n_row_text ["row"] (defScope s_row_text) := ⟨rfl, rfl, rfl, by decide +kernel, rfl, by decide +kernel, by decide +kernel⟩
/- slots: 0 row, 1 value, 2 mask, 3 target, 4 left -/
theorem ok_row_text (B : Bt mg) (h : Has K mg "row_text" s_row_text ["row"]) : Ok P w K mg base (k + 1) "row_text" ["row"] spRowText := by
  refine h.ok sc_row_text (fun vs H Q E h => ?_) (fun f0 cdv A outer s H vs Q E hr h => ?_)
  · obtain ⟨f, v, rfl, _⟩ := h; rfl
  obtain ⟨⟨n, m, t⟩, v, rfl, hv, ⟨w1, w2, w3⟩, q⟩ := h
  dsimp only at w1 w2 w3
  have hv : At H v (.tuple [.int n, eOI m, .str t]) := hv
  refine ⟨_, (pss_cons (ps_asg (pv 0) (pg_tup rfl (pgs_cons (pg_name (i := 1) sc_row_text.nd rfl (Or.inl rfl)) (pgs_cons (pg_name (i := 2) sc_row_text.nd rfl (Or.inl rfl)) (pgs_cons (pg_name (i := 3) sc_row_text.nd rfl (Or.inl rfl)) pgs_nil)))))
    (pss_cons (ps_set (i := 4) sc_row_text.nd rfl (Or.inl rfl) (pe_ifExp (pt_cmpR op_isN (pv 2) pe_non (nomark _)) (pe_callTy call_str_intS (by rfl) B.str (by decide +kernel) (pa_cons (pv 1) pa_nil)) (pe_op op_add_str (pe_op op_add_str (pe_callTy call_str_intS (by rfl) B.str (by decide +kernel) (pa_cons (pv 1) pa_nil)) pe_str) (pe_callTy call_str_intS (by rfl) B.str (by decide +kernel) (pa_cons (pv 2) pa_nil)))))
    (pss_one (ps_ret (pe_op op_add_str (pe_op op_add_str (pe_op op_add_str (pv 4) pe_str) (pv 3)) pe_str))))), ?_⟩
  obtain ⟨a, x1, x2, x3, rfl, ha, h1, h2, h3⟩ := At.t3 hv
  obtain rfl := h1.int_inv
  obtain rfl := h3.str_inv
  have l0 := sI_len w1
  have l3 := w3.len
  walk_at "go"
  walk_at "un3"
  cases m with
  | none =>
    obtain rfl := h2.non_inv
    walk_at "go"
    exact q _ (Same.refl _)
  | some m =>
    obtain rfl := At.int_inv h2
    have w4 := w2 m rfl
    have l4 := sI_len w4
    walk_at "go"
    exact q _ (Same.refl _)
abbrev s_field_lines : Stmt := top 47
abbrev n_field_lines : List Str := ["fields", "indent", "name", "width"]
theorem sc_field_lines : FnScope n_field_lines ["fields", "indent"] (defScope s_field_lines) := ⟨rfl, rfl, rfl, by decide +kernel, rfl, by decide +kernel, by decide +kernel⟩
/- slots: 0 fields, 1 indent(c), 2 name, 3 width -/
theorem ok_field_lines (B : Bt mg) (h : Has K mg "field_lines" s_field_lines ["fields", "indent"]) : Ok P w K mg base (k + 1) "field_lines" ["fields", "indent"] spFieldLines := by
  refine h.ok sc_field_lines (fun vs H Q E h => ?_) (fun f0 cdv A outer s H vs Q E hr h => ?_)
  · obtain ⟨f, v, rfl, _⟩ := h; rfl
  obtain ⟨ps, v, rfl, hv, ⟨w1, w2⟩, q⟩ := h
  refine ⟨_, (pss_one (ps_ret (pe_lc (own := [("name", 2), ("width", 3)]) rfl sc_field_lines.nd (pi_list (pv 0)) (blkOk_by (N := n_field_lines) (sc := defScope s_field_lines) (by decide +kernel)) (fun _ _ _ _ _ => (pg_tupK (K := K) (n := 2) rfl rfl (pgs_cons (pg_name (i := 2) sc_field_lines.nd rfl (Or.inl rfl) (Or.inr rfl)) (pgs_cons (pg_name (i := 3) sc_field_lines.nd rfl (Or.inl rfl) (Or.inr rfl)) pgs_nil)))) (fun _ _ _ _ _ => pts_nil) (fun _ _ _ _ _ => (pe_op op_add_str (pe_op op_add_str (pe_op op_add_str (pe_op op_add_str (pe_op op_add_str (pv 1) pe_str) (pv 2)) pe_str) (pe_callTy call_str_intS (by rfl) B.str (by decide +kernel) (pa_cons (pv 3) pa_nil))) pe_str))))), ?_⟩
  obtain ⟨a, xs, rfl, ha, hx⟩ := hv.lst_inv
  refine ⟨_, rfl, a, rfl, ⟨_, SqL.of ha⟩, fun D hD => lc_map ps ePar (fun p => V.str (lPar p)) hD ha hx (by omega) (fun y x H1 C C' hy hat s1 c => ?_) fun H1 s1 h1 => ?_⟩
  · obtain ⟨wn, wi⟩ := w2 y hy
    obtain ⟨a, x1, x2, rfl, ha, h1, h2⟩ := At.t2 hat
    obtain rfl := h1.str_inv
    obtain rfl := h2.int_inv
    have l1 := wn.len
    have l2 := sI_len wi
    walk_at "un2"
    refine ⟨rfl, ?_⟩
    walk_at "go"
    exact c _ (Same.refl _)
  · exact q _ _ s1 (by rw [h1, List.map_map]; rfl)
end
end WP
namespace WP
open PySem PySem.Spec PyProof.Rows L2 TL
local macro_rules | `(tactic| walk_at "len") => `(tactic| (show _ ≤ sizeLine; rw [sizeLine_eq]; (try simp only [al, lit_len]); (try simp) <;> omega))
local macro_rules | `(tactic| walk_at "lt") => `(tactic| (show _ < sizeLine; rw [sizeLine_eq]; (try simp only [List.length_map, List.length_append, List.length_cons, List.length_nil, List.length_take]); omega))
local macro_rules | `(tactic| walk_at "le") => `(tactic| (show _ ≤ sizeLine; rw [sizeLine_eq]; (try simp only [List.length_map, List.length_append, List.length_cons, List.length_nil, List.length_take]); omega))
local macro_rules | `(tactic| walk_at "now") => `(tactic| first | assumption | (refine (by assumption : Same _ _) _ _ ?_; walk_at "now"))
local macro_rules | `(tactic| walk_at "at") => `(tactic| first | exact at0 | exact at1 | exact at2 | exact at3 | exact at4 | exact at5 | exact at6 | exact at7 | exact at8)
local macro_rules | `(tactic| walk_at "v") => `(tactic| refine ⟨_, rfl, ?_⟩)
local macro_rules | `(tactic| walk_at "ix") => `(tactic| refine ⟨_, _, _, _, rfl, rfl, SqT.of (by walk_at "now"), (by walk_at "at"), ?_⟩)
local macro_rules | `(tactic| walk_at "ixl") => `(tactic| refine ⟨_, _, _, _, rfl, rfl, SqL.of (by walk_at "now"), (by walk_at "at"), ?_⟩)
local macro_rules | `(tactic| walk_at "str") => `(tactic| refine ⟨_, _, rfl, rfl, (by walk_at "len"), ?_⟩)
local macro_rules | `(tactic| walk_at "int") => `(tactic| refine ⟨_, _, rfl, rfl, ?_⟩)
local macro_rules | `(tactic| walk_at "eq") => `(tactic| refine ⟨rfl, _, rfl, ?_⟩)
local macro_rules | `(tactic| walk_at "app") => `(tactic| refine ⟨_, _, _, rfl, rfl, (by walk_at "now"), (by walk_at "lt"), ?_⟩)
local macro_rules | `(tactic| walk_at "ext") => `(tactic| refine ⟨_, _, _, _, rfl, rfl, (by walk_at "now"), (by walk_at "now"), (by walk_at "le"), ?_⟩)
local macro_rules | `(tactic| walk_at "cat") => `(tactic| refine ⟨_, _, _, _, rfl, rfl, (by walk_at "now"), (by walk_at "now"), (by walk_at "le"), ?_⟩)
local macro_rules | `(tactic| walk_at "num") => `(tactic| refine ⟨(by assumption : Nu _), ?_⟩)
local macro_rules | `(tactic| walk_at "ty") => `(tactic| refine ⟨Or.inl ⟨rfl, _, SqL.of (by walk_at "now")⟩, ?_⟩)
local macro_rules | `(tactic| walk_at "un2") => `(tactic| refine ⟨_, _, rfl, SqT.of (by walk_at "now"), rfl, _, _, rfl, _, _, rfl, rfl, ?_⟩)
local macro_rules | `(tactic| walk_at "un3") => `(tactic| refine ⟨_, _, rfl, SqT.of (by walk_at "now"), rfl, _, _, rfl, _, _, rfl, _, _, rfl, rfl, ?_⟩)
local macro_rules | `(tactic| walk_at "un4") => `(tactic| refine ⟨_, _, rfl, SqT.of (by walk_at "now"), rfl, _, _, rfl, _, _, rfl, _, _, rfl, _, _, rfl, rfl, ?_⟩)
local macro_rules | `(tactic| walk_at "un6") => `(tactic| refine ⟨_, _, rfl, SqT.of (by walk_at "now"), rfl, _, _, rfl, _, _, rfl, _, _, rfl, _, _, rfl, _, _, rfl, _, _, rfl, rfl, ?_⟩)
local macro_rules | `(tactic| walk_at "un9") => `(tactic| refine ⟨_, _, rfl, SqT.of (by walk_at "now"), rfl, _, _, rfl, _, _, rfl, _, _, rfl, _, _, rfl, _, _, rfl, _, _, rfl, _, _, rfl, _, _, rfl, _, _, rfl, rfl, ?_⟩)
local macro_rules | `(tactic| walk_at "go") => `(tactic| repeat (first | walk_at "v" | walk_at "eq" | walk_at "ix" | walk_at "str" | walk_at "ty" | walk_at "num"))

/-- a def that makes lines of a datum -/
def spLines {α : Type} (e : α → PyData) (wf : α → Prop) (ls : α → List Str) : Sp := fun vs H Q _ => ∃ s v, vs = [v] ∧ At H v (e s) ∧ wf s ∧ ∀ a H', Same H H' → H' a = some (.lst ((ls s).map V.str)) → Q (.ref a) H'
/-- a def that makes a text of a datum -/
def spText {α : Type} (e : α → PyData) (wf : α → Prop) (x : α → Str) : Sp := fun vs H Q _ => ∃ s v, vs = [v] ∧ At H v (e s) ∧ wf s ∧ ∀ H', Same H H' → Q (.str (x s)) H'
theorem lit (s : String) : Str.ofString s = (s : Str) := rfl
section
variable {P : Program} {w : World} {K : PySem.W.Frag} {mg : Str → Option Value} {base : Heap} {k : Nat}
abbrev s_state_lines : Stmt := top 49
abbrev n_state_lines : List Str := ["state", "_", "name", "header", "following", "lines", "row"]
theorem sc_state_lines : FnScope n_state_lines ["state"] (defScope s_state_lines) := ⟨rfl, rfl, rfl, by decide +kernel, rfl, by decide +kernel, by decide +kernel⟩
/- slots: 0 state, 1 _, 2 name, 3 header, 4 following, 5 lines, 6 row -/
theorem ok_state_lines (h : Has K mg "state_lines" s_state_lines ["state"]) (c1 : Ok P w K mg base k "field_text" ["field"] spFieldText) (c2 : Ok P w K mg base k "row_text" ["row"] spRowText) :
    Ok P w K mg base (k + 1) "state_lines" ["state"] (spLines eSta wSta lSta) := by
  obtain ⟨_, _, G_field_text, m_field_text, k_field_text, b_field_text⟩ := c1.ex
  obtain ⟨_, _, G_row_text, m_row_text, k_row_text, b_row_text⟩ := c2.ex
  refine h.ok sc_state_lines (fun vs H Q E h => ?_) (fun f0 cdv A outer s H vs Q E hr h => ?_)
  · obtain ⟨f, v, rfl, _⟩ := h; rfl
  obtain ⟨⟨nm, hd, nx⟩, v, rfl, hv, ⟨w1, w2, w3⟩, q⟩ := h
  dsimp only at w1 w2 w3
  have hv : At H v (.tuple [.str "state", .str nm, eON hd, eNxt nx]) := hv
  refine ⟨_, (pss_cons (ps_asg (pv 0) (pg_tup rfl (pgs_cons (pg_name (i := 1) sc_state_lines.nd rfl (Or.inl rfl)) (pgs_cons (pg_name (i := 2) sc_state_lines.nd rfl (Or.inl rfl)) (pgs_cons (pg_name (i := 3) sc_state_lines.nd rfl (Or.inl rfl)) (pgs_cons (pg_name (i := 4) sc_state_lines.nd rfl (Or.inl rfl)) pgs_nil))))))
    (pss_cons (ps_set (i := 5) sc_state_lines.nd rfl (Or.inl rfl) (pe_lstS (pa_cons (pe_op op_add_str (pe_op op_add_str pe_str (pv 2)) pe_str) pa_nil)))
    (Evl.pss_cut (ps_if (pt_cmpR op_notN (pv 3) pe_non (nomark _)) (pss_one (ps_expr (pe_bm PySem.F.plainAttrs_list PySem.F.slot_list_append PySem.F.type_list_append mt_appendS (pv 5) (pa_cons (pe_op op_add_str (pe_op op_add_str pe_str (pv 3)) pe_str) pa_nil)))) pss_nil)
    (Evl.pss_cut (ps_if (pt_cmpR op_eq (pe_ix ix_tup (pv 4) pe_int (fun _ _ => rfl)) pe_str (nomark _)) (pss_one (ps_expr (pe_bm PySem.F.plainAttrs_list PySem.F.slot_list_append PySem.F.type_list_append mt_appendS (pv 5) (pa_cons (pe_op op_add_str (pe_op op_add_str pe_str (pe_ix ix_tup (pv 4) pe_int (fun _ _ => rfl))) pe_str) pa_nil)))) (pss_cons (ps_expr (pe_bm PySem.F.plainAttrs_list PySem.F.slot_list_append PySem.F.type_list_append mt_appendS (pv 5) (pa_cons (pe_op op_add_str (pe_op op_add_str pe_str (pe_call G_field_text hr (by rfl) m_field_text k_field_text b_field_text .nil pass0 (pa_cons (pe_ix ix_tup (pv 4) pe_int (fun _ _ => rfl)) pa_nil))) pe_str) pa_nil)))
    (pss_cons (ps_for PassesOwn.never rfl (pi_list (pe_ix ix_tup (pv 4) pe_int (fun _ _ => rfl))) (pg_name (i := 6) sc_state_lines.nd rfl (Or.inl rfl)) (pss_one (ps_expr (pe_bm PySem.F.plainAttrs_list PySem.F.slot_list_append PySem.F.type_list_append mt_appendS (pv 5) (pa_cons (pe_op op_add_str pe_str (pe_call G_row_text hr (by rfl) m_row_text k_row_text b_row_text .nil pass0 (pa_cons (pv 6) pa_nil))) pa_nil)))))
    (pss_cons (ps_expr (pe_bm PySem.F.plainAttrs_list PySem.F.slot_list_append PySem.F.type_list_append mt_appendS (pv 5) (pa_cons (pe_op op_add_str (pe_op op_add_str pe_str (pe_ix ix_tup (pv 4) pe_int (fun _ _ => rfl))) pe_str) pa_nil)))
    (pss_one (ps_expr (pe_bm PySem.F.plainAttrs_list PySem.F.slot_list_append PySem.F.type_list_append mt_appendS (pv 5) (pa_cons pe_str pa_nil))))))))
    (pss_cons (ps_expr (pe_bm PySem.F.plainAttrs_list PySem.F.slot_list_append PySem.F.type_list_append mt_appendS (pv 5) (pa_cons pe_str pa_nil)))
    (pss_one (ps_ret (pv 5)))))))), ?_⟩
  obtain ⟨a, x1, x2, x3, x4, rfl, ha, h1, h2, h3, h4⟩ := At.t4 hv
  obtain rfl := h1.str_inv
  obtain rfl := h2.str_inv
  have l1 := w1.len
  walk_at "go"
  walk_at "un4"
  walk_at "go"
  refine ⟨by walk_at "le", fun L H1 hL s1 e1 => ?_⟩
  refine ⟨fun σ' H2 => σ' = [some (.ref a), some (.str "state"), some (.str nm), some x3, some x4, some (.ref L), none] ∧ Same H H2 ∧ H2 L = some (.lst ((["  state " ++ nm ++ " {"] ++ lExt hd).map V.str)), ?_, ?_⟩
  · cases hd with
    | none =>
      obtain rfl := h3.non_inv
      walk_at "go"
      exact ⟨rfl, s1, e1⟩
    | some hd =>
      obtain rfl := At.str_inv h3
      have l2 := (w2 hd rfl).len
      walk_at "go"
      refine ⟨_, _, _, rfl, rfl, e1, by walk_at "lt", fun H2 k2 e2 => ?_⟩
      exact ⟨rfl, sapp s1 hL k2, e2⟩
  rintro σ' H2 ⟨rfl, s2, e2⟩
  have z1 : (lExt hd).length ≤ 1 := by cases hd <;> simp [lExt]
  clear s1 e1
  refine ⟨fun σ' H3 => (∃ x, σ' = [some (.ref a), some (.str "state"), some (.str nm), some x3, some x4, some (.ref L), x]) ∧ Same H H3 ∧ H3 L = some (.lst ((["  state " ++ nm ++ " {"] ++ lExt hd ++ lNxt nx).map V.str)), ?_, ?_⟩
  · cases nx with
    | go t =>
      obtain ⟨b, y1, y2, rfl, hb, g1, g2⟩ := At.t2 h4
      obtain rfl := g1.str_inv
      obtain rfl := g2.str_inv
      have l2 := Tgt.len w3
      walk_at "go"
      refine ⟨_, _, _, rfl, rfl, e2, by walk_at "lt", fun H3 k3 e3 => ?_⟩
      exact ⟨⟨_, rfl⟩, sapp s2 hL k3, by rw [e3]; simp [lNxt]⟩
    | sel f rows o =>
      obtain ⟨b, y1, y2, y3, y4, rfl, hb, g1, g2, g3, g4⟩ := At.t4 h4
      obtain rfl := g1.str_inv
      obtain rfl := g4.str_inv
      obtain ⟨r, xs, rfl, hr0, hxs⟩ := g3.lst_inv
      obtain ⟨wf, ⟨wr1, wr2⟩, wo⟩ := w3
      have l2 := Tgt.len wo
      have l3 := xFld_len wf
      have l4 : xs.length = rows.length := by rw [hxs.len, List.length_map]
      walk_at "go"
      refine ⟨f, _, rfl, g2.mono s2, wf, fun H3 s3 => ?_⟩
      walk_at "go"
      refine ⟨_, _, _, rfl, rfl, s3 _ _ e2, by walk_at "lt", fun H4 k4 e4 => ?_⟩
      have s4 := sapp (s2.trans s3) hL k4
      clear s3 k4 s2 e2
      walk_at "go"
      refine ⟨⟨_, SqL.of (s4 _ _ hr0)⟩, for_list (K := K) (a := r) (xs := xs) (fun i σ' H5 => (∃ x, σ' = [some (.ref a), some (.str "state"), some (.str nm), some x3, some (.ref b), some (.ref L), x]) ∧ Same H H5 ∧
        H5 L = some (.lst ((["  state " ++ nm ++ " {"] ++ lExt hd ++ ["    select " ++ xFld f ++ " {"] ++ (rows.take i).map lRow).map V.str))) ⟨⟨_, rfl⟩, s4, by rw [e4]; simp⟩
        (fun i σ' H5 _ ⟨_, s5, _⟩ => SqL.of (s5 _ _ hr0)) ?_ ?_⟩
      · rintro i x σ' H5 hi ⟨⟨x0, rfl⟩, s5, e5⟩
        obtain ⟨y, hy, hat⟩ := hxs.getM hi
        have wy := wr2 y (List.mem_of_getElem? hy)
        have l5 := xVal_len wy.1 wy.2.1
        have l6 := wy.2.2.len
        walk_at "go"
        refine ⟨y, _, rfl, hat.mono s5, wy, fun H6 s6 => ?_⟩
        walk_at "go"
        refine ⟨_, _, _, rfl, rfl, s6 _ _ e5, by walk_at "lt", fun H7 k7 e7 => ?_⟩
        refine ⟨⟨_, rfl⟩, sapp (s5.trans s6) hL k7, ?_⟩
        rw [e7, take_s hy]
        simp [lRow, PySem.Str.append_assoc]
      · rintro σ' H5 ⟨⟨x0, rfl⟩, s5, e5⟩
        walk_at "go"
        refine ⟨_, _, _, rfl, rfl, e5, by walk_at "lt", fun H6 k6 e6 => ?_⟩
        walk_at "go"
        refine ⟨_, _, _, rfl, rfl, e6, by walk_at "lt", fun H7 k7 e7 => ?_⟩
        refine ⟨⟨_, rfl⟩, sapp (sapp s5 hL k6) hL k7, ?_⟩
        rw [e7, l4, List.take_length]
        simp [lNxt]
  rintro σ' H3 ⟨⟨x0, rfl⟩, s3, e3⟩
  have z2 : (lNxt nx).length ≤ 19 := by
    cases nx with
    | go t => show 1 ≤ 19; decide
    | sel f rows o =>
      have := w3.2.1.1
      simp [lNxt]
      omega
  walk_at "go"
  refine ⟨_, _, _, rfl, rfl, e3, by walk_at "lt", fun H4 k4 e4 => ?_⟩
  walk_at "go"
  exact q _ _ (sapp s3 hL k4) (by rw [e4]; simp [lSta])
abbrev s_operation_text : Stmt := top 50
abbrev n_operation_text : List Str := ["op"]
theorem sc_operation_text : FnScope n_operation_text ["op"] (defScope s_operation_text) := ⟨rfl, rfl, rfl, by decide +kernel, rfl, by decide +kernel, by decide +kernel⟩
/- slots: 0 op -/
theorem ok_operation_text (h : Has K mg "operation_text" s_operation_text ["op"]) (c1 : Ok P w K mg base k "field_text" ["field"] spFieldText) (c2 : Ok P w K mg base k "expression_text" ["e"] spExpText) :
    Ok P w K mg base (k + 1) "operation_text" ["op"] (spText eOpn wOpn (fun o => xOpn o ++ ";")) := by
  obtain ⟨_, _, G_field_text, m_field_text, k_field_text, b_field_text⟩ := c1.ex
  obtain ⟨_, _, G_expression_text, m_expression_text, k_expression_text, b_expression_text⟩ := c2.ex
  refine h.ok sc_operation_text (fun vs H Q E h => ?_) (fun f0 cdv A outer s H vs Q E hr h => ?_)
  · obtain ⟨f, v, rfl, _⟩ := h; rfl
  obtain ⟨o, v, rfl, hv, hw, q⟩ := h
  refine ⟨_, (pss_cons (ps_if (pt_cmpR op_eq (pe_ix ix_tup (pv 0) pe_int (fun _ _ => rfl)) pe_str (nomark _)) (pss_one (ps_ret (pe_op op_add_str (pe_op op_add_str (pe_op op_add_str (pe_call G_field_text hr (by rfl) m_field_text k_field_text b_field_text .nil pass0 (pa_cons (pe_ix ix_tup (pv 0) pe_int (fun _ _ => rfl)) pa_nil)) pe_str) (pe_call G_expression_text hr (by rfl) m_expression_text k_expression_text b_expression_text .nil pass0 (pa_cons (pe_ix ix_tup (pv 0) pe_int (fun _ _ => rfl)) pa_nil))) pe_str))) pss_nil)
    (pss_cons (ps_if (pt_cmpR op_eq (pe_ix ix_tup (pv 0) pe_int (fun _ _ => rfl)) pe_str (nomark _)) (pss_one (ps_ret (pe_op op_add_str (pe_op op_add_str pe_str (pe_call G_expression_text hr (by rfl) m_expression_text k_expression_text b_expression_text .nil pass0 (pa_cons (pe_ix ix_tup (pv 0) pe_int (fun _ _ => rfl)) pa_nil))) pe_str))) pss_nil)
    (pss_cons (ps_if (pt_cmpR op_eq (pe_ix ix_tup (pv 0) pe_int (fun _ _ => rfl)) pe_str (nomark _)) (pss_one (ps_ret pe_str)) pss_nil)
    (pss_one (ps_ret (pe_op op_add_str (pe_op op_add_str (pe_op op_add_str (pe_ix ix_tup (pv 0) pe_int (fun _ _ => rfl)) pe_str) (pe_ix ix_tup (pv 0) pe_int (fun _ _ => rfl))) pe_str)))))), ?_⟩
  cases o with
  | set f e =>
    obtain ⟨a, x1, x2, x3, rfl, ha, h1, h2, h3⟩ := At.t3 hv
    obtain rfl := h1.str_inv
    have l1 := xFld_len hw.1
    have l2 := xExp_len hw.2
    walk_at "go"
    refine ⟨f, _, rfl, h2, hw.1, fun H1 s1 => ?_⟩
    walk_at "go"
    refine ⟨e, _, rfl, h3.mono s1, hw.2, fun H2 s2 => ?_⟩
    walk_at "go"
    exact q _ (s1.trans s2)
  | send e =>
    obtain ⟨a, x1, x2, rfl, ha, h1, h2⟩ := At.t2 hv
    obtain rfl := h1.str_inv
    have l2 := xExp_len hw
    walk_at "go"
    refine ⟨e, _, rfl, h2, hw, fun H1 s1 => ?_⟩
    walk_at "go"
    exact q _ s1
  | drop =>
    obtain ⟨a, x1, rfl, ha, h1⟩ := At.t1 hv
    obtain rfl := h1.str_inv
    have q' : Q (.str (xOpn .drop ++ ";")) H := q _ (Same.refl _)
    rw [show xOpn .drop ++ ";" = ("drop;" : Str) from by decide +kernel] at q'
    walk_at "go"
    exact ifE rfl q'
  | add t =>
    obtain ⟨a, x1, x2, rfl, ha, h1, h2⟩ := At.t2 hv
    obtain rfl := h1.str_inv
    obtain rfl := h2.str_inv
    have l2 := Nm.len hw
    walk_at "go"
    exact q _ (Same.refl _)
  | rem t =>
    obtain ⟨a, x1, x2, rfl, ha, h1, h2⟩ := At.t2 hv
    obtain rfl := h1.str_inv
    obtain rfl := h2.str_inv
    have l2 := Nm.len hw
    walk_at "go"
    exact q _ (Same.refl _)
abbrev s_action_lines : Stmt := top 51
abbrev n_action_lines : List Str := ["action", "params", "lines", "op", "name", "width"]
theorem sc_action_lines : FnScope n_action_lines ["action"] (defScope s_action_lines) := ⟨rfl, rfl, rfl, by decide +kernel, rfl, by decide +kernel, by decide +kernel⟩
/- slots: 0 action, 1 params, 2 lines, 3 op, 4 name, 5 width -/
theorem ok_action_lines (B : Bt mg) (h : Has K mg "action_lines" s_action_lines ["action"]) (c1 : Ok P w K mg base k "operation_text" ["op"] (spText eOpn wOpn (fun o => xOpn o ++ ";"))) :
    Ok P w K mg base (k + 1) "action_lines" ["action"] (spLines eAct wAct lAct) := by
  obtain ⟨_, _, G_operation_text, m_operation_text, k_operation_text, b_operation_text⟩ := c1.ex
  refine h.ok sc_action_lines (fun vs H Q E h => ?_) (fun f0 cdv A outer s H vs Q E hr h => ?_)
  · obtain ⟨f, v, rfl, _⟩ := h; rfl
  obtain ⟨⟨nm, ps, os⟩, v, rfl, hv, ⟨w1, w2, w3⟩, q⟩ := h
  dsimp only at w1 w2 w3
  have hv : At H v (.tuple [.str "action", .str nm, .list (ps.map ePar), .list (os.map eOpn)]) := hv
  refine ⟨_, (pss_cons (ps_set (i := 1) sc_action_lines.nd rfl (Or.inl rfl) (pe_join pe_str (pe_lc (own := [("name", 4), ("width", 5)]) rfl sc_action_lines.nd (pi_list (pe_ix ix_tup (pv 0) pe_int (fun _ _ => rfl))) (blkOk_by (N := n_action_lines) (sc := defScope s_action_lines) (by decide +kernel)) (fun _ _ _ _ _ => (pg_tupK (K := K) (n := 2) rfl rfl (pgs_cons (pg_name (i := 4) sc_action_lines.nd rfl (Or.inl rfl) (Or.inr rfl)) (pgs_cons (pg_name (i := 5) sc_action_lines.nd rfl (Or.inl rfl) (Or.inr rfl)) pgs_nil)))) (fun _ _ _ _ _ => pts_nil) (fun _ _ _ _ _ => (pe_op op_add_str (pe_op op_add_str (pv 4) pe_str) (pe_callTy call_str_intS (by rfl) B.str (by decide +kernel) (pa_cons (pv 5) pa_nil)))))))
    (pss_cons (ps_set (i := 2) sc_action_lines.nd rfl (Or.inl rfl) (pe_lstS (pa_cons (pe_op op_add_str (pe_op op_add_str (pe_op op_add_str (pe_op op_add_str pe_str (pe_ix ix_tup (pv 0) pe_int (fun _ _ => rfl))) pe_str) (pv 1)) pe_str) pa_nil)))
    (pss_cons (ps_for PassesOwn.never rfl (pi_list (pe_ix ix_tup (pv 0) pe_int (fun _ _ => rfl))) (pg_name (i := 3) sc_action_lines.nd rfl (Or.inl rfl)) (pss_one (ps_expr (pe_bm PySem.F.plainAttrs_list PySem.F.slot_list_append PySem.F.type_list_append mt_appendS (pv 2) (pa_cons (pe_op op_add_str pe_str (pe_call G_operation_text hr (by rfl) m_operation_text k_operation_text b_operation_text .nil pass0 (pa_cons (pv 3) pa_nil))) pa_nil)))))
    (pss_cons (ps_expr (pe_bm PySem.F.plainAttrs_list PySem.F.slot_list_append PySem.F.type_list_append mt_appendS (pv 2) (pa_cons pe_str pa_nil)))
    (pss_one (ps_ret (pv 2))))))), ?_⟩
  obtain ⟨a, x1, x2, x3, x4, rfl, ha, h1, h2, h3, h4⟩ := At.t4 hv
  obtain rfl := h1.str_inv
  obtain rfl := h2.str_inv
  obtain ⟨b, xs, rfl, hb, hxs⟩ := h3.lst_inv
  obtain ⟨c, ys, rfl, hc, hys⟩ := h4.lst_inv
  have l1 := w1.len
  obtain ⟨l2, l3⟩ := pars_len w2
  have l4 : ys.length = os.length := by rw [hys.len, List.length_map]
  have l5 := w3.1
  refine ⟨⟨_, rfl⟩, ?_⟩
  walk_at "go"
  refine ⟨⟨_, SqL.of hb⟩, fun D hD => lc_map ps ePar (fun p => V.str (xPar p)) hD hb hxs (by have := w2.1; omega) (fun y x H1 C C' hy hat s1 c => ?_) fun H1 s1 h1 => ?_⟩
  · obtain ⟨wn, wi⟩ := w2.2 y hy
    obtain ⟨a, x1, x2, rfl, ha, h1, h2⟩ := At.t2 hat
    obtain rfl := h1.str_inv
    obtain rfl := h2.int_inv
    have l1 := wn.len
    have l2 := sI_len wi
    walk_at "un2"
    refine ⟨rfl, ?_⟩
    walk_at "go"
    exact c _ (Same.refl _)
  refine ⟨", ", D, ps.map xPar, rfl, rfl, .inl (SqL.of (by rw [h1, List.map_map]; rfl)), l3, ?_⟩
  rw [join_eq]
  walk_at "go"
  refine ⟨by walk_at "le", fun L H2 hL s2 e2 => ?_⟩
  have s3 := s1.trans s2
  have hL0 : H L = none := s1.free hL
  walk_at "go"
  refine ⟨⟨_, SqL.of (s3 _ _ hc)⟩, for_list (K := K) (a := c) (xs := ys) (fun i σ' H5 => (∃ x, σ' = [some (.ref a), some (.str (Str.join ", " (ps.map xPar))), some (.ref L), x, none, none]) ∧ Same H H5 ∧
    H5 L = some (.lst ((["action " ++ nm ++ "(" ++ Str.join ", " (ps.map xPar) ++ ") {"] ++ (os.take i).map lOpn).map V.str))) ⟨⟨_, rfl⟩, s3, by rw [e2]; simp⟩
    (fun i σ' H5 _ ⟨_, s5, _⟩ => SqL.of (s5 _ _ hc)) ?_ ?_⟩
  · rintro i x σ' H5 hi ⟨⟨x0, rfl⟩, s5, e5⟩
    obtain ⟨y, hy, hat⟩ := hys.getM hi
    have wy := w3.2 y (List.mem_of_getElem? hy)
    have l6 := xOpn_len wy
    walk_at "go"
    refine ⟨y, _, rfl, hat.mono s5, wy, fun H6 s6 => ?_⟩
    walk_at "go"
    refine ⟨_, _, _, rfl, rfl, s6 _ _ e5, by walk_at "lt", fun H7 k7 e7 => ?_⟩
    refine ⟨⟨_, rfl⟩, sapp (s5.trans s6) hL0 k7, ?_⟩
    rw [e7, take_s hy]
    simp [lOpn, PySem.Str.append_assoc]
  · rintro σ' H5 ⟨⟨x0, rfl⟩, s5, e5⟩
    walk_at "go"
    refine ⟨_, _, _, rfl, rfl, e5, by walk_at "lt", fun H6 k6 e6 => ?_⟩
    walk_at "go"
    exact q _ _ (sapp s5 hL0 k6) (by rw [e6, l4, List.take_length]; simp [lAct])
end
end WP
namespace WP
open PySem PySem.Spec PyProof.Rows L2 TL
local macro_rules | `(tactic| walk_at "len") => `(tactic| (show _ ≤ sizeLine; rw [sizeLine_eq]; (try simp only [al, lit_len]); (try simp) <;> omega))
local macro_rules | `(tactic| walk_at "lt") => `(tactic| (show _ < sizeLine; rw [sizeLine_eq]; (try simp only [List.length_map, List.length_append, List.length_cons, List.length_nil, List.length_take]); omega))
local macro_rules | `(tactic| walk_at "le") => `(tactic| (show _ ≤ sizeLine; rw [sizeLine_eq]; (try simp only [List.length_map, List.length_append, List.length_cons, List.length_nil, List.length_take]); omega))
local macro_rules | `(tactic| walk_at "now") => `(tactic| first | assumption | (refine (by assumption : Same _ _) _ _ ?_; walk_at "now"))
local macro_rules | `(tactic| walk_at "at") => `(tactic| first | exact at0 | exact at1 | exact at2 | exact at3 | exact at4 | exact at5 | exact at6 | exact at7 | exact at8)
local macro_rules | `(tactic| walk_at "v") => `(tactic| refine ⟨_, rfl, ?_⟩)
local macro_rules | `(tactic| walk_at "ix") => `(tactic| refine ⟨_, _, _, _, rfl, rfl, SqT.of (by walk_at "now"), (by walk_at "at"), ?_⟩)
local macro_rules | `(tactic| walk_at "ixl") => `(tactic| refine ⟨_, _, _, _, rfl, rfl, SqL.of (by walk_at "now"), (by walk_at "at"), ?_⟩)
local macro_rules | `(tactic| walk_at "str") => `(tactic| refine ⟨_, _, rfl, rfl, (by walk_at "len"), ?_⟩)
local macro_rules | `(tactic| walk_at "int") => `(tactic| refine ⟨_, _, rfl, rfl, ?_⟩)
local macro_rules | `(tactic| walk_at "eq") => `(tactic| refine ⟨rfl, _, rfl, ?_⟩)
local macro_rules | `(tactic| walk_at "app") => `(tactic| refine ⟨_, _, _, rfl, rfl, (by walk_at "now"), (by walk_at "lt"), ?_⟩)
local macro_rules | `(tactic| walk_at "ext") => `(tactic| refine ⟨_, _, _, _, rfl, rfl, (by walk_at "now"), (by walk_at "now"), (by walk_at "le"), ?_⟩)
local macro_rules | `(tactic| walk_at "cat") => `(tactic| refine ⟨_, _, _, _, rfl, rfl, (by walk_at "now"), (by walk_at "now"), (by walk_at "le"), ?_⟩)
local macro_rules | `(tactic| walk_at "num") => `(tactic| refine ⟨(by assumption : Nu _), ?_⟩)
local macro_rules | `(tactic| walk_at "ty") => `(tactic| refine ⟨Or.inl ⟨rfl, _, SqL.of (by walk_at "now")⟩, ?_⟩)
local macro_rules | `(tactic| walk_at "un2") => `(tactic| refine ⟨_, _, rfl, SqT.of (by walk_at "now"), rfl, _, _, rfl, _, _, rfl, rfl, ?_⟩)
local macro_rules | `(tactic| walk_at "un3") => `(tactic| refine ⟨_, _, rfl, SqT.of (by walk_at "now"), rfl, _, _, rfl, _, _, rfl, _, _, rfl, rfl, ?_⟩)
local macro_rules | `(tactic| walk_at "un4") => `(tactic| refine ⟨_, _, rfl, SqT.of (by walk_at "now"), rfl, _, _, rfl, _, _, rfl, _, _, rfl, _, _, rfl, rfl, ?_⟩)
local macro_rules | `(tactic| walk_at "un6") => `(tactic| refine ⟨_, _, rfl, SqT.of (by walk_at "now"), rfl, _, _, rfl, _, _, rfl, _, _, rfl, _, _, rfl, _, _, rfl, _, _, rfl, rfl, ?_⟩)
local macro_rules | `(tactic| walk_at "un9") => `(tactic| refine ⟨_, _, rfl, SqT.of (by walk_at "now"), rfl, _, _, rfl, _, _, rfl, _, _, rfl, _, _, rfl, _, _, rfl, _, _, rfl, _, _, rfl, _, _, rfl, _, _, rfl, rfl, ?_⟩)
local macro_rules | `(tactic| walk_at "go") => `(tactic| repeat (first | walk_at "v" | walk_at "eq" | walk_at "ix" | walk_at "str" | walk_at "ty" | walk_at "num"))

/-- what a test's text wants, of at most n - 1 nots -/
def spTst : Nat → Sp
  | 0 => fun _ _ _ _ => False
  | n + 1 => spText eTst (fun t => n ≤ 8 ∧ wTst n t) xTst
def spStm : Nat → Sp
  | 0 => fun _ _ _ _ => False
  | n + 1 => fun vs H Q _ => ∃ b ind v, vs = [v, .str ind] ∧ At H v (.list (eB b)) ∧ wB n b ∧ b.count ≤ 16 ∧ ind.length + 2 * n ≤ 20 ∧ ∀ a H', Same H H' → H' a = some (.lst ((lB ind b).map V.str)) → Q (.ref a) H'
theorem eB_some (b : Blk) : decide ((0 : Int) < ((eB b).length : Int)) = b.some := by
  cases b <;> simp [eB, Blk.some] <;> omega
section
variable {P : Program} {w : World} {K : PySem.W.Frag} {mg : Str → Option Value} {base : Heap} {k : Nat}
abbrev s_table_lines : Stmt := top 52
abbrev n_table_lines : List Str := ["table", "_", "name", "keys", "uses", "default", "size", "lines", "field", "kind", "action", "args", "arg"]
theorem sc_table_lines : FnScope n_table_lines ["table"] (defScope s_table_lines) := ⟨rfl, rfl, rfl, by decide +kernel, rfl, by decide +kernel, by decide +kernel⟩
/- slots: 0 table, 1 _, 2 name, 3 keys, 4 uses, 5 default, 6 size, 7 lines, 8 field, 9 kind, 10 action, 11 args, 12 arg -/
theorem ok_table_lines (B : Bt mg) (h : Has K mg "table_lines" s_table_lines ["table"]) (c1 : Ok P w K mg base k "field_text" ["field"] spFieldText) :
    Ok P w K mg base (k + 1) "table_lines" ["table"] (spLines eTab wTab lTab) := by
  obtain ⟨_, _, G_field_text, m_field_text, k_field_text, b_field_text⟩ := c1.ex
  refine h.ok sc_table_lines (fun vs H Q E h => ?_) (fun f0 cdv A outer s H vs Q E hr h => ?_)
  · obtain ⟨f, v, rfl, _⟩ := h; rfl
  obtain ⟨⟨nm, ks, us, df, as, sz'⟩, v, rfl, hv, ⟨w1, w2, w3, w4, w5, w6⟩, q⟩ := h
  dsimp only at w1 w2 w3 w4 w5 w6
  have hv : At H v (.tuple [.str "table", .str nm, .list (ks.map eKey), .list (us.map .str), .tuple [.str df, .list (as.map .int)], .int sz']) := hv
  refine ⟨_, (pss_cons (ps_asg (pv 0) (pg_tup rfl (pgs_cons (pg_name (i := 1) sc_table_lines.nd rfl (Or.inl rfl)) (pgs_cons (pg_name (i := 2) sc_table_lines.nd rfl (Or.inl rfl)) (pgs_cons (pg_name (i := 3) sc_table_lines.nd rfl (Or.inl rfl)) (pgs_cons (pg_name (i := 4) sc_table_lines.nd rfl (Or.inl rfl)) (pgs_cons (pg_name (i := 5) sc_table_lines.nd rfl (Or.inl rfl)) (pgs_cons (pg_name (i := 6) sc_table_lines.nd rfl (Or.inl rfl)) pgs_nil))))))))
    (pss_cons (ps_set (i := 7) sc_table_lines.nd rfl (Or.inl rfl) (pe_lstS (pa_cons (pe_op op_add_str (pe_op op_add_str pe_str (pv 2)) pe_str) pa_nil)))
    (pss_cons (ps_for PassesOwn.never rfl (pi_list (pv 3)) (pg_tup rfl (pgs_cons (pg_name (i := 8) sc_table_lines.nd rfl (Or.inl rfl)) (pgs_cons (pg_name (i := 9) sc_table_lines.nd rfl (Or.inl rfl)) pgs_nil))) (pss_one (ps_expr (pe_bm PySem.F.plainAttrs_list PySem.F.slot_list_append PySem.F.type_list_append mt_appendS (pv 7) (pa_cons (pe_op op_add_str (pe_op op_add_str (pe_op op_add_str (pe_op op_add_str pe_str (pe_call G_field_text hr (by rfl) m_field_text k_field_text b_field_text .nil pass0 (pa_cons (pv 8) pa_nil))) pe_str) (pv 9)) pe_str) pa_nil)))))
    (pss_cons (ps_for PassesOwn.never rfl (pi_list (pv 4)) (pg_name (i := 10) sc_table_lines.nd rfl (Or.inl rfl)) (pss_one (ps_expr (pe_bm PySem.F.plainAttrs_list PySem.F.slot_list_append PySem.F.type_list_append mt_appendS (pv 7) (pa_cons (pe_op op_add_str (pe_op op_add_str pe_str (pv 10)) pe_str) pa_nil)))))
    (pss_cons (ps_set (i := 11) sc_table_lines.nd rfl (Or.inl rfl) (pe_join pe_str (pe_lc (own := [("arg", 12)]) rfl sc_table_lines.nd (pi_list (pe_ix ix_tup (pv 5) pe_int (fun _ _ => rfl))) (blkOk_by (N := n_table_lines) (sc := defScope s_table_lines) (by decide +kernel)) (fun _ _ _ _ _ => (pg_name (i := 12) sc_table_lines.nd rfl (Or.inl rfl) (Or.inr rfl))) (fun _ _ _ _ _ => pts_nil) (fun _ _ _ _ _ => (pe_callTy call_str_intS (by rfl) B.str (by decide +kernel) (pa_cons (pv 12) pa_nil))))))
    (pss_cons (ps_expr (pe_bm PySem.F.plainAttrs_list PySem.F.slot_list_append PySem.F.type_list_append mt_appendS (pv 7) (pa_cons (pe_op op_add_str (pe_op op_add_str (pe_op op_add_str (pe_op op_add_str pe_str (pe_ix ix_tup (pv 5) pe_int (fun _ _ => rfl))) pe_str) (pv 11)) pe_str) pa_nil)))
    (pss_cons (ps_expr (pe_bm PySem.F.plainAttrs_list PySem.F.slot_list_append PySem.F.type_list_append mt_appendS (pv 7) (pa_cons (pe_op op_add_str (pe_op op_add_str pe_str (pe_callTy call_str_intS (by rfl) B.str (by decide +kernel) (pa_cons (pv 6) pa_nil))) pe_str) pa_nil)))
    (pss_cons (ps_expr (pe_bm PySem.F.plainAttrs_list PySem.F.slot_list_append PySem.F.type_list_append mt_appendS (pv 7) (pa_cons pe_str pa_nil)))
    (pss_one (ps_ret (pv 7))))))))))), ?_⟩
  obtain ⟨a, x1, x2, x3, x4, x5, x6, rfl, ha, h1, h2, h3, h4, h5, h6⟩ := At.t6 hv
  obtain rfl := h1.str_inv
  obtain rfl := h2.str_inv
  obtain rfl := h6.int_inv
  obtain ⟨b, xs, rfl, hb, hxs⟩ := h3.lst_inv
  obtain ⟨c, ys, rfl, hc, hys⟩ := h4.lst_inv
  obtain rfl := AtL.strs_inv hys
  obtain ⟨d, y1, y2, rfl, hd, g1, g2⟩ := At.t2 h5
  obtain rfl := g1.str_inv
  obtain ⟨e, zs, rfl, he, hzs⟩ := g2.lst_inv
  have l1 := w1.len
  have l2 := w4.len
  have l3 := sI_len w6
  obtain ⟨l4, l5⟩ := nums_len w5
  have l6 : xs.length = ks.length := by rw [hxs.len, List.length_map]
  have l7 := w2.1
  have l8 := w3.1
  walk_at "go"
  walk_at "un6"
  walk_at "go"
  refine ⟨by walk_at "le", fun L H1 hL s1 e1 => ?_⟩
  walk_at "go"
  refine ⟨⟨_, SqL.of (s1 _ _ hb)⟩, for_list (K := K) (a := b) (xs := xs) (fun i σ' H5 => (∃ p q, σ' = [some (.ref a), some (.str "table"), some (.str nm), some (.ref b), some (.ref c), some (.ref d), some (.int sz'), some (.ref L), p, q, none, none, none]) ∧ Same H H5 ∧
    H5 L = some (.lst ((["table " ++ nm ++ " {"] ++ (ks.take i).map lKey).map V.str))) ⟨⟨_, _, rfl⟩, s1, by rw [e1]; simp⟩
    (fun i σ' H5 _ ⟨_, s5, _⟩ => SqL.of (s5 _ _ hb)) ?_ ?_⟩
  · rintro i x σ' H5 hi ⟨⟨x0, x1, rfl⟩, s5, e5⟩
    obtain ⟨y, hy, hat⟩ := hxs.getM hi
    have wy := w2.2 y (List.mem_of_getElem? hy)
    have l9 := xFld_len wy
    have l10 := y.2.len
    obtain ⟨a2, z1, z2, rfl, ha2, i1, i2⟩ := At.t2 hat
    obtain rfl := i2.str_inv
    walk_at "un2"
    walk_at "go"
    refine ⟨y.1, _, rfl, i1.mono s5, wy, fun H6 s6 => ?_⟩
    walk_at "go"
    refine ⟨_, _, _, rfl, rfl, s6 _ _ e5, by walk_at "lt", fun H7 k7 e7 => ?_⟩
    refine ⟨⟨_, _, rfl⟩, sapp (s5.trans s6) hL k7, ?_⟩
    rw [e7, take_s hy]
    simp [lKey]
  rintro σ' H2 ⟨⟨p0, q0, rfl⟩, s2, e2⟩
  rw [l6, List.take_length] at e2
  clear s1 e1
  walk_at "go"
  refine ⟨⟨_, SqL.of (s2 _ _ hc)⟩, for_list (K := K) (a := c) (xs := us.map V.str) (fun i σ' H5 => (∃ r, σ' = [some (.ref a), some (.str "table"), some (.str nm), some (.ref b), some (.ref c), some (.ref d), some (.int sz'), some (.ref L), p0, q0, r, none, none]) ∧ Same H H5 ∧
    H5 L = some (.lst ((["table " ++ nm ++ " {"] ++ ks.map lKey ++ (us.take i).map lUse).map V.str))) ⟨⟨_, rfl⟩, s2, by rw [e2]; simp⟩
    (fun i σ' H5 _ ⟨_, s5, _⟩ => SqL.of (s5 _ _ hc)) ?_ ?_⟩
  · rintro i x σ' H5 hi ⟨⟨r0, rfl⟩, s5, e5⟩
    obtain ⟨y, hy, hat⟩ := hys.getM hi
    obtain rfl := hat.str_inv
    have l9 := (w3.2 y (List.mem_of_getElem? hy)).len
    walk_at "go"
    refine ⟨_, _, _, rfl, rfl, e5, by walk_at "lt", fun H7 k7 e7 => ?_⟩
    refine ⟨⟨_, rfl⟩, sapp s5 hL k7, ?_⟩
    rw [e7, take_s hy]
    simp [lUse]
  rintro σ' H3 ⟨⟨r0, rfl⟩, s3, e3⟩
  rw [List.length_map, List.take_length] at e3
  clear s2 e2
  refine ⟨⟨_, rfl⟩, ?_⟩
  walk_at "go"
  refine ⟨⟨_, SqL.of (s3 _ _ he)⟩, fun D hD => lc_map as PyData.int (fun n => V.str (sI n)) hD (s3 _ _ he) (hzs.mono s3) (by have := w5.1; omega) (fun y x H1 C C' hy hat s1 c => ?_) fun H4 s4 h4 => ?_⟩
  · have wi := w5.2 y hy
    obtain rfl := hat.int_inv
    refine ⟨rfl, ?_⟩
    walk_at "go"
    exact c _ (Same.refl _)
  refine ⟨", ", D, as.map sI, rfl, rfl, .inl (SqL.of (by rw [h4, List.map_map]; rfl)), l5, ?_⟩
  rw [join_eq]
  have e4 := s4 _ _ e3
  have s5 := s3.trans s4
  clear s3 e3 s4
  walk_at "go"
  refine ⟨_, _, _, rfl, rfl, e4, by walk_at "lt", fun H5 k5 e5 => ?_⟩
  have s6 := sapp s5 hL k5
  clear s5
  walk_at "go"
  refine ⟨_, _, _, rfl, rfl, e5, by walk_at "lt", fun H6 k6 e6 => ?_⟩
  have s7 := sapp s6 hL k6
  clear s6
  walk_at "go"
  refine ⟨_, _, _, rfl, rfl, e6, by walk_at "lt", fun H7 k7 e7 => ?_⟩
  walk_at "go"
  exact q _ _ (sapp s7 hL k7) (by rw [e7]; simp [lTab])
abbrev s_test_text : Stmt := top 53
abbrev n_test_text : List Str := ["test"]
theorem sc_test_text : FnScope n_test_text ["test"] (defScope s_test_text) := ⟨rfl, rfl, rfl, by decide +kernel, rfl, by decide +kernel, by decide +kernel⟩
/- slots: 0 test -/
theorem ok_test_text (B : Bt mg) (h : Has K mg "test_text" s_test_text ["test"]) (c1 : Ok P w K mg base k "field_text" ["field"] spFieldText) (n : Nat) (c2 : Ok P w K mg base k "test_text" ["test"] (spTst n)) :
    Ok P w K mg base (k + 1) "test_text" ["test"] (spTst (n + 1)) := by
  obtain ⟨_, _, G_field_text, m_field_text, k_field_text, b_field_text⟩ := c1.ex
  obtain ⟨_, _, G_test_text, m_test_text, k_test_text, b_test_text⟩ := c2.ex
  refine h.ok sc_test_text (fun vs H Q E h => ?_) (fun f0 cdv A outer s H vs Q E hr h => ?_)
  · obtain ⟨f, v, rfl, _⟩ := h; rfl
  obtain ⟨t, v, rfl, hv, ⟨hn, hw⟩, q⟩ := h
  refine ⟨_, (pss_cons (ps_if (pt_cmpR op_eq (pe_ix ix_tup (pv 0) pe_int (fun _ _ => rfl)) pe_str (nomark _)) (pss_one (ps_ret (pe_op op_add_str pe_str (pe_call G_test_text hr (by rfl) m_test_text k_test_text b_test_text .nil pass0 (pa_cons (pe_ix ix_tup (pv 0) pe_int (fun _ _ => rfl)) pa_nil))))) pss_nil)
    (pss_cons (ps_if (pt_cmpR op_eq (pe_ix ix_tup (pv 0) pe_int (fun _ _ => rfl)) pe_str (nomark _)) (pss_one (ps_ret (pe_op op_add_str pe_str (pe_ix ix_tup (pv 0) pe_int (fun _ _ => rfl))))) pss_nil)
    (pss_one (ps_ret (pe_op op_add_str (pe_op op_add_str (pe_op op_add_str (pe_op op_add_str (pe_call G_field_text hr (by rfl) m_field_text k_field_text b_field_text .nil pass0 (pa_cons (pe_ix ix_tup (pv 0) pe_int (fun _ _ => rfl)) pa_nil)) pe_str) (pe_ix ix_tup (pv 0) pe_int (fun _ _ => rfl))) pe_str) (pe_callTy call_str_intS (by rfl) B.str (by decide +kernel) (pa_cons (pe_ix ix_tup (pv 0) pe_int (fun _ _ => rfl)) pa_nil))))))), ?_⟩
  cases t with
  | nt t =>
    obtain ⟨m, rfl, hw⟩ := hw
    obtain ⟨a, x1, x2, rfl, ha, h1, h2⟩ := At.t2 hv
    obtain rfl := h1.str_inv
    have l1 := xTst_len hw
    walk_at "go"
    refine ⟨t, _, rfl, h2, ⟨by omega, hw⟩, fun H1 s1 => ?_⟩
    walk_at "go"
    exact q _ s1
  | valid t =>
    obtain ⟨a, x1, x2, rfl, ha, h1, h2⟩ := At.t2 hv
    obtain rfl := h1.str_inv
    obtain rfl := h2.str_inv
    have hw : Nm t := by cases n <;> exact hw
    have l1 := hw.len
    walk_at "go"
    exact q _ (Same.refl _)
  | cmp sg f m =>
    obtain ⟨a, x1, x2, x3, rfl, ha, h1, h2, h3⟩ := At.t3 hv
    obtain rfl := h1.str_inv
    obtain rfl := h3.int_inv
    have hw : wFld f ∧ Nu m := by cases n <;> exact hw
    obtain ⟨w1, w2⟩ := hw
    have l1 := xFld_len w1
    have l2 := sI_len w2
    have l3 := cmpS_len sg
    cases sg with
    | true =>
      walk_at "go"
      refine ⟨f, _, rfl, h2, w1, fun H1 s1 => ?_⟩
      walk_at "go"
      exact q _ s1
    | false =>
      walk_at "go"
      refine ⟨f, _, rfl, h2, w1, fun H1 s1 => ?_⟩
      walk_at "go"
      exact q _ s1
theorem ok_test_text_all (B : Bt mg) (h : Has K mg "test_text" s_test_text ["test"]) (c1 : Ok P w K mg base k "field_text" ["field"] spFieldText) : ∀ n : Nat, Ok P w K mg base (k + n) "test_text" ["test"] (spTst n)
  | 0 => (h.none fun _ _ _ _ => id).mono (Nat.zero_le _)
  | n + 1 => ok_test_text B h (c1.mono (Nat.le_add_right _ _)) n (ok_test_text_all B h c1 n)
abbrev s_statement_lines : Stmt := top 54
abbrev n_statement_lines : List Str := ["statements", "indent", "lines", "statement"]
theorem sc_statement_lines : FnScope n_statement_lines ["statements", "indent"] (defScope s_statement_lines) := ⟨rfl, rfl, rfl, by decide +kernel, rfl, by decide +kernel, by decide +kernel⟩
/- slots: 0 statements, 1 indent, 2 lines, 3 statement -/
theorem ok_statement_lines (B : Bt mg) (h : Has K mg "statement_lines" s_statement_lines ["statements", "indent"]) (c1 : Ok P w K mg base k "test_text" ["test"] (spTst 9)) (n : Nat) (c2 : Ok P w K mg base k "statement_lines" ["statements", "indent"] (spStm n)) :
    Ok P w K mg base (k + 1) "statement_lines" ["statements", "indent"] (spStm (n + 1)) := by
  obtain ⟨_, _, G_test_text, m_test_text, k_test_text, b_test_text⟩ := c1.ex
  obtain ⟨_, _, G_statement_lines, m_statement_lines, k_statement_lines, b_statement_lines⟩ := c2.ex
  refine h.ok sc_statement_lines (fun vs H Q E h => ?_) (fun f0 cdv A outer s H vs Q E hr h => ?_)
  · obtain ⟨f, i, v, rfl, _⟩ := h; rfl
  obtain ⟨b, ind, v, rfl, hv, hw, hc, hi, q⟩ := h
  obtain ⟨a, xs, rfl, ha, hxs⟩ := hv.lst_inv
  have lB' := lB_len b ind
  refine ⟨_, (pss_cons (ps_set (i := 2) sc_statement_lines.nd rfl (Or.inl rfl) (pe_lstS pa_nil))
    (pss_cons (ps_for PassesOwn.never rfl (pi_list (pv 0)) (pg_name (i := 3) sc_statement_lines.nd rfl (Or.inl rfl)) (pss_one (ps_if (pt_cmpR op_eq (pe_ix ix_tup (pv 3) pe_int (fun _ _ => rfl)) pe_str (nomark _)) (pss_one (ps_expr (pe_bm PySem.F.plainAttrs_list PySem.F.slot_list_append PySem.F.type_list_append mt_appendS (pv 2) (pa_cons (pe_op op_add_str (pe_op op_add_str (pe_op op_add_str (pv 1) pe_str) (pe_ix ix_tup (pv 3) pe_int (fun _ _ => rfl))) pe_str) pa_nil)))) (pss_cons (ps_expr (pe_bm PySem.F.plainAttrs_list PySem.F.slot_list_append PySem.F.type_list_append mt_appendS (pv 2) (pa_cons (pe_op op_add_str (pe_op op_add_str (pe_op op_add_str (pv 1) pe_str) (pe_call G_test_text hr (by rfl) m_test_text k_test_text b_test_text .nil pass0 (pa_cons (pe_ix ix_tup (pv 3) pe_int (fun _ _ => rfl)) pa_nil))) pe_str) pa_nil)))
    (pss_cons (ps_expr (pe_bm PySem.F.plainAttrs_list PySem.F.slot_list_extend PySem.F.type_list_extend mt_extendS (pv 2) (pa_cons (pe_call G_statement_lines hr (by rfl) m_statement_lines k_statement_lines b_statement_lines .nil pass0 (pa_cons (pe_ix ix_tup (pv 3) pe_int (fun _ _ => rfl)) (pa_cons (pe_op op_add_str (pv 1) pe_str) pa_nil))) pa_nil)))
    (Evl.pss_cut (ps_if (pt_cmpR op_gt (pe_callB call_len_seq (by rfl) B.len PySem.boot_len (pa_cons (pe_ix ix_tup (pv 3) pe_int (fun _ _ => rfl)) pa_nil)) pe_int (nomark _)) (pss_cons (ps_expr (pe_bm PySem.F.plainAttrs_list PySem.F.slot_list_append PySem.F.type_list_append mt_appendS (pv 2) (pa_cons (pe_op op_add_str (pv 1) pe_str) pa_nil)))
    (pss_one (ps_expr (pe_bm PySem.F.plainAttrs_list PySem.F.slot_list_extend PySem.F.type_list_extend mt_extendS (pv 2) (pa_cons (pe_call G_statement_lines hr (by rfl) m_statement_lines k_statement_lines b_statement_lines .nil pass0 (pa_cons (pe_ix ix_tup (pv 3) pe_int (fun _ _ => rfl)) (pa_cons (pe_op op_add_str (pv 1) pe_str) pa_nil))) pa_nil))))) pss_nil)
    (pss_one (ps_expr (pe_bm PySem.F.plainAttrs_list PySem.F.slot_list_append PySem.F.type_list_append mt_appendS (pv 2) (pa_cons (pe_op op_add_str (pv 1) pe_str) pa_nil))))))))))
    (pss_one (ps_ret (pv 2))))), ?_⟩
  refine ⟨by walk_at "le", fun L H1 hL s1 e1 => ?_⟩
  walk_at "go"
  refine ⟨⟨_, SqL.of (s1 _ _ ha)⟩, for_list (K := K) (a := a) (xs := xs) (fun i σ' H5 => (∃ x, σ' = [some (.ref a), some (.str ind), some (.ref L), x]) ∧ Same H H5 ∧
    ∃ r pre, (eB b).drop i = eB r ∧ (wB n r ∧ r.count ≤ 16) ∧ H5 L = some (.lst (pre.map V.str)) ∧ pre ++ lB ind r = lB ind b) ⟨⟨_, rfl⟩, s1, b, [], rfl, ⟨hw, hc⟩, e1, rfl⟩
    (fun i σ' H5 _ ⟨_, s5, _⟩ => SqL.of (s5 _ _ ha)) ?_ ?_⟩
  · rintro i x σ' H5 hx ⟨⟨x0, rfl⟩, s5, r, pre, hr0, ⟨wr, hcr⟩, e5, hp⟩
    obtain ⟨d, hd, hat⟩ := hxs.get hx
    have l0 : pre.length + (lB ind r).length = (lB ind b).length := by rw [← hp, List.length_append]
    cases r with
    | nil =>
      have := (List.getElem?_eq_some_iff.mp hd).1
      have h2 : (eB b).length ≤ i := List.drop_eq_nil_iff.mp hr0
      omega
    | app t r =>
      obtain ⟨g1, g2⟩ := drop_cons hr0
      rw [g1] at hd
      cases hd
      obtain ⟨wt, wr⟩ := wr
      obtain ⟨a2, y1, y2, rfl, ha2, i1, i2⟩ := At.t2 hat
      obtain rfl := i1.str_inv
      obtain rfl := i2.str_inv
      have l1 := wt.len
      walk_at "go"
      refine ⟨_, _, _, rfl, rfl, e5, by walk_at "lt", fun H7 k7 e7 => ?_⟩
      refine ⟨⟨_, rfl⟩, sapp s5 hL k7, r, pre ++ [ind ++ "apply " ++ t ++ ";"], g2, ⟨wr, by simp only [Blk.count] at hcr; omega⟩, by rw [e7]; simp, ?_⟩
      rw [← hp]; simp [lB]
    | ifs t b1 b2 r =>
      obtain ⟨g1, g2⟩ := drop_cons hr0
      rw [g1] at hd
      cases hd
      obtain ⟨wt, ⟨m, rfl, wa, wb⟩, wr⟩ := wr
      simp only [Blk.count] at hcr
      obtain ⟨a2, y1, y2, y3, y4, rfl, ha2, i1, i2, i3, i4⟩ := At.t4 hat
      obtain rfl := i1.str_inv
      obtain ⟨a3, zs, rfl, ha3, hzs⟩ := i4.lst_inv
      have l1 := xTst_len wt
      have l2 := lB_len b1 (ind ++ "  ")
      have l3 := lB_len b2 (ind ++ "  ")
      have l4 : zs.length = (eB b2).length := hzs.len
      have l6 : (ind ++ "  ").length + 2 * m ≤ 20 := by simp only [al, lit_len]; simp; omega
      have l7 : (lB ind b).length ≤ 48 := by omega
      walk_at "go"
      refine ⟨t, _, rfl, i2.mono s5, ⟨by decide, wt⟩, fun H6 s6 => ?_⟩
      walk_at "go"
      refine ⟨_, _, _, rfl, rfl, s6 _ _ e5, by walk_at "lt", fun H7 k7 e7 => ?_⟩
      have s7 := sapp (s5.trans s6) hL k7
      clear s6 k7 s5
      walk_at "go"
      refine ⟨b1, _, _, rfl, i3.mono s7, wa, by omega, l6, fun c1 H8 s8 e8 => ?_⟩
      refine ⟨_, _, _, _, rfl, rfl, s8 _ _ e7, e8, by walk_at "le", fun H9 k9 e9 => ?_⟩
      have s9 := sapp (s7.trans s8) hL k9
      clear s8 k9 s7
      refine ⟨fun σ' H10 => σ' = [some (.ref a), some (.str ind), some (.ref L), some (.ref a2)] ∧ Same H H10 ∧ H10 L = some (.lst ((pre ++ ([ind ++ "if " ++ xTst t ++ " {"] ++ lB (ind ++ "  ") b1 ++ lElse ind (lB (ind ++ "  ") b2) b2.some)).map V.str)), ?_, ?_⟩
      · walk_at "go"
        refine ⟨_, _, rfl, .inl (SqL.of (by walk_at "now")), ?_⟩
        refine ⟨_, _, rfl, rfl, ?_⟩
        refine ⟨_, rfl, ?_⟩
        rw [l4, eB_some]
        cases hs : b2.some with
        | false =>
          walk_at "go"
          exact ⟨rfl, s9, by rw [e9]; simp [lElse]⟩
        | true =>
          walk_at "go"
          refine ⟨_, _, _, rfl, rfl, e9, by walk_at "lt", fun H10 k10 e10 => ?_⟩
          have s10 := sapp s9 hL k10
          clear s9 k10
          walk_at "go"
          refine ⟨b2, _, _, rfl, i4.mono s10, wb, by omega, l6, fun c2 H11 s11 e11 => ?_⟩
          refine ⟨_, _, _, _, rfl, rfl, s11 _ _ e10, e11, by walk_at "le", fun H12 k12 e12 => ?_⟩
          exact ⟨rfl, sapp (s10.trans s11) hL k12, by rw [e12]; simp [lElse]⟩
      rintro σ' H10 ⟨rfl, s10, e10⟩
      have l8 : (lElse ind (lB (ind ++ "  ") b2) b2.some).length ≤ 49 := by
        cases b2.some
        · simp [lElse]
        · simp [lElse]; omega
      walk_at "go"
      refine ⟨_, _, _, rfl, rfl, e10, by walk_at "lt", fun H11 k11 e11 => ?_⟩
      refine ⟨⟨_, rfl⟩, sapp s10 hL k11, r, pre ++ ([ind ++ "if " ++ xTst t ++ " {"] ++ lB (ind ++ "  ") b1 ++ lElse ind (lB (ind ++ "  ") b2) b2.some ++ [ind ++ "}"]), g2, ⟨wr, by omega⟩, by rw [e11]; simp, ?_⟩
      rw [← hp]; simp [lB]
  · rintro σ' H5 ⟨⟨x0, rfl⟩, s5, r, pre, hr0, wr, e5, hp⟩
    have : eB r = [] := by rw [← hr0, hxs.len, List.drop_length]
    cases r with
    | app t r => cases this
    | ifs t b1 b2 r => cases this
    | nil =>
      walk_at "go"
      exact q _ _ s5 (by rw [e5, ← hp]; simp [lB])
end
end WP
namespace WP
open PySem PySem.Spec PyProof.Rows L2 TL
local macro_rules | `(tactic| walk_at "len") => `(tactic| (show _ ≤ sizeLine; rw [sizeLine_eq]; (try simp only [al, lit_len]); (try simp) <;> omega))
local macro_rules | `(tactic| walk_at "lt") => `(tactic| (show _ < sizeLine; rw [sizeLine_eq]; (try simp only [List.length_map, List.length_append, List.length_cons, List.length_nil, List.length_take]); omega))
local macro_rules | `(tactic| walk_at "le") => `(tactic| (show _ ≤ sizeLine; rw [sizeLine_eq]; (try simp only [List.length_map, List.length_append, List.length_cons, List.length_nil, List.length_take]); omega))
local macro_rules | `(tactic| walk_at "now") => `(tactic| first | assumption | (refine (by assumption : Same _ _) _ _ ?_; walk_at "now"))
local macro_rules | `(tactic| walk_at "at") => `(tactic| first | exact at0 | exact at1 | exact at2 | exact at3 | exact at4 | exact at5 | exact at6 | exact at7 | exact at8)
local macro_rules | `(tactic| walk_at "v") => `(tactic| refine ⟨_, rfl, ?_⟩)
local macro_rules | `(tactic| walk_at "ix") => `(tactic| refine ⟨_, _, _, _, rfl, rfl, SqT.of (by walk_at "now"), (by walk_at "at"), ?_⟩)
local macro_rules | `(tactic| walk_at "ixl") => `(tactic| refine ⟨_, _, _, _, rfl, rfl, SqL.of (by walk_at "now"), (by walk_at "at"), ?_⟩)
local macro_rules | `(tactic| walk_at "str") => `(tactic| refine ⟨_, _, rfl, rfl, (by walk_at "len"), ?_⟩)
local macro_rules | `(tactic| walk_at "int") => `(tactic| refine ⟨_, _, rfl, rfl, ?_⟩)
local macro_rules | `(tactic| walk_at "eq") => `(tactic| refine ⟨rfl, _, rfl, ?_⟩)
local macro_rules | `(tactic| walk_at "app") => `(tactic| refine ⟨_, _, _, rfl, rfl, (by walk_at "now"), (by walk_at "lt"), ?_⟩)
local macro_rules | `(tactic| walk_at "ext") => `(tactic| refine ⟨_, _, _, _, rfl, rfl, (by walk_at "now"), (by walk_at "now"), (by walk_at "le"), ?_⟩)
local macro_rules | `(tactic| walk_at "cat") => `(tactic| refine ⟨_, _, _, _, rfl, rfl, (by walk_at "now"), (by walk_at "now"), (by walk_at "le"), ?_⟩)
local macro_rules | `(tactic| walk_at "num") => `(tactic| refine ⟨(by assumption : Nu _), ?_⟩)
local macro_rules | `(tactic| walk_at "ty") => `(tactic| refine ⟨Or.inl ⟨rfl, _, SqL.of (by walk_at "now")⟩, ?_⟩)
local macro_rules | `(tactic| walk_at "un2") => `(tactic| refine ⟨_, _, rfl, SqT.of (by walk_at "now"), rfl, _, _, rfl, _, _, rfl, rfl, ?_⟩)
local macro_rules | `(tactic| walk_at "un3") => `(tactic| refine ⟨_, _, rfl, SqT.of (by walk_at "now"), rfl, _, _, rfl, _, _, rfl, _, _, rfl, rfl, ?_⟩)
local macro_rules | `(tactic| walk_at "un4") => `(tactic| refine ⟨_, _, rfl, SqT.of (by walk_at "now"), rfl, _, _, rfl, _, _, rfl, _, _, rfl, _, _, rfl, rfl, ?_⟩)
local macro_rules | `(tactic| walk_at "un6") => `(tactic| refine ⟨_, _, rfl, SqT.of (by walk_at "now"), rfl, _, _, rfl, _, _, rfl, _, _, rfl, _, _, rfl, _, _, rfl, _, _, rfl, rfl, ?_⟩)
local macro_rules | `(tactic| walk_at "un9") => `(tactic| refine ⟨_, _, rfl, SqT.of (by walk_at "now"), rfl, _, _, rfl, _, _, rfl, _, _, rfl, _, _, rfl, _, _, rfl, _, _, rfl, _, _, rfl, _, _, rfl, _, _, rfl, rfl, ?_⟩)
local macro_rules | `(tactic| walk_at "go") => `(tactic| repeat (first | walk_at "v" | walk_at "eq" | walk_at "ix" | walk_at "str" | walk_at "ty" | walk_at "num"))

theorem joinN_len {l : List Str} (h : Sm 1576 l) : ((l.map (·.length)).sum + l.length * (Str.ofString "\n").length ≤ 16777216) ∧ (Str.join "\n" l).length ≤ 1300000 := by
  have h1 := h.sum
  have h2 := h.few
  have h3 : (Str.ofString "\n").length = 1 := by decide +kernel
  have h4 := join_len "\n" l
  unfold sumL at *
  rw [h3] at *
  omega
def spWrite : Sp := fun vs H Q _ => ∃ p v, vs = [v] ∧ At H v (ePrg p) ∧ wPrg p ∧ ∀ H', Same H H' → Q (.str (Str.join "\n" (lPrg p) ++ "\n")) H'
section
variable {P : Program} {w : World} {K : PySem.W.Frag} {mg : Str → Option Value} {base : Heap} {k : Nat}
abbrev s_write_program : Stmt := top 55
abbrev n_write_program : List Str := ["program", "_", "name", "headers", "meta", "states", "actions", "tables", "control", "emits", "lines", "header", "state", "action", "table"]
theorem sc_write_program : FnScope n_write_program ["program"] (defScope s_write_program) := ⟨rfl, rfl, rfl, by decide +kernel, rfl, by decide +kernel, by decide +kernel⟩
/- slots: 0 program, 1 _, 2 name, 3 headers, 4 meta, 5 states, 6 actions, 7 tables, 8 control, 9 emits, 10 lines, 11 header, 12 state, 13 action, 14 table -/
theorem ok_write_program (B : Bt mg) (h : Has K mg "write_program" s_write_program ["program"]) (c1 : Ok P w K mg base k "field_lines" ["fields", "indent"] spFieldLines) (c2 : Ok P w K mg base k "state_lines" ["state"] (spLines eSta wSta lSta))
    (c3 : Ok P w K mg base k "action_lines" ["action"] (spLines eAct wAct lAct)) (c4 : Ok P w K mg base k "table_lines" ["table"] (spLines eTab wTab lTab)) (c5 : Ok P w K mg base k "statement_lines" ["statements", "indent"] (spStm 8)) :
    Ok P w K mg base (k + 1) "write_program" ["program"] spWrite := by
  obtain ⟨_, _, G_field_lines, m_field_lines, k_field_lines, b_field_lines⟩ := c1.ex
  obtain ⟨_, _, G_state_lines, m_state_lines, k_state_lines, b_state_lines⟩ := c2.ex
  obtain ⟨_, _, G_action_lines, m_action_lines, k_action_lines, b_action_lines⟩ := c3.ex
  obtain ⟨_, _, G_table_lines, m_table_lines, k_table_lines, b_table_lines⟩ := c4.ex
  obtain ⟨_, _, G_statement_lines, m_statement_lines, k_statement_lines, b_statement_lines⟩ := c5.ex
  refine h.ok sc_write_program (fun vs H Q E h => ?_) (fun f0 cdv A outer s H vs Q E hr h => ?_)
  · obtain ⟨f, v, rfl, _⟩ := h; rfl
  obtain ⟨⟨nm, hs, me, ss, as, ts, ct, em⟩, v, rfl, hv, ⟨w1, w2, w3, w4, w5, w6, w7, w8, w9⟩, q⟩ := h
  dsimp only at w1 w2 w3 w4 w5 w6 w7 w8 w9
  have wp : Sm 1576 (lPrg ⟨nm, hs, me, ss, as, ts, ct, em⟩) := lPrg_sm ⟨w1, w2, w3, w4, w5, w6, w7, w8, w9⟩
  have hv : At H v (.tuple [.str "program", .str nm, .list (hs.map eHdr), .list (me.map ePar), .list (ss.map eSta), .list (as.map eAct), .list (ts.map eTab), .list (eB ct), .list (em.map .str)]) := hv
  refine ⟨_, (pss_cons (ps_asg (pv 0) (pg_tup rfl (pgs_cons (pg_name (i := 1) sc_write_program.nd rfl (Or.inl rfl)) (pgs_cons (pg_name (i := 2) sc_write_program.nd rfl (Or.inl rfl)) (pgs_cons (pg_name (i := 3) sc_write_program.nd rfl (Or.inl rfl)) (pgs_cons (pg_name (i := 4) sc_write_program.nd rfl (Or.inl rfl)) (pgs_cons (pg_name (i := 5) sc_write_program.nd rfl (Or.inl rfl)) (pgs_cons (pg_name (i := 6) sc_write_program.nd rfl (Or.inl rfl)) (pgs_cons (pg_name (i := 7) sc_write_program.nd rfl (Or.inl rfl)) (pgs_cons (pg_name (i := 8) sc_write_program.nd rfl (Or.inl rfl)) (pgs_cons (pg_name (i := 9) sc_write_program.nd rfl (Or.inl rfl)) pgs_nil)))))))))))
    (pss_cons (ps_set (i := 10) sc_write_program.nd rfl (Or.inl rfl) (pe_lstS (pa_cons (pe_op op_add_str pe_str (pv 2)) pa_nil)))
    (pss_cons (ps_for PassesOwn.never rfl (pi_list (pv 3)) (pg_name (i := 11) sc_write_program.nd rfl (Or.inl rfl)) (pss_cons (ps_expr (pe_bm PySem.F.plainAttrs_list PySem.F.slot_list_append PySem.F.type_list_append mt_appendS (pv 10) (pa_cons (pe_op op_add_str (pe_op op_add_str pe_str (pe_ix ix_tup (pv 11) pe_int (fun _ _ => rfl))) pe_str) pa_nil)))
    (pss_cons (ps_expr (pe_bm PySem.F.plainAttrs_list PySem.F.slot_list_extend PySem.F.type_list_extend mt_extendS (pv 10) (pa_cons (pe_call G_field_lines hr (by rfl) m_field_lines k_field_lines b_field_lines .nil pass0 (pa_cons (pe_ix ix_tup (pv 11) pe_int (fun _ _ => rfl)) (pa_cons pe_str pa_nil))) pa_nil)))
    (pss_one (ps_expr (pe_bm PySem.F.plainAttrs_list PySem.F.slot_list_append PySem.F.type_list_append mt_appendS (pv 10) (pa_cons pe_str pa_nil)))))))
    (Evl.pss_cut (ps_if (pt_cmpR op_gt (pe_callB call_len_seq (by rfl) B.len PySem.boot_len (pa_cons (pv 4) pa_nil)) pe_int (nomark _)) (pss_cons (ps_expr (pe_bm PySem.F.plainAttrs_list PySem.F.slot_list_append PySem.F.type_list_append mt_appendS (pv 10) (pa_cons pe_str pa_nil)))
    (pss_cons (ps_expr (pe_bm PySem.F.plainAttrs_list PySem.F.slot_list_extend PySem.F.type_list_extend mt_extendS (pv 10) (pa_cons (pe_call G_field_lines hr (by rfl) m_field_lines k_field_lines b_field_lines .nil pass0 (pa_cons (pv 4) (pa_cons pe_str pa_nil))) pa_nil)))
    (pss_one (ps_expr (pe_bm PySem.F.plainAttrs_list PySem.F.slot_list_append PySem.F.type_list_append mt_appendS (pv 10) (pa_cons pe_str pa_nil)))))) pss_nil)
    (pss_cons (ps_expr (pe_bm PySem.F.plainAttrs_list PySem.F.slot_list_append PySem.F.type_list_append mt_appendS (pv 10) (pa_cons pe_str pa_nil)))
    (pss_cons (ps_for PassesOwn.never rfl (pi_list (pv 5)) (pg_name (i := 12) sc_write_program.nd rfl (Or.inl rfl)) (pss_one (ps_expr (pe_bm PySem.F.plainAttrs_list PySem.F.slot_list_extend PySem.F.type_list_extend mt_extendS (pv 10) (pa_cons (pe_call G_state_lines hr (by rfl) m_state_lines k_state_lines b_state_lines .nil pass0 (pa_cons (pv 12) pa_nil)) pa_nil)))))
    (pss_cons (ps_expr (pe_bm PySem.F.plainAttrs_list PySem.F.slot_list_append PySem.F.type_list_append mt_appendS (pv 10) (pa_cons pe_str pa_nil)))
    (pss_cons (ps_for PassesOwn.never rfl (pi_list (pv 6)) (pg_name (i := 13) sc_write_program.nd rfl (Or.inl rfl)) (pss_one (ps_expr (pe_bm PySem.F.plainAttrs_list PySem.F.slot_list_extend PySem.F.type_list_extend mt_extendS (pv 10) (pa_cons (pe_call G_action_lines hr (by rfl) m_action_lines k_action_lines b_action_lines .nil pass0 (pa_cons (pv 13) pa_nil)) pa_nil)))))
    (pss_cons (ps_for PassesOwn.never rfl (pi_list (pv 7)) (pg_name (i := 14) sc_write_program.nd rfl (Or.inl rfl)) (pss_one (ps_expr (pe_bm PySem.F.plainAttrs_list PySem.F.slot_list_extend PySem.F.type_list_extend mt_extendS (pv 10) (pa_cons (pe_call G_table_lines hr (by rfl) m_table_lines k_table_lines b_table_lines .nil pass0 (pa_cons (pv 14) pa_nil)) pa_nil)))))
    (pss_cons (ps_expr (pe_bm PySem.F.plainAttrs_list PySem.F.slot_list_append PySem.F.type_list_append mt_appendS (pv 10) (pa_cons pe_str pa_nil)))
    (pss_cons (ps_expr (pe_bm PySem.F.plainAttrs_list PySem.F.slot_list_extend PySem.F.type_list_extend mt_extendS (pv 10) (pa_cons (pe_call G_statement_lines hr (by rfl) m_statement_lines k_statement_lines b_statement_lines .nil pass0 (pa_cons (pv 8) (pa_cons pe_str pa_nil))) pa_nil)))
    (pss_cons (ps_expr (pe_bm PySem.F.plainAttrs_list PySem.F.slot_list_append PySem.F.type_list_append mt_appendS (pv 10) (pa_cons pe_str pa_nil)))
    (Evl.pss_cut (ps_if (pt_cmpR op_gt (pe_callB call_len_seq (by rfl) B.len PySem.boot_len (pa_cons (pv 9) pa_nil)) pe_int (nomark _)) (pss_one (ps_expr (pe_bm PySem.F.plainAttrs_list PySem.F.slot_list_append PySem.F.type_list_append mt_appendS (pv 10) (pa_cons (pe_op op_add_str (pe_op op_add_str pe_str (pe_join pe_str (pv 9))) pe_str) pa_nil)))) pss_nil)
    (pss_one (ps_ret (pe_op op_add_str (pe_join pe_str (pv 10)) pe_str)))))))))))))))), ?_⟩
  obtain ⟨a, x1, x2, x3, x4, x5, x6, x7, x8, x9, rfl, ha, h1, h2, h3, h4, h5, h6, h7, h8, h9⟩ := At.t9 hv
  obtain rfl := h1.str_inv
  obtain rfl := h2.str_inv
  obtain ⟨ah, xh, rfl, hah, hxh⟩ := h3.lst_inv
  obtain ⟨am, xm, rfl, ham, hxm⟩ := h4.lst_inv
  obtain ⟨as', xs, rfl, has, hxs⟩ := h5.lst_inv
  obtain ⟨aa, xa, rfl, haa, hxa⟩ := h6.lst_inv
  obtain ⟨at', xt, rfl, hat', hxt⟩ := h7.lst_inv
  obtain ⟨ac, xc, rfl, hac, hxc⟩ := h8.lst_inv
  obtain ⟨ae, xe, rfl, hae, hxe⟩ := h9.lst_inv
  obtain rfl := AtL.strs_inv hxe
  have l1 := w1.len
  have lh : xh.length = hs.length := by rw [hxh.len, List.length_map]
  have lm : xm.length = me.length := by rw [hxm.len, List.length_map]
  have ls : xs.length = ss.length := by rw [hxs.len, List.length_map]
  have la : xa.length = as.length := by rw [hxa.len, List.length_map]
  have lt : xt.length = ts.length := by rw [hxt.len, List.length_map]
  walk_at "go"
  walk_at "un9"
  walk_at "go"
  refine ⟨by walk_at "le", fun L H1 hL s1 e1 => ?_⟩
  -- the headers
  have f2 := flat_take (f := lHdr) (l := hs) (c := 18) (i := 16) (fun x hx => (lHdr_sm (w2.2 x hx)).few) w2.1
  have fh : ∀ i, (((hs.take i).map lHdr).flatten).length ≤ 288 := fun i => flat_take (fun x hx => (lHdr_sm (w2.2 x hx)).few) w2.1
  have fs : ∀ i, (((ss.take i).map lSta).flatten).length ≤ 352 := fun i => flat_take (fun x hx => (lSta_sm (w4.2 x hx)).few) w4.1
  have fa : ∀ i, (((as.take i).map lAct).flatten).length ≤ 288 := fun i => flat_take (fun x hx => (lAct_sm (w5.2 x hx)).few) w5.1
  have ft : ∀ i, (((ts.take i).map lTab).flatten).length ≤ 576 := fun i => flat_take (fun x hx => (lTab_sm (w6.2 x hx)).few) w6.1
  walk_at "go"
  refine ⟨⟨_, SqL.of (s1 _ _ hah)⟩, for_list (K := K) (a := ah) (xs := xh) (fun i σ' H5 => (∃ x, σ' = [some (.ref a), some (.str "program"), some (.str nm), some (.ref ah), some (.ref am), some (.ref as'), some (.ref aa), some (.ref at'), some (.ref ac), some (.ref ae), some (.ref L), x, none, none, none]) ∧ Same H H5 ∧
    H5 L = some (.lst ((["program " ++ nm] ++ ((hs.take i).map lHdr).flatten).map V.str))) ⟨⟨_, rfl⟩, s1, by rw [e1]; simp⟩
    (fun i σ' H5 _ ⟨_, s5, _⟩ => SqL.of (s5 _ _ hah)) ?_ ?_⟩
  · rintro i x σ' H5 hi ⟨⟨x0, rfl⟩, s5, e5⟩
    obtain ⟨y, hy, hat⟩ := hxh.getM hi
    have wy := w2.2 y (List.mem_of_getElem? hy)
    obtain ⟨a2, y1, y2, y3, rfl, ha2, i1, i2, i3⟩ := At.t3 hat
    obtain rfl := i1.str_inv
    obtain rfl := i2.str_inv
    have l2 := wy.1.len
    have l3 := fh i
    have l4 := wy.2.1
    walk_at "go"
    refine ⟨_, _, _, rfl, rfl, e5, by walk_at "lt", fun H6 k6 e6 => ?_⟩
    have s6 := sapp s5 hL k6
    clear s5 k6
    walk_at "go"
    refine ⟨y.2, _, rfl, i3.mono s6, wy.2, fun c1 H7 s7 e7 => ?_⟩
    refine ⟨_, _, _, _, rfl, rfl, s7 _ _ e6, e7, by walk_at "le", fun H8 k8 e8 => ?_⟩
    have s8 := sapp (s6.trans s7) hL k8
    clear s6 s7 k8
    walk_at "go"
    refine ⟨_, _, _, rfl, rfl, e8, by walk_at "lt", fun H9 k9 e9 => ?_⟩
    refine ⟨⟨_, rfl⟩, sapp s8 hL k9, ?_⟩
    rw [e9, take_s hy]
    simp [lHdr]
  rintro σ' H2 ⟨⟨x0, rfl⟩, s2, e2⟩
  rw [lh, List.take_length] at e2
  clear s1 e1
  have l2 := fh hs.length
  rw [List.take_length] at l2
  obtain ⟨p2, hp2, lp2, e2⟩ : ∃ p2 : List Str, p2 = ["program " ++ nm] ++ (hs.map lHdr).flatten ∧ p2.length ≤ 289 ∧ H2 L = some (.lst (p2.map V.str)) := ⟨_, rfl, by simp only [List.length_append, List.length_cons, List.length_nil]; omega, e2⟩
  -- meta
  refine ⟨fun σ' H3 => σ' = [some (.ref a), some (.str "program"), some (.str nm), some (.ref ah), some (.ref am), some (.ref as'), some (.ref aa), some (.ref at'), some (.ref ac), some (.ref ae), some (.ref L), x0, none, none, none] ∧ Same H H3 ∧ H3 L = some (.lst ((p2 ++ lMeta me).map V.str)), ?_, ?_⟩
  · walk_at "go"
    refine ⟨_, _, rfl, .inl (SqL.of (by walk_at "now")), ?_⟩
    refine ⟨_, _, rfl, rfl, ?_⟩
    refine ⟨_, rfl, ?_⟩
    rw [lm]
    cases me with
    | nil => exact ⟨rfl, s2, by rw [e2]; simp [lMeta]⟩
    | cons m0 me =>
      refine ite2 (fun _ => ?_) (fun c => absurd (decide_eq_true (by simp only [List.length_cons]; omega)) c)
      have l3 := w3.1
      simp only [List.length_cons] at l3
      walk_at "go"
      refine ⟨_, _, _, rfl, rfl, e2, by walk_at "lt", fun H6 k6 e6 => ?_⟩
      have s6 := sapp s2 hL k6
      clear s2 k6
      walk_at "go"
      refine ⟨m0 :: me, _, rfl, h4.mono s6, w3, fun c1 H7 s7 e7 => ?_⟩
      refine ⟨_, _, _, _, rfl, rfl, s7 _ _ e6, e7, by walk_at "le", fun H8 k8 e8 => ?_⟩
      have s8 := sapp (s6.trans s7) hL k8
      clear s6 s7 k8
      walk_at "go"
      refine ⟨_, _, _, rfl, rfl, e8, by walk_at "lt", fun H9 k9 e9 => ?_⟩
      exact ⟨rfl, sapp s8 hL k9, by rw [e9]; simp [lMeta]⟩
  rintro σ' H3 ⟨rfl, s3, e3⟩
  clear s2 e2
  have l3 := (lMeta_sm w3).few
  walk_at "go"
  refine ⟨_, _, _, rfl, rfl, e3, by walk_at "lt", fun H4 k4 e4 => ?_⟩
  have s4 := sapp s3 hL k4
  clear s3 k4
  obtain ⟨p4, hp4, lp4, e4⟩ : ∃ p4 : List Str, p4 = p2 ++ lMeta me ++ [("parser {" : Str)] ∧ p4.length ≤ 310 ∧ H4 L = some (.lst (p4.map V.str)) := ⟨_, rfl, by simp only [List.length_append, List.length_cons, List.length_nil]; omega, by rw [e4]; simp⟩
  -- states
  walk_at "go"
  refine ⟨⟨_, SqL.of (s4 _ _ has)⟩, for_list (K := K) (a := as') (xs := xs) (fun i σ' H5 => (∃ x, σ' = [some (.ref a), some (.str "program"), some (.str nm), some (.ref ah), some (.ref am), some (.ref as'), some (.ref aa), some (.ref at'), some (.ref ac), some (.ref ae), some (.ref L), x0, x, none, none]) ∧ Same H H5 ∧
    H5 L = some (.lst ((p4 ++ ((ss.take i).map lSta).flatten).map V.str))) ⟨⟨_, rfl⟩, s4, by rw [e4]; simp⟩
    (fun i σ' H5 _ ⟨_, s5, _⟩ => SqL.of (s5 _ _ has)) ?_ ?_⟩
  · rintro i x σ' H5 hi ⟨⟨y0, rfl⟩, s5, e5⟩
    obtain ⟨y, hy, hat⟩ := hxs.getM hi
    have wy := w4.2 y (List.mem_of_getElem? hy)
    have l3 := fs i
    have l4 := (lSta_sm wy).few
    walk_at "go"
    refine ⟨y, _, rfl, hat.mono s5, wy, fun c1 H7 s7 e7 => ?_⟩
    refine ⟨_, _, _, _, rfl, rfl, s7 _ _ e5, e7, by walk_at "le", fun H8 k8 e8 => ?_⟩
    refine ⟨⟨_, rfl⟩, sapp (s5.trans s7) hL k8, ?_⟩
    rw [e8, take_s hy]
    simp
  rintro σ' H5 ⟨⟨x1, rfl⟩, s5, e5⟩
  rw [ls, List.take_length] at e5
  clear s4 e4
  have l5 := fs ss.length
  rw [List.take_length] at l5
  walk_at "go"
  refine ⟨_, _, _, rfl, rfl, e5, by walk_at "lt", fun H6 k6 e6 => ?_⟩
  have s6 := sapp s5 hL k6
  clear s5 k6
  obtain ⟨p6, hp6, lp6, e6⟩ : ∃ p6 : List Str, p6 = p4 ++ (ss.map lSta).flatten ++ [("}" : Str)] ∧ p6.length ≤ 670 ∧ H6 L = some (.lst (p6.map V.str)) := ⟨_, rfl, by simp only [List.length_append, List.length_cons, List.length_nil]; omega, by rw [e6]; simp⟩
  -- actions
  walk_at "go"
  refine ⟨⟨_, SqL.of (s6 _ _ haa)⟩, for_list (K := K) (a := aa) (xs := xa) (fun i σ' H5 => (∃ x, σ' = [some (.ref a), some (.str "program"), some (.str nm), some (.ref ah), some (.ref am), some (.ref as'), some (.ref aa), some (.ref at'), some (.ref ac), some (.ref ae), some (.ref L), x0, x1, x, none]) ∧ Same H H5 ∧
    H5 L = some (.lst ((p6 ++ ((as.take i).map lAct).flatten).map V.str))) ⟨⟨_, rfl⟩, s6, by rw [e6]; simp⟩
    (fun i σ' H5 _ ⟨_, s5, _⟩ => SqL.of (s5 _ _ haa)) ?_ ?_⟩
  · rintro i x σ' H5 hi ⟨⟨y0, rfl⟩, s5, e5⟩
    obtain ⟨y, hy, hat⟩ := hxa.getM hi
    have wy := w5.2 y (List.mem_of_getElem? hy)
    have l3 := fa i
    have l4 := (lAct_sm wy).few
    walk_at "go"
    refine ⟨y, _, rfl, hat.mono s5, wy, fun c1 H7 s7 e7 => ?_⟩
    refine ⟨_, _, _, _, rfl, rfl, s7 _ _ e5, e7, by walk_at "le", fun H8 k8 e8 => ?_⟩
    refine ⟨⟨_, rfl⟩, sapp (s5.trans s7) hL k8, ?_⟩
    rw [e8, take_s hy]
    simp
  rintro σ' H7 ⟨⟨x2, rfl⟩, s7, e7⟩
  rw [la, List.take_length] at e7
  clear s6 e6
  have l7 := fa as.length
  rw [List.take_length] at l7
  obtain ⟨p7, hp7, lp7, e7⟩ : ∃ p7 : List Str, p7 = p6 ++ (as.map lAct).flatten ∧ p7.length ≤ 960 ∧ H7 L = some (.lst (p7.map V.str)) := ⟨_, rfl, by simp only [List.length_append, List.length_cons, List.length_nil]; omega, by rw [e7]⟩
  -- tables
  walk_at "go"
  refine ⟨⟨_, SqL.of (s7 _ _ hat')⟩, for_list (K := K) (a := at') (xs := xt) (fun i σ' H5 => (∃ x, σ' = [some (.ref a), some (.str "program"), some (.str nm), some (.ref ah), some (.ref am), some (.ref as'), some (.ref aa), some (.ref at'), some (.ref ac), some (.ref ae), some (.ref L), x0, x1, x2, x]) ∧ Same H H5 ∧
    H5 L = some (.lst ((p7 ++ ((ts.take i).map lTab).flatten).map V.str))) ⟨⟨_, rfl⟩, s7, by rw [e7]; simp⟩
    (fun i σ' H5 _ ⟨_, s5, _⟩ => SqL.of (s5 _ _ hat')) ?_ ?_⟩
  · rintro i x σ' H5 hi ⟨⟨y0, rfl⟩, s5, e5⟩
    obtain ⟨y, hy, hat⟩ := hxt.getM hi
    have wy := w6.2 y (List.mem_of_getElem? hy)
    have l3 := ft i
    have l4 := (lTab_sm wy).few
    walk_at "go"
    refine ⟨y, _, rfl, hat.mono s5, wy, fun c1 H7 s7 e7 => ?_⟩
    refine ⟨_, _, _, _, rfl, rfl, s7 _ _ e5, e7, by walk_at "le", fun H8 k8 e8 => ?_⟩
    refine ⟨⟨_, rfl⟩, sapp (s5.trans s7) hL k8, ?_⟩
    rw [e8, take_s hy]
    simp
  rintro σ' H8 ⟨⟨x3, rfl⟩, s8, e8⟩
  rw [lt, List.take_length] at e8
  clear s7 e7
  have l8 := ft ts.length
  rw [List.take_length] at l8
  walk_at "go"
  refine ⟨_, _, _, rfl, rfl, e8, by walk_at "lt", fun H9 k9 e9 => ?_⟩
  have s9 := sapp s8 hL k9
  clear s8 k9
  obtain ⟨p9, hp9, lp9, e9⟩ : ∃ p9 : List Str, p9 = p7 ++ (ts.map lTab).flatten ++ [("control {" : Str)] ∧ p9.length ≤ 1550 ∧ H9 L = some (.lst (p9.map V.str)) := ⟨_, rfl, by simp only [List.length_append, List.length_cons, List.length_nil]; omega, by rw [e9]; simp⟩
  walk_at "go"
  have l9 := lB_len ct "  "
  refine ⟨ct, _, _, rfl, h8.mono s9, w7, w8, by simp only [lit_len]; simp, fun c1 H10 s10 e10 => ?_⟩
  refine ⟨_, _, _, _, rfl, rfl, s10 _ _ e9, e10, by walk_at "le", fun H11 k11 e11 => ?_⟩
  have s11 := sapp (s9.trans s10) hL k11
  clear s9 s10 k11
  walk_at "go"
  refine ⟨_, _, _, rfl, rfl, e11, by walk_at "lt", fun H12 k12 e12 => ?_⟩
  have s12 := sapp s11 hL k12
  clear s11 k12
  obtain ⟨p12, hp12, lp12, e12⟩ : ∃ p12 : List Str, p12 = p9 ++ lB "  " ct ++ [("}" : Str)] ∧ p12.length ≤ 1600 ∧ H12 L = some (.lst (p12.map V.str)) := ⟨_, rfl, by simp only [List.length_append, List.length_cons, List.length_nil]; omega, by rw [e12]; simp⟩
  refine ⟨fun σ' H3 => σ' = [some (.ref a), some (.str "program"), some (.str nm), some (.ref ah), some (.ref am), some (.ref as'), some (.ref aa), some (.ref at'), some (.ref ac), some (.ref ae), some (.ref L), x0, x1, x2, x3] ∧ Same H H3 ∧ H3 L = some (.lst ((p12 ++ lEmit em).map V.str)), ?_, ?_⟩
  · walk_at "go"
    refine ⟨_, _, rfl, .inl (SqL.of (by walk_at "now")), ?_⟩
    refine ⟨_, _, rfl, rfl, ?_⟩
    refine ⟨_, rfl, ?_⟩
    rw [List.length_map]
    cases em with
    | nil => exact ⟨rfl, s12, by rw [e12]; simp [lEmit]⟩
    | cons m0 em =>
      refine ite2 (fun _ => ?_) (fun c => absurd (decide_eq_true (by simp only [List.length_cons]; omega)) c)
      obtain ⟨n1, n2⟩ := names_len w9
      walk_at "go"
      refine ⟨⟨_, rfl⟩, ?_⟩
      walk_at "go"
      refine ⟨", ", _, m0 :: em, rfl, rfl, .inl (SqL.of (by walk_at "now")), n2, ?_⟩
      rw [join_eq]
      walk_at "go"
      refine ⟨_, _, _, rfl, rfl, e12, by walk_at "lt", fun H13 k13 e13 => ?_⟩
      exact ⟨rfl, sapp s12 hL k13, by rw [e13]; simp [lEmit]⟩
  rintro σ' H13 ⟨rfl, s13, e13⟩
  obtain ⟨j1, j2⟩ := joinN_len wp
  have ep : p12 ++ lEmit em = lPrg ⟨nm, hs, me, ss, as, ts, ct, em⟩ := by
    rw [hp12, hp9, hp7, hp6, hp4, hp2]
    simp [lPrg]
  rw [ep] at e13
  refine ⟨⟨_, rfl⟩, ?_⟩
  walk_at "go"
  refine ⟨_, _, lPrg ⟨nm, hs, me, ss, as, ts, ct, em⟩, rfl, rfl, .inl (SqL.of e13), j1, ?_⟩
  rw [join_eq]
  walk_at "go"
  exact q _ s13
end
end WP
namespace WP
open PySem PySem.Spec PyProof.Rows L2 TL
local macro_rules | `(tactic| walk_at "len") => `(tactic| (show _ ≤ sizeLine; rw [sizeLine_eq]; (try simp only [al, lit_len]); (try simp) <;> omega))
local macro_rules | `(tactic| walk_at "lt") => `(tactic| (show _ < sizeLine; rw [sizeLine_eq]; (try simp only [List.length_map, List.length_append, List.length_cons, List.length_nil, List.length_take]); omega))
local macro_rules | `(tactic| walk_at "le") => `(tactic| (show _ ≤ sizeLine; rw [sizeLine_eq]; (try simp only [List.length_map, List.length_append, List.length_cons, List.length_nil, List.length_take]); omega))
local macro_rules | `(tactic| walk_at "now") => `(tactic| first | assumption | (refine (by assumption : Same _ _) _ _ ?_; walk_at "now"))
local macro_rules | `(tactic| walk_at "at") => `(tactic| first | exact at0 | exact at1 | exact at2 | exact at3 | exact at4 | exact at5 | exact at6 | exact at7 | exact at8)
local macro_rules | `(tactic| walk_at "v") => `(tactic| refine ⟨_, rfl, ?_⟩)
local macro_rules | `(tactic| walk_at "ix") => `(tactic| refine ⟨_, _, _, _, rfl, rfl, SqT.of (by walk_at "now"), (by walk_at "at"), ?_⟩)
local macro_rules | `(tactic| walk_at "ixl") => `(tactic| refine ⟨_, _, _, _, rfl, rfl, SqL.of (by walk_at "now"), (by walk_at "at"), ?_⟩)
local macro_rules | `(tactic| walk_at "str") => `(tactic| refine ⟨_, _, rfl, rfl, (by walk_at "len"), ?_⟩)
local macro_rules | `(tactic| walk_at "int") => `(tactic| refine ⟨_, _, rfl, rfl, ?_⟩)
local macro_rules | `(tactic| walk_at "eq") => `(tactic| refine ⟨rfl, _, rfl, ?_⟩)
local macro_rules | `(tactic| walk_at "app") => `(tactic| refine ⟨_, _, _, rfl, rfl, (by walk_at "now"), (by walk_at "lt"), ?_⟩)
local macro_rules | `(tactic| walk_at "ext") => `(tactic| refine ⟨_, _, _, _, rfl, rfl, (by walk_at "now"), (by walk_at "now"), (by walk_at "le"), ?_⟩)
local macro_rules | `(tactic| walk_at "cat") => `(tactic| refine ⟨_, _, _, _, rfl, rfl, (by walk_at "now"), (by walk_at "now"), (by walk_at "le"), ?_⟩)
local macro_rules | `(tactic| walk_at "num") => `(tactic| refine ⟨(by assumption : Nu _), ?_⟩)
local macro_rules | `(tactic| walk_at "ty") => `(tactic| refine ⟨Or.inl ⟨rfl, _, SqL.of (by walk_at "now")⟩, ?_⟩)
local macro_rules | `(tactic| walk_at "un2") => `(tactic| refine ⟨_, _, rfl, SqT.of (by walk_at "now"), rfl, _, _, rfl, _, _, rfl, rfl, ?_⟩)
local macro_rules | `(tactic| walk_at "un3") => `(tactic| refine ⟨_, _, rfl, SqT.of (by walk_at "now"), rfl, _, _, rfl, _, _, rfl, _, _, rfl, rfl, ?_⟩)
local macro_rules | `(tactic| walk_at "un4") => `(tactic| refine ⟨_, _, rfl, SqT.of (by walk_at "now"), rfl, _, _, rfl, _, _, rfl, _, _, rfl, _, _, rfl, rfl, ?_⟩)
local macro_rules | `(tactic| walk_at "un6") => `(tactic| refine ⟨_, _, rfl, SqT.of (by walk_at "now"), rfl, _, _, rfl, _, _, rfl, _, _, rfl, _, _, rfl, _, _, rfl, _, _, rfl, rfl, ?_⟩)
local macro_rules | `(tactic| walk_at "un9") => `(tactic| refine ⟨_, _, rfl, SqT.of (by walk_at "now"), rfl, _, _, rfl, _, _, rfl, _, _, rfl, _, _, rfl, _, _, rfl, _, _, rfl, _, _, rfl, _, _, rfl, _, _, rfl, rfl, ?_⟩)
local macro_rules | `(tactic| walk_at "go") => `(tactic| repeat (first | walk_at "v" | walk_at "eq" | walk_at "ix" | walk_at "str" | walk_at "ty" | walk_at "num"))

def spLE : Nat → Sp
  | 0 => fun _ _ _ _ => False
  | n + 1 => spText eExp (fun e => wExp e ∧ (n = 0 → ∃ o, e = .one o)) xExp
section
variable {P : Program} {w : World} {K : PySem.W.Frag} {mg : Str → Option Value} {base : Heap} {k : Nat}
abbrev s__law_field_text : Stmt := top 76
abbrev n__law_field_text : List Str := ["_law_field"]
theorem sc__law_field_text : FnScope n__law_field_text ["_law_field"] (defScope s__law_field_text) := ⟨rfl, rfl, rfl, by decide +kernel, rfl, by decide +kernel, by decide +kernel⟩
/- slots: 0 _law_field -/
theorem ok__law_field_text (h : Has K mg "_law_field_text" s__law_field_text ["_law_field"]) : Ok P w K mg base (k + 1) "_law_field_text" ["_law_field"] spFieldText := by
  refine h.ok sc__law_field_text (fun vs H Q E h => ?_) (fun f0 cdv A outer s H vs Q E hr h => ?_)
  · obtain ⟨f, v, rfl, _⟩ := h; rfl
  obtain ⟨f, v, rfl, hv, ⟨w1, w2⟩, q⟩ := h
  obtain ⟨a, x1, x2, rfl, ha, h1, h2⟩ := At.t2 hv
  obtain rfl := h1.str_inv
  obtain rfl := h2.str_inv
  have l1 := w1.len
  have l2 := w2.len
  refine ⟨_, (pss_one (ps_ret (pe_op op_add_str (pe_op op_add_str (pe_ix ix_tup (pv 0) pe_int (fun _ _ => rfl)) pe_str) (pe_ix ix_tup (pv 0) pe_int (fun _ _ => rfl))))), ?_⟩
  walk_at "go"
  exact q _ (Same.refl _)
abbrev s__law_expression_text : Stmt := top 77
abbrev n__law_expression_text : List Str := ["_law_e"]
theorem sc__law_expression_text : FnScope n__law_expression_text ["_law_e"] (defScope s__law_expression_text) := ⟨rfl, rfl, rfl, by decide +kernel, rfl, by decide +kernel, by decide +kernel⟩
/- slots: 0 _law_e -/
theorem ok__law_expression_text (B : Bt mg) (h : Has K mg "_law_expression_text" s__law_expression_text ["_law_e"]) (n : Nat) (c1 : Ok P w K mg base k "_law_expression_text" ["_law_e"] (spLE n)) :
    Ok P w K mg base (k + 1) "_law_expression_text" ["_law_e"] (spLE (n + 1)) := by
  obtain ⟨_, _, G__law_expression_text, m__law_expression_text, k__law_expression_text, b__law_expression_text⟩ := c1.ex
  refine h.ok sc__law_expression_text (fun vs H Q E h => ?_) (fun f0 cdv A outer s H vs Q E hr h => ?_)
  · obtain ⟨f, v, rfl, _⟩ := h; rfl
  obtain ⟨e, v, rfl, hv, ⟨hw, hn⟩, q⟩ := h
  refine ⟨_, (pss_cons (ps_if (pt_cmpR op_eq (pe_ix ix_tup (pv 0) pe_int (fun _ _ => rfl)) pe_str (nomark _)) (pss_one (ps_ret (pe_callTy call_str_intS (by rfl) B.str (by decide +kernel) (pa_cons (pe_ix ix_tup (pv 0) pe_int (fun _ _ => rfl)) pa_nil)))) pss_nil)
    (pss_cons (ps_if (pt_cmpR op_eq (pe_ix ix_tup (pv 0) pe_int (fun _ _ => rfl)) pe_str (nomark _)) (pss_one (ps_ret (pe_ix ix_tup (pv 0) pe_int (fun _ _ => rfl)))) pss_nil)
    (pss_cons (ps_if (pt_cmpR op_eq (pe_ix ix_tup (pv 0) pe_int (fun _ _ => rfl)) pe_str (nomark _)) (pss_one (ps_ret (pe_op op_add_str (pe_op op_add_str (pe_ix ix_tup (pv 0) pe_int (fun _ _ => rfl)) pe_str) (pe_ix ix_tup (pv 0) pe_int (fun _ _ => rfl))))) pss_nil)
    (pss_one (ps_ret (pe_op op_add_str (pe_op op_add_str (pe_op op_add_str (pe_op op_add_str (pe_call G__law_expression_text hr (by rfl) m__law_expression_text k__law_expression_text b__law_expression_text .nil pass0 (pa_cons (pe_ix ix_tup (pv 0) pe_int (fun _ _ => rfl)) pa_nil)) pe_str) (pe_ix ix_tup (pv 0) pe_int (fun _ _ => rfl))) pe_str) (pe_call G__law_expression_text hr (by rfl) m__law_expression_text k__law_expression_text b__law_expression_text .nil pass0 (pa_cons (pe_ix ix_tup (pv 0) pe_int (fun _ _ => rfl)) pa_nil)))))))), ?_⟩
  cases e with
  | one o =>
    cases o with
    | num m =>
      obtain ⟨a, x1, x2, rfl, ha, h1, h2⟩ := At.t2 hv
      obtain rfl := h1.str_inv
      obtain rfl := h2.int_inv
      have hw : Nu m := hw
      walk_at "go"
      exact q _ (Same.refl _)
    | par m =>
      obtain ⟨a, x1, x2, rfl, ha, h1, h2⟩ := At.t2 hv
      obtain rfl := h1.str_inv
      obtain rfl := h2.str_inv
      walk_at "go"
      exact q _ (Same.refl _)
    | fld o m =>
      obtain ⟨a, x1, x2, x3, rfl, ha, h1, h2, h3⟩ := At.t3 hv
      obtain rfl := h1.str_inv
      obtain rfl := h2.str_inv
      obtain rfl := h3.str_inv
      have l1 := hw.1.len
      have l2 := hw.2.len
      walk_at "go"
      exact q _ (Same.refl _)
  | bin op a b =>
    cases n with
    | zero => obtain ⟨o, e⟩ := hn rfl; cases e
    | succ n =>
      obtain ⟨a0, x1, x2, x3, rfl, ha, h1, h2, h3⟩ := At.t3 hv
      obtain rfl := h1.str_inv
      have l1 := xOpd_len hw.1
      have l2 := xOpd_len hw.2
      have l1' : (xExp (.one a)).length ≤ 33 := l1
      have l2' : (xExp (.one b)).length ≤ 33 := l2
      have l3 := op.len
      have e1 : V.str op.s ≠ V.str "num" := by cases op <;> decide +kernel
      have e2 : V.str op.s ≠ V.str "param" := by cases op <;> decide +kernel
      have e3 : V.str op.s ≠ V.str "field" := by cases op <;> decide +kernel
      walk_at "go"
      refine ifN e1 ?_
      walk_at "go"
      refine ifN e2 ?_
      walk_at "go"
      refine ifN e3 ?_
      walk_at "go"
      refine ⟨.one a, _, rfl, h2, ⟨hw.1, fun _ => ⟨_, rfl⟩⟩, fun H2 s2 => ?_⟩
      walk_at "go"
      refine ⟨.one b, _, rfl, h3.mono s2, ⟨hw.2, fun _ => ⟨_, rfl⟩⟩, fun H3 s3 => ?_⟩
      walk_at "go"
      exact q _ (s2.trans s3)
theorem ok__law_expression_text_all (B : Bt mg) (h : Has K mg "_law_expression_text" s__law_expression_text ["_law_e"]) : ∀ n : Nat, Ok P w K mg base n "_law_expression_text" ["_law_e"] (spLE n)
  | 0 => (h.none fun _ _ _ _ => id)
  | n + 1 => ok__law_expression_text B h n (ok__law_expression_text_all B h n)
abbrev s__law_op_text : Stmt := top 78
abbrev n__law_op_text : List Str := ["_law_op"]
theorem sc__law_op_text : FnScope n__law_op_text ["_law_op"] (defScope s__law_op_text) := ⟨rfl, rfl, rfl, by decide +kernel, rfl, by decide +kernel, by decide +kernel⟩
/- slots: 0 _law_op -/
theorem ok__law_op_text (h : Has K mg "_law_op_text" s__law_op_text ["_law_op"]) (c1 : Ok P w K mg base k "_law_field_text" ["_law_field"] spFieldText) (c2 : Ok P w K mg base k "_law_expression_text" ["_law_e"] (spLE 2)) :
    Ok P w K mg base (k + 1) "_law_op_text" ["_law_op"] (spText eOpn wOpn xOpn) := by
  obtain ⟨_, _, G__law_field_text, m__law_field_text, k__law_field_text, b__law_field_text⟩ := c1.ex
  obtain ⟨_, _, G__law_expression_text, m__law_expression_text, k__law_expression_text, b__law_expression_text⟩ := c2.ex
  refine h.ok sc__law_op_text (fun vs H Q E h => ?_) (fun f0 cdv A outer s H vs Q E hr h => ?_)
  · obtain ⟨f, v, rfl, _⟩ := h; rfl
  obtain ⟨o, v, rfl, hv, hw, q⟩ := h
  refine ⟨_, (pss_cons (ps_if (pt_cmpR op_eq (pe_ix ix_tup (pv 0) pe_int (fun _ _ => rfl)) pe_str (nomark _)) (pss_one (ps_ret (pe_op op_add_str (pe_op op_add_str (pe_call G__law_field_text hr (by rfl) m__law_field_text k__law_field_text b__law_field_text .nil pass0 (pa_cons (pe_ix ix_tup (pv 0) pe_int (fun _ _ => rfl)) pa_nil)) pe_str) (pe_call G__law_expression_text hr (by rfl) m__law_expression_text k__law_expression_text b__law_expression_text .nil pass0 (pa_cons (pe_ix ix_tup (pv 0) pe_int (fun _ _ => rfl)) pa_nil))))) pss_nil)
    (pss_cons (ps_if (pt_cmpR op_eq (pe_ix ix_tup (pv 0) pe_int (fun _ _ => rfl)) pe_str (nomark _)) (pss_one (ps_ret (pe_op op_add_str pe_str (pe_call G__law_expression_text hr (by rfl) m__law_expression_text k__law_expression_text b__law_expression_text .nil pass0 (pa_cons (pe_ix ix_tup (pv 0) pe_int (fun _ _ => rfl)) pa_nil))))) pss_nil)
    (pss_one (ps_ret (pe_ifExp (pt_cmpR op_eq (pe_ix ix_tup (pv 0) pe_int (fun _ _ => rfl)) pe_str (nomark _)) pe_str (pe_op op_add_str (pe_op op_add_str (pe_ix ix_tup (pv 0) pe_int (fun _ _ => rfl)) pe_str) (pe_ix ix_tup (pv 0) pe_int (fun _ _ => rfl)))))))), ?_⟩
  cases o with
  | set f e =>
    obtain ⟨a, x1, x2, x3, rfl, ha, h1, h2, h3⟩ := At.t3 hv
    obtain rfl := h1.str_inv
    have l1 := xFld_len hw.1
    have l2 := xExp_len hw.2
    walk_at "go"
    refine ⟨f, _, rfl, h2, hw.1, fun H1 s1 => ?_⟩
    walk_at "go"
    refine ⟨e, _, rfl, h3.mono s1, ⟨hw.2, fun z => absurd z (by decide)⟩, fun H2 s2 => ?_⟩
    walk_at "go"
    exact q _ (s1.trans s2)
  | send e =>
    obtain ⟨a, x1, x2, rfl, ha, h1, h2⟩ := At.t2 hv
    obtain rfl := h1.str_inv
    have l2 := xExp_len hw
    walk_at "go"
    refine ⟨e, _, rfl, h2, ⟨hw, fun z => absurd z (by decide)⟩, fun H1 s1 => ?_⟩
    walk_at "go"
    exact q _ s1
  | drop =>
    obtain ⟨a, x1, rfl, ha, h1⟩ := At.t1 hv
    obtain rfl := h1.str_inv
    walk_at "go"
    exact ifE rfl (q _ (Same.refl _))
  | add t =>
    obtain ⟨a, x1, x2, rfl, ha, h1, h2⟩ := At.t2 hv
    obtain rfl := h1.str_inv
    obtain rfl := h2.str_inv
    have l2 := Nm.len hw
    walk_at "go"
    exact q _ (Same.refl _)
  | rem t =>
    obtain ⟨a, x1, x2, rfl, ha, h1, h2⟩ := At.t2 hv
    obtain rfl := h1.str_inv
    obtain rfl := h2.str_inv
    have l2 := Nm.len hw
    walk_at "go"
    exact q _ (Same.refl _)
abbrev s__law_test_text : Stmt := top 81
abbrev n__law_test_text : List Str := ["_law_test_here"]
theorem sc__law_test_text : FnScope n__law_test_text ["_law_test_here"] (defScope s__law_test_text) := ⟨rfl, rfl, rfl, by decide +kernel, rfl, by decide +kernel, by decide +kernel⟩
/- slots: 0 _law_test_here -/
theorem ok__law_test_text (B : Bt mg) (h : Has K mg "_law_test_text" s__law_test_text ["_law_test_here"]) (c1 : Ok P w K mg base k "_law_field_text" ["_law_field"] spFieldText) (n : Nat) (c2 : Ok P w K mg base k "_law_test_text" ["_law_test_here"] (spTst n)) :
    Ok P w K mg base (k + 1) "_law_test_text" ["_law_test_here"] (spTst (n + 1)) := by
  obtain ⟨_, _, G__law_field_text, m__law_field_text, k__law_field_text, b__law_field_text⟩ := c1.ex
  obtain ⟨_, _, G__law_test_text, m__law_test_text, k__law_test_text, b__law_test_text⟩ := c2.ex
  refine h.ok sc__law_test_text (fun vs H Q E h => ?_) (fun f0 cdv A outer s H vs Q E hr h => ?_)
  · obtain ⟨f, v, rfl, _⟩ := h; rfl
  obtain ⟨t, v, rfl, hv, ⟨hn, hw⟩, q⟩ := h
  refine ⟨_, (pss_cons (ps_if (pt_cmpR op_eq (pe_ix ix_tup (pv 0) pe_int (fun _ _ => rfl)) pe_str (nomark _)) (pss_one (ps_ret (pe_op op_add_str pe_str (pe_call G__law_test_text hr (by rfl) m__law_test_text k__law_test_text b__law_test_text .nil pass0 (pa_cons (pe_ix ix_tup (pv 0) pe_int (fun _ _ => rfl)) pa_nil))))) pss_nil)
    (pss_cons (ps_if (pt_cmpR op_eq (pe_ix ix_tup (pv 0) pe_int (fun _ _ => rfl)) pe_str (nomark _)) (pss_one (ps_ret (pe_op op_add_str pe_str (pe_ix ix_tup (pv 0) pe_int (fun _ _ => rfl))))) pss_nil)
    (pss_one (ps_ret (pe_op op_add_str (pe_op op_add_str (pe_op op_add_str (pe_op op_add_str (pe_call G__law_field_text hr (by rfl) m__law_field_text k__law_field_text b__law_field_text .nil pass0 (pa_cons (pe_ix ix_tup (pv 0) pe_int (fun _ _ => rfl)) pa_nil)) pe_str) (pe_ix ix_tup (pv 0) pe_int (fun _ _ => rfl))) pe_str) (pe_callTy call_str_intS (by rfl) B.str (by decide +kernel) (pa_cons (pe_ix ix_tup (pv 0) pe_int (fun _ _ => rfl)) pa_nil))))))), ?_⟩
  cases t with
  | nt t =>
    obtain ⟨m, rfl, hw⟩ := hw
    obtain ⟨a, x1, x2, rfl, ha, h1, h2⟩ := At.t2 hv
    obtain rfl := h1.str_inv
    have l1 := xTst_len hw
    walk_at "go"
    refine ⟨t, _, rfl, h2, ⟨by omega, hw⟩, fun H1 s1 => ?_⟩
    walk_at "go"
    exact q _ s1
  | valid t =>
    obtain ⟨a, x1, x2, rfl, ha, h1, h2⟩ := At.t2 hv
    obtain rfl := h1.str_inv
    obtain rfl := h2.str_inv
    have hw : Nm t := by cases n <;> exact hw
    have l1 := hw.len
    walk_at "go"
    exact q _ (Same.refl _)
  | cmp sg f m =>
    obtain ⟨a, x1, x2, x3, rfl, ha, h1, h2, h3⟩ := At.t3 hv
    obtain rfl := h1.str_inv
    obtain rfl := h3.int_inv
    have hw : wFld f ∧ Nu m := by cases n <;> exact hw
    obtain ⟨w1, w2⟩ := hw
    have l1 := xFld_len w1
    have l2 := sI_len w2
    have l3 := cmpS_len sg
    cases sg with
    | true =>
      walk_at "go"
      refine ⟨f, _, rfl, h2, w1, fun H1 s1 => ?_⟩
      walk_at "go"
      exact q _ s1
    | false =>
      walk_at "go"
      refine ⟨f, _, rfl, h2, w1, fun H1 s1 => ?_⟩
      walk_at "go"
      exact q _ s1
theorem ok__law_test_text_all (B : Bt mg) (h : Has K mg "_law_test_text" s__law_test_text ["_law_test_here"]) (c1 : Ok P w K mg base k "_law_field_text" ["_law_field"] spFieldText) : ∀ n : Nat, Ok P w K mg base (k + n) "_law_test_text" ["_law_test_here"] (spTst n)
  | 0 => (h.none fun _ _ _ _ => id).mono (Nat.zero_le _)
  | n + 1 => ok__law_test_text B h (c1.mono (Nat.le_add_right _ _)) n (ok__law_test_text_all B h c1 n)
end
end WP
namespace WP
open PySem PySem.Spec PyProof.Rows L2 TL
local macro_rules | `(tactic| walk_at "len") => `(tactic| (show _ ≤ sizeLine; rw [sizeLine_eq]; (try simp only [al, lit_len]); (try simp) <;> omega))
local macro_rules | `(tactic| walk_at "lt") => `(tactic| (show _ < sizeLine; rw [sizeLine_eq]; (try simp only [List.length_map, List.length_append, List.length_cons, List.length_nil, List.length_take]); omega))
local macro_rules | `(tactic| walk_at "le") => `(tactic| (show _ ≤ sizeLine; rw [sizeLine_eq]; (try simp only [List.length_map, List.length_append, List.length_cons, List.length_nil, List.length_take]); omega))
local macro_rules | `(tactic| walk_at "now") => `(tactic| first | assumption | (refine (by assumption : Same _ _) _ _ ?_; walk_at "now"))
local macro_rules | `(tactic| walk_at "at") => `(tactic| first | exact at0 | exact at1 | exact at2 | exact at3 | exact at4 | exact at5 | exact at6 | exact at7 | exact at8)
local macro_rules | `(tactic| walk_at "v") => `(tactic| refine ⟨_, rfl, ?_⟩)
local macro_rules | `(tactic| walk_at "ix") => `(tactic| refine ⟨_, _, _, _, rfl, rfl, SqT.of (by walk_at "now"), (by walk_at "at"), ?_⟩)
local macro_rules | `(tactic| walk_at "ixl") => `(tactic| refine ⟨_, _, _, _, rfl, rfl, SqL.of (by walk_at "now"), (by walk_at "at"), ?_⟩)
local macro_rules | `(tactic| walk_at "str") => `(tactic| refine ⟨_, _, rfl, rfl, (by walk_at "len"), ?_⟩)
local macro_rules | `(tactic| walk_at "int") => `(tactic| refine ⟨_, _, rfl, rfl, ?_⟩)
local macro_rules | `(tactic| walk_at "eq") => `(tactic| refine ⟨rfl, _, rfl, ?_⟩)
local macro_rules | `(tactic| walk_at "app") => `(tactic| refine ⟨_, _, _, rfl, rfl, (by walk_at "now"), (by walk_at "lt"), ?_⟩)
local macro_rules | `(tactic| walk_at "ext") => `(tactic| refine ⟨_, _, _, _, rfl, rfl, (by walk_at "now"), (by walk_at "now"), (by walk_at "le"), ?_⟩)
local macro_rules | `(tactic| walk_at "cat") => `(tactic| refine ⟨_, _, _, _, rfl, rfl, (by walk_at "now"), (by walk_at "now"), (by walk_at "le"), ?_⟩)
local macro_rules | `(tactic| walk_at "num") => `(tactic| refine ⟨(by assumption : Nu _), ?_⟩)
local macro_rules | `(tactic| walk_at "ty") => `(tactic| refine ⟨Or.inl ⟨rfl, _, SqL.of (by walk_at "now")⟩, ?_⟩)
local macro_rules | `(tactic| walk_at "un2") => `(tactic| refine ⟨_, _, rfl, SqT.of (by walk_at "now"), rfl, _, _, rfl, _, _, rfl, rfl, ?_⟩)
local macro_rules | `(tactic| walk_at "un3") => `(tactic| refine ⟨_, _, rfl, SqT.of (by walk_at "now"), rfl, _, _, rfl, _, _, rfl, _, _, rfl, rfl, ?_⟩)
local macro_rules | `(tactic| walk_at "un4") => `(tactic| refine ⟨_, _, rfl, SqT.of (by walk_at "now"), rfl, _, _, rfl, _, _, rfl, _, _, rfl, _, _, rfl, rfl, ?_⟩)
local macro_rules | `(tactic| walk_at "un6") => `(tactic| refine ⟨_, _, rfl, SqT.of (by walk_at "now"), rfl, _, _, rfl, _, _, rfl, _, _, rfl, _, _, rfl, _, _, rfl, _, _, rfl, rfl, ?_⟩)
local macro_rules | `(tactic| walk_at "un9") => `(tactic| refine ⟨_, _, rfl, SqT.of (by walk_at "now"), rfl, _, _, rfl, _, _, rfl, _, _, rfl, _, _, rfl, _, _, rfl, _, _, rfl, _, _, rfl, _, _, rfl, _, _, rfl, rfl, ?_⟩)
local macro_rules | `(tactic| walk_at "go") => `(tactic| repeat (first | walk_at "v" | walk_at "eq" | walk_at "ix" | walk_at "str" | walk_at "ty" | walk_at "num"))

section
variable {P : Program} {w : World} {K : PySem.W.Frag} {mg : Str → Option Value} {base : Heap} {k : Nat}
abbrev s__law_state_lines : Stmt := top 79
abbrev n__law_state_lines : List Str := ["_law_part", "_law_lines_here", "_law_value", "_law_mask", "_law_target", "_law_left"]
theorem sc__law_state_lines : FnScope n__law_state_lines ["_law_part"] (defScope s__law_state_lines) := ⟨rfl, rfl, rfl, by decide +kernel, rfl, by decide +kernel, by decide +kernel⟩
/- slots: 0 _law_part, 1 _law_lines_here, 2 _law_value, 3 _law_mask, 4 _law_target, 5 _law_left -/
theorem ok__law_state_lines (B : Bt mg) (h : Has K mg "_law_state_lines" s__law_state_lines ["_law_part"]) (c1 : Ok P w K mg base k "_law_field_text" ["_law_field"] spFieldText) :
    Ok P w K mg base (k + 1) "_law_state_lines" ["_law_part"] (spLines eSta wSta lSta) := by
  obtain ⟨_, _, G__law_field_text, m__law_field_text, k__law_field_text, b__law_field_text⟩ := c1.ex
  refine h.ok sc__law_state_lines (fun vs H Q E h => ?_) (fun f0 cdv A outer s H vs Q E hr h => ?_)
  · obtain ⟨f, v, rfl, _⟩ := h; rfl
  obtain ⟨⟨nm, hd, nx⟩, v, rfl, hv, ⟨w1, w2, w3⟩, q⟩ := h
  dsimp only at w1 w2 w3
  have hv : At H v (.tuple [.str "state", .str nm, eON hd, eNxt nx]) := hv
  refine ⟨_, (pss_cons (ps_set (i := 1) sc__law_state_lines.nd rfl (Or.inl rfl) (pe_lstS (pa_cons (pe_op op_add_str (pe_op op_add_str pe_str (pe_ix ix_tup (pv 0) pe_int (fun _ _ => rfl))) pe_str) pa_nil)))
    (Evl.pss_cut (ps_if (pt_cmpR op_notN (pe_ix ix_tup (pv 0) pe_int (fun _ _ => rfl)) pe_non (nomark _)) (pss_one (ps_expr (pe_bm PySem.F.plainAttrs_list PySem.F.slot_list_append PySem.F.type_list_append mt_appendS (pv 1) (pa_cons (pe_op op_add_str (pe_op op_add_str pe_str (pe_ix ix_tup (pv 0) pe_int (fun _ _ => rfl))) pe_str) pa_nil)))) pss_nil)
    (pss_cons (ps_if (pt_cmpR op_eq (pe_ix ix_tup (pe_ix ix_tup (pv 0) pe_int (fun _ _ => rfl)) pe_int (fun _ _ => rfl)) pe_str (nomark _)) (pss_one (ps_ret (pe_op op_catS (pv 1) (pe_lstS (pa_cons (pe_op op_add_str (pe_op op_add_str pe_str (pe_ix ix_tup (pe_ix ix_tup (pv 0) pe_int (fun _ _ => rfl)) pe_int (fun _ _ => rfl))) pe_str) (pa_cons pe_str pa_nil)))))) pss_nil)
    (pss_cons (ps_expr (pe_bm PySem.F.plainAttrs_list PySem.F.slot_list_append PySem.F.type_list_append mt_appendS (pv 1) (pa_cons (pe_op op_add_str (pe_op op_add_str pe_str (pe_call G__law_field_text hr (by rfl) m__law_field_text k__law_field_text b__law_field_text .nil pass0 (pa_cons (pe_ix ix_tup (pe_ix ix_tup (pv 0) pe_int (fun _ _ => rfl)) pe_int (fun _ _ => rfl)) pa_nil))) pe_str) pa_nil)))
    (pss_cons (ps_for PassesOwn.never rfl (pi_list (pe_ix ix_tup (pe_ix ix_tup (pv 0) pe_int (fun _ _ => rfl)) pe_int (fun _ _ => rfl))) (pg_tup rfl (pgs_cons (pg_name (i := 2) sc__law_state_lines.nd rfl (Or.inl rfl)) (pgs_cons (pg_name (i := 3) sc__law_state_lines.nd rfl (Or.inl rfl)) (pgs_cons (pg_name (i := 4) sc__law_state_lines.nd rfl (Or.inl rfl)) pgs_nil)))) (pss_cons (ps_set (i := 5) sc__law_state_lines.nd rfl (Or.inl rfl) (pe_callTy call_str_intS (by rfl) B.str (by decide +kernel) (pa_cons (pv 2) pa_nil)))
    (Evl.pss_cut (ps_if (pt_cmpR op_notN (pv 3) pe_non (nomark _)) (pss_one (ps_set (i := 5) sc__law_state_lines.nd rfl (Or.inl rfl) (pe_op op_add_str (pe_op op_add_str (pv 5) pe_str) (pe_callTy call_str_intS (by rfl) B.str (by decide +kernel) (pa_cons (pv 3) pa_nil))))) pss_nil)
    (pss_one (ps_expr (pe_bm PySem.F.plainAttrs_list PySem.F.slot_list_append PySem.F.type_list_append mt_appendS (pv 1) (pa_cons (pe_op op_add_str (pe_op op_add_str (pe_op op_add_str (pe_op op_add_str pe_str (pv 5)) pe_str) (pv 4)) pe_str) pa_nil)))))))
    (pss_one (ps_ret (pe_op op_catS (pv 1) (pe_lstS (pa_cons (pe_op op_add_str (pe_op op_add_str pe_str (pe_ix ix_tup (pe_ix ix_tup (pv 0) pe_int (fun _ _ => rfl)) pe_int (fun _ _ => rfl))) pe_str) (pa_cons pe_str (pa_cons pe_str pa_nil)))))))))))), ?_⟩
  obtain ⟨a, x1, x2, x3, x4, rfl, ha, h1, h2, h3, h4⟩ := At.t4 hv
  obtain rfl := h1.str_inv
  obtain rfl := h2.str_inv
  have l1 := w1.len
  walk_at "go"
  refine ⟨by walk_at "le", fun L H1 hL s1 e1 => ?_⟩
  refine ⟨fun σ' H2 => σ' = [some (.ref a), some (.ref L), none, none, none, none] ∧ Same H H2 ∧ H2 L = some (.lst ((["  state " ++ nm ++ " {"] ++ lExt hd).map V.str)), ?_, ?_⟩
  · cases hd with
    | none =>
      obtain rfl := h3.non_inv
      walk_at "go"
      exact ⟨rfl, s1, e1⟩
    | some hd =>
      obtain rfl := At.str_inv h3
      have l2 := (w2 hd rfl).len
      walk_at "go"
      refine ⟨_, _, _, rfl, rfl, e1, by walk_at "lt", fun H2 k2 e2 => ?_⟩
      exact ⟨rfl, sapp s1 hL k2, e2⟩
  rintro σ' H2 ⟨rfl, s2, e2⟩
  have z1 : (lExt hd).length ≤ 1 := by cases hd <;> simp [lExt]
  clear s1 e1
  cases nx with
  | go t =>
    obtain ⟨b, y1, y2, rfl, hb, g1, g2⟩ := At.t2 h4
    obtain rfl := g1.str_inv
    obtain rfl := g2.str_inv
    have l2 := Tgt.len w3
    walk_at "go"
    refine ⟨by walk_at "le", fun L2 H3 hL2 s3 e3 => ?_⟩
    refine ⟨_, _, _, _, rfl, rfl, s3 _ _ e2, e3, by walk_at "le", fun L4 H4 hL4 s4 e4 => ?_⟩
    exact q _ _ ((s2.trans s3).trans s4) (by rw [e4]; simp [lSta, lNxt])
  | sel f rows o =>
    obtain ⟨b, y1, y2, y3, y4, rfl, hb, g1, g2, g3, g4⟩ := At.t4 h4
    obtain rfl := g1.str_inv
    obtain rfl := g4.str_inv
    obtain ⟨r, xs, rfl, hr0, hxs⟩ := g3.lst_inv
    obtain ⟨wf, ⟨wr1, wr2⟩, wo⟩ := w3
    have l2 := Tgt.len wo
    have l3 := xFld_len wf
    have l4 : xs.length = rows.length := by rw [hxs.len, List.length_map]
    walk_at "go"
    refine ⟨f, _, rfl, g2.mono s2, wf, fun H3 s3 => ?_⟩
    walk_at "go"
    refine ⟨_, _, _, rfl, rfl, s3 _ _ e2, by walk_at "lt", fun H4 k4 e4 => ?_⟩
    have s4 := sapp (s2.trans s3) hL k4
    clear s3 k4 s2 e2
    walk_at "go"
    refine ⟨⟨_, SqL.of (s4 _ _ hr0)⟩, for_list (K := K) (a := r) (xs := xs) (fun i σ' H5 => (∃ p q u x, σ' = [some (.ref a), some (.ref L), p, q, u, x]) ∧ Same H H5 ∧
      H5 L = some (.lst ((["  state " ++ nm ++ " {"] ++ lExt hd ++ ["    select " ++ xFld f ++ " {"] ++ (rows.take i).map lRow).map V.str))) ⟨⟨_, _, _, _, rfl⟩, s4, by rw [e4]; simp⟩
      (fun i σ' H5 _ ⟨_, s5, _⟩ => SqL.of (s5 _ _ hr0)) ?_ ?_⟩
    · rintro i x σ' H5 hi ⟨⟨p0, q0, u0, x0, rfl⟩, s5, e5⟩
      obtain ⟨⟨n, m, t⟩, hy, hat⟩ := hxs.getM hi
      have wy := wr2 _ (List.mem_of_getElem? hy)
      obtain ⟨w4, w5, w6⟩ := wy
      dsimp only at w4 w5 w6
      have hat : At H x (.tuple [.int n, eOI m, .str t]) := hat
      obtain ⟨a2, z1, z2, z3, rfl, ha2, i1, i2, i3⟩ := At.t3 hat
      obtain rfl := i1.int_inv
      obtain rfl := i3.str_inv
      have l5 := sI_len w4
      have l6 := w6.len
      have l7 := xVal_len w4 w5
      walk_at "un3"
      walk_at "go"
      refine ⟨fun σ' H6 => σ' = [some (.ref a), some (.ref L), some (.int n), some z2, some (.str t), some (.str (xVal n m))] ∧ H6 = H5, ?_, ?_⟩
      · cases m with
        | none =>
          obtain rfl := i2.non_inv
          walk_at "go"
          exact ⟨rfl, rfl⟩
        | some m =>
          obtain rfl := At.int_inv i2
          have w7 := w5 m rfl
          have l8 := sI_len w7
          walk_at "go"
          exact ⟨rfl, rfl⟩
      rintro σ' H6 ⟨rfl, rfl⟩
      walk_at "go"
      refine ⟨_, _, _, rfl, rfl, e5, by walk_at "lt", fun H7 k7 e7 => ?_⟩
      refine ⟨⟨_, _, _, _, rfl⟩, sapp s5 hL k7, ?_⟩
      rw [e7, take_s hy]
      simp [lRow]
    · rintro σ' H5 ⟨⟨p0, q0, u0, x0, rfl⟩, s5, e5⟩
      walk_at "go"
      refine ⟨by walk_at "le", fun L2 H6 hL2 s6 e6 => ?_⟩
      refine ⟨_, _, _, _, rfl, rfl, s6 _ _ e5, e6, by walk_at "le", fun L4 H7 hL4 s7 e7 => ?_⟩
      exact q _ _ ((s5.trans s6).trans s7) (by rw [e7, l4, List.take_length]; simp [lSta, lNxt])
abbrev s__law_table_lines : Stmt := top 80
abbrev n__law_table_lines : List Str := ["_law_table_here", "_law_lines_here", "_law_field", "_law_kind", "_law_name_here", "_law_n"]
theorem sc__law_table_lines : FnScope n__law_table_lines ["_law_table_here"] (defScope s__law_table_lines) := ⟨rfl, rfl, rfl, by decide +kernel, rfl, by decide +kernel, by decide +kernel⟩
/- slots: 0 _law_table_here, 1 _law_lines_here, 2 _law_field, 3 _law_kind, 4 _law_name_here, 5 _law_n -/
theorem ok__law_table_lines (B : Bt mg) (h : Has K mg "_law_table_lines" s__law_table_lines ["_law_table_here"]) (c1 : Ok P w K mg base k "_law_field_text" ["_law_field"] spFieldText) :
    Ok P w K mg base (k + 1) "_law_table_lines" ["_law_table_here"] (spLines eTab wTab lTab) := by
  obtain ⟨_, _, G__law_field_text, m__law_field_text, k__law_field_text, b__law_field_text⟩ := c1.ex
  refine h.ok sc__law_table_lines (fun vs H Q E h => ?_) (fun f0 cdv A outer s H vs Q E hr h => ?_)
  · obtain ⟨f, v, rfl, _⟩ := h; rfl
  obtain ⟨⟨nm, ks, us, df, as, sz'⟩, v, rfl, hv, ⟨w1, w2, w3, w4, w5, w6⟩, q⟩ := h
  dsimp only at w1 w2 w3 w4 w5 w6
  have hv : At H v (.tuple [.str "table", .str nm, .list (ks.map eKey), .list (us.map .str), .tuple [.str df, .list (as.map .int)], .int sz']) := hv
  refine ⟨_, (pss_cons (ps_set (i := 1) sc__law_table_lines.nd rfl (Or.inl rfl) (pe_lstS (pa_cons (pe_op op_add_str (pe_op op_add_str pe_str (pe_ix ix_tup (pv 0) pe_int (fun _ _ => rfl))) pe_str) pa_nil)))
    (pss_cons (ps_for PassesOwn.never rfl (pi_list (pe_ix ix_tup (pv 0) pe_int (fun _ _ => rfl))) (pg_tup rfl (pgs_cons (pg_name (i := 2) sc__law_table_lines.nd rfl (Or.inl rfl)) (pgs_cons (pg_name (i := 3) sc__law_table_lines.nd rfl (Or.inl rfl)) pgs_nil))) (pss_one (ps_expr (pe_bm PySem.F.plainAttrs_list PySem.F.slot_list_append PySem.F.type_list_append mt_appendS (pv 1) (pa_cons (pe_op op_add_str (pe_op op_add_str (pe_op op_add_str (pe_op op_add_str pe_str (pe_call G__law_field_text hr (by rfl) m__law_field_text k__law_field_text b__law_field_text .nil pass0 (pa_cons (pv 2) pa_nil))) pe_str) (pv 3)) pe_str) pa_nil)))))
    (pss_cons (ps_for PassesOwn.never rfl (pi_list (pe_ix ix_tup (pv 0) pe_int (fun _ _ => rfl))) (pg_name (i := 4) sc__law_table_lines.nd rfl (Or.inl rfl)) (pss_one (ps_expr (pe_bm PySem.F.plainAttrs_list PySem.F.slot_list_append PySem.F.type_list_append mt_appendS (pv 1) (pa_cons (pe_op op_add_str (pe_op op_add_str pe_str (pv 4)) pe_str) pa_nil)))))
    (pss_cons (ps_expr (pe_bm PySem.F.plainAttrs_list PySem.F.slot_list_append PySem.F.type_list_append mt_appendS (pv 1) (pa_cons (pe_op op_add_str (pe_op op_add_str (pe_op op_add_str (pe_op op_add_str pe_str (pe_ix ix_tup (pe_ix ix_tup (pv 0) pe_int (fun _ _ => rfl)) pe_int (fun _ _ => rfl))) pe_str) (pe_join pe_str (pe_lc (own := [("_law_n", 5)]) rfl sc__law_table_lines.nd (pi_list (pe_ix ix_tup (pe_ix ix_tup (pv 0) pe_int (fun _ _ => rfl)) pe_int (fun _ _ => rfl))) (blkOk_by (N := n__law_table_lines) (sc := defScope s__law_table_lines) (by decide +kernel)) (fun _ _ _ _ _ => (pg_name (i := 5) sc__law_table_lines.nd rfl (Or.inl rfl) (Or.inr rfl))) (fun _ _ _ _ _ => pts_nil) (fun _ _ _ _ _ => (pe_callTy call_str_intS (by rfl) B.str (by decide +kernel) (pa_cons (pv 5) pa_nil)))))) pe_str) pa_nil)))
    (pss_one (ps_ret (pe_op op_catS (pv 1) (pe_lstS (pa_cons (pe_op op_add_str (pe_op op_add_str pe_str (pe_callTy call_str_intS (by rfl) B.str (by decide +kernel) (pa_cons (pe_ix ix_tup (pv 0) pe_int (fun _ _ => rfl)) pa_nil))) pe_str) (pa_cons pe_str pa_nil)))))))))), ?_⟩
  obtain ⟨a, x1, x2, x3, x4, x5, x6, rfl, ha, h1, h2, h3, h4, h5, h6⟩ := At.t6 hv
  obtain rfl := h1.str_inv
  obtain rfl := h2.str_inv
  obtain rfl := h6.int_inv
  obtain ⟨b, xs, rfl, hb, hxs⟩ := h3.lst_inv
  obtain ⟨c, ys, rfl, hc, hys⟩ := h4.lst_inv
  obtain rfl := AtL.strs_inv hys
  obtain ⟨d, y1, y2, rfl, hd, g1, g2⟩ := At.t2 h5
  obtain rfl := g1.str_inv
  obtain ⟨e, zs, rfl, he, hzs⟩ := g2.lst_inv
  have l1 := w1.len
  have l2 := w4.len
  have l3 := sI_len w6
  obtain ⟨l4, l5⟩ := nums_len w5
  have l6 : xs.length = ks.length := by rw [hxs.len, List.length_map]
  have l7 := w2.1
  have l8 := w3.1
  walk_at "go"
  refine ⟨by walk_at "le", fun L H1 hL s1 e1 => ?_⟩
  walk_at "go"
  refine ⟨⟨_, SqL.of (s1 _ _ hb)⟩, for_list (K := K) (a := b) (xs := xs) (fun i σ' H5 => (∃ p q, σ' = [some (.ref a), some (.ref L), p, q, none, none]) ∧ Same H H5 ∧
    H5 L = some (.lst ((["table " ++ nm ++ " {"] ++ (ks.take i).map lKey).map V.str))) ⟨⟨_, _, rfl⟩, s1, by rw [e1]; simp⟩
    (fun i σ' H5 _ ⟨_, s5, _⟩ => SqL.of (s5 _ _ hb)) ?_ ?_⟩
  · rintro i x σ' H5 hi ⟨⟨x0, x1, rfl⟩, s5, e5⟩
    obtain ⟨y, hy, hat⟩ := hxs.getM hi
    have wy := w2.2 y (List.mem_of_getElem? hy)
    have l9 := xFld_len wy
    have l10 := y.2.len
    obtain ⟨a2, z1, z2, rfl, ha2, i1, i2⟩ := At.t2 hat
    obtain rfl := i2.str_inv
    walk_at "un2"
    walk_at "go"
    refine ⟨y.1, _, rfl, i1.mono s5, wy, fun H6 s6 => ?_⟩
    walk_at "go"
    refine ⟨_, _, _, rfl, rfl, s6 _ _ e5, by walk_at "lt", fun H7 k7 e7 => ?_⟩
    refine ⟨⟨_, _, rfl⟩, sapp (s5.trans s6) hL k7, ?_⟩
    rw [e7, take_s hy]
    simp [lKey]
  rintro σ' H2 ⟨⟨p0, q0, rfl⟩, s2, e2⟩
  rw [l6, List.take_length] at e2
  clear s1 e1
  walk_at "go"
  refine ⟨⟨_, SqL.of (s2 _ _ hc)⟩, for_list (K := K) (a := c) (xs := us.map V.str) (fun i σ' H5 => (∃ r, σ' = [some (.ref a), some (.ref L), p0, q0, r, none]) ∧ Same H H5 ∧
    H5 L = some (.lst ((["table " ++ nm ++ " {"] ++ ks.map lKey ++ (us.take i).map lUse).map V.str))) ⟨⟨_, rfl⟩, s2, by rw [e2]; simp⟩
    (fun i σ' H5 _ ⟨_, s5, _⟩ => SqL.of (s5 _ _ hc)) ?_ ?_⟩
  · rintro i x σ' H5 hi ⟨⟨r0, rfl⟩, s5, e5⟩
    obtain ⟨y, hy, hat⟩ := hys.getM hi
    obtain rfl := hat.str_inv
    have l9 := (w3.2 y (List.mem_of_getElem? hy)).len
    walk_at "go"
    refine ⟨_, _, _, rfl, rfl, e5, by walk_at "lt", fun H7 k7 e7 => ?_⟩
    refine ⟨⟨_, rfl⟩, sapp s5 hL k7, ?_⟩
    rw [e7, take_s hy]
    simp [lUse]
  rintro σ' H3 ⟨⟨r0, rfl⟩, s3, e3⟩
  rw [List.length_map, List.take_length] at e3
  clear s2 e2
  walk_at "go"
  refine ⟨⟨_, rfl⟩, ?_⟩
  walk_at "go"
  refine ⟨⟨_, SqL.of (s3 _ _ he)⟩, fun D hD => lc_map as PyData.int (fun n => V.str (sI n)) hD (s3 _ _ he) (hzs.mono s3) (by have := w5.1; omega) (fun y x H1 C C' hy hat s1 c => ?_) fun H4 s4 h4 => ?_⟩
  · have wi := w5.2 y hy
    obtain rfl := hat.int_inv
    refine ⟨rfl, ?_⟩
    walk_at "go"
    exact c _ (Same.refl _)
  refine ⟨", ", D, as.map sI, rfl, rfl, .inl (SqL.of (by rw [h4, List.map_map]; rfl)), l5, ?_⟩
  rw [join_eq]
  have e4 := s4 _ _ e3
  have s5 := s3.trans s4
  clear s3 e3 s4
  walk_at "go"
  refine ⟨_, _, _, rfl, rfl, e4, by walk_at "lt", fun H5 k5 e5 => ?_⟩
  have s6 := sapp s5 hL k5
  clear s5
  walk_at "go"
  refine ⟨by walk_at "le", fun L2 H6 hL2 s7 e6 => ?_⟩
  refine ⟨_, _, _, _, rfl, rfl, s7 _ _ e5, e6, by walk_at "le", fun L4 H7 hL4 s8 e7 => ?_⟩
  exact q _ _ ((s6.trans s7).trans s8) (by rw [e7]; simp [lTab])
end
end WP
namespace WP
open PySem PySem.Spec PyProof.Rows L2 TL
local macro_rules | `(tactic| walk_at "len") => `(tactic| (show _ ≤ sizeLine; rw [sizeLine_eq]; (try simp only [al, lit_len]); (try simp) <;> omega))
local macro_rules | `(tactic| walk_at "lt") => `(tactic| (show _ < sizeLine; rw [sizeLine_eq]; (try simp only [List.length_map, List.length_append, List.length_cons, List.length_nil, List.length_take]); omega))
local macro_rules | `(tactic| walk_at "le") => `(tactic| (show _ ≤ sizeLine; rw [sizeLine_eq]; (try simp only [List.length_map, List.length_append, List.length_cons, List.length_nil, List.length_take]); omega))
local macro_rules | `(tactic| walk_at "now") => `(tactic| first | assumption | (refine (by assumption : Same _ _) _ _ ?_; walk_at "now"))
local macro_rules | `(tactic| walk_at "at") => `(tactic| first | exact at0 | exact at1 | exact at2 | exact at3 | exact at4 | exact at5 | exact at6 | exact at7 | exact at8)
local macro_rules | `(tactic| walk_at "v") => `(tactic| refine ⟨_, rfl, ?_⟩)
local macro_rules | `(tactic| walk_at "ix") => `(tactic| refine ⟨_, _, _, _, rfl, rfl, SqT.of (by walk_at "now"), (by walk_at "at"), ?_⟩)
local macro_rules | `(tactic| walk_at "ixl") => `(tactic| refine ⟨_, _, _, _, rfl, rfl, SqL.of (by walk_at "now"), (by walk_at "at"), ?_⟩)
local macro_rules | `(tactic| walk_at "str") => `(tactic| refine ⟨_, _, rfl, rfl, (by walk_at "len"), ?_⟩)
local macro_rules | `(tactic| walk_at "int") => `(tactic| refine ⟨_, _, rfl, rfl, ?_⟩)
local macro_rules | `(tactic| walk_at "eq") => `(tactic| refine ⟨rfl, _, rfl, ?_⟩)
local macro_rules | `(tactic| walk_at "app") => `(tactic| refine ⟨_, _, _, rfl, rfl, (by walk_at "now"), (by walk_at "lt"), ?_⟩)
local macro_rules | `(tactic| walk_at "ext") => `(tactic| refine ⟨_, _, _, _, rfl, rfl, (by walk_at "now"), (by walk_at "now"), (by walk_at "le"), ?_⟩)
local macro_rules | `(tactic| walk_at "cat") => `(tactic| refine ⟨_, _, _, _, rfl, rfl, (by walk_at "now"), (by walk_at "now"), (by walk_at "le"), ?_⟩)
local macro_rules | `(tactic| walk_at "num") => `(tactic| refine ⟨(by assumption : Nu _), ?_⟩)
local macro_rules | `(tactic| walk_at "ty") => `(tactic| refine ⟨Or.inl ⟨rfl, _, SqL.of (by walk_at "now")⟩, ?_⟩)
local macro_rules | `(tactic| walk_at "un2") => `(tactic| refine ⟨_, _, rfl, SqT.of (by walk_at "now"), rfl, _, _, rfl, _, _, rfl, rfl, ?_⟩)
local macro_rules | `(tactic| walk_at "un3") => `(tactic| refine ⟨_, _, rfl, SqT.of (by walk_at "now"), rfl, _, _, rfl, _, _, rfl, _, _, rfl, rfl, ?_⟩)
local macro_rules | `(tactic| walk_at "un4") => `(tactic| refine ⟨_, _, rfl, SqT.of (by walk_at "now"), rfl, _, _, rfl, _, _, rfl, _, _, rfl, _, _, rfl, rfl, ?_⟩)
local macro_rules | `(tactic| walk_at "un6") => `(tactic| refine ⟨_, _, rfl, SqT.of (by walk_at "now"), rfl, _, _, rfl, _, _, rfl, _, _, rfl, _, _, rfl, _, _, rfl, _, _, rfl, rfl, ?_⟩)
local macro_rules | `(tactic| walk_at "un9") => `(tactic| refine ⟨_, _, rfl, SqT.of (by walk_at "now"), rfl, _, _, rfl, _, _, rfl, _, _, rfl, _, _, rfl, _, _, rfl, _, _, rfl, _, _, rfl, _, _, rfl, _, _, rfl, rfl, ?_⟩)
local macro_rules | `(tactic| walk_at "go") => `(tactic| repeat (first | walk_at "v" | walk_at "eq" | walk_at "ix" | walk_at "str" | walk_at "ty" | walk_at "num"))

section
variable {P : Program} {w : World} {K : PySem.W.Frag} {mg : Str → Option Value} {base : Heap} {k : Nat}
abbrev s__law_block_lines : Stmt := top 82
abbrev n__law_block_lines : List Str := ["_law_statements", "_law_indent", "_law_lines_here", "_law_statement"]
theorem sc__law_block_lines : FnScope n__law_block_lines ["_law_statements", "_law_indent"] (defScope s__law_block_lines) := ⟨rfl, rfl, rfl, by decide +kernel, rfl, by decide +kernel, by decide +kernel⟩
/- slots: 0 _law_statements, 1 _law_indent, 2 _law_lines_here, 3 _law_statement -/
theorem ok__law_block_lines (B : Bt mg) (h : Has K mg "_law_block_lines" s__law_block_lines ["_law_statements", "_law_indent"]) (c1 : Ok P w K mg base k "_law_test_text" ["_law_test_here"] (spTst 9)) (n : Nat) (c2 : Ok P w K mg base k "_law_block_lines" ["_law_statements", "_law_indent"] (spStm n)) :
    Ok P w K mg base (k + 1) "_law_block_lines" ["_law_statements", "_law_indent"] (spStm (n + 1)) := by
  obtain ⟨_, _, G__law_test_text, m__law_test_text, k__law_test_text, b__law_test_text⟩ := c1.ex
  obtain ⟨_, _, G__law_block_lines, m__law_block_lines, k__law_block_lines, b__law_block_lines⟩ := c2.ex
  refine h.ok sc__law_block_lines (fun vs H Q E h => ?_) (fun f0 cdv A outer s H vs Q E hr h => ?_)
  · obtain ⟨f, i, v, rfl, _⟩ := h; rfl
  obtain ⟨b, ind, v, rfl, hv, hw, hc, hi, q⟩ := h
  obtain ⟨a, xs, rfl, ha, hxs⟩ := hv.lst_inv
  have lB' := lB_len b ind
  refine ⟨_, (pss_cons (ps_set (i := 2) sc__law_block_lines.nd rfl (Or.inl rfl) (pe_lstS pa_nil))
    (pss_cons (ps_for PassesOwn.never rfl (pi_list (pv 0)) (pg_name (i := 3) sc__law_block_lines.nd rfl (Or.inl rfl)) (pss_one (ps_if (pt_cmpR op_eq (pe_ix ix_tup (pv 3) pe_int (fun _ _ => rfl)) pe_str (nomark _)) (pss_one (ps_expr (pe_bm PySem.F.plainAttrs_list PySem.F.slot_list_append PySem.F.type_list_append mt_appendS (pv 2) (pa_cons (pe_op op_add_str (pe_op op_add_str (pe_op op_add_str (pv 1) pe_str) (pe_ix ix_tup (pv 3) pe_int (fun _ _ => rfl))) pe_str) pa_nil)))) (pss_cons (ps_expr (pe_bm PySem.F.plainAttrs_list PySem.F.slot_list_append PySem.F.type_list_append mt_appendS (pv 2) (pa_cons (pe_op op_add_str (pe_op op_add_str (pe_op op_add_str (pv 1) pe_str) (pe_call G__law_test_text hr (by rfl) m__law_test_text k__law_test_text b__law_test_text .nil pass0 (pa_cons (pe_ix ix_tup (pv 3) pe_int (fun _ _ => rfl)) pa_nil))) pe_str) pa_nil)))
    (pss_cons (ps_set (i := 2) sc__law_block_lines.nd rfl (Or.inl rfl) (pe_op op_catS (pv 2) (pe_call G__law_block_lines hr (by rfl) m__law_block_lines k__law_block_lines b__law_block_lines .nil pass0 (pa_cons (pe_ix ix_tup (pv 3) pe_int (fun _ _ => rfl)) (pa_cons (pe_op op_add_str (pv 1) pe_str) pa_nil)))))
    (Evl.pss_cut (ps_if (pt_cmpR op_gt (pe_callB call_len_seq (by rfl) B.len PySem.boot_len (pa_cons (pe_ix ix_tup (pv 3) pe_int (fun _ _ => rfl)) pa_nil)) pe_int (nomark _)) (pss_one (ps_set (i := 2) sc__law_block_lines.nd rfl (Or.inl rfl) (pe_op op_catS (pe_op op_catS (pv 2) (pe_lstS (pa_cons (pe_op op_add_str (pv 1) pe_str) pa_nil))) (pe_call G__law_block_lines hr (by rfl) m__law_block_lines k__law_block_lines b__law_block_lines .nil pass0 (pa_cons (pe_ix ix_tup (pv 3) pe_int (fun _ _ => rfl)) (pa_cons (pe_op op_add_str (pv 1) pe_str) pa_nil)))))) pss_nil)
    (pss_one (ps_expr (pe_bm PySem.F.plainAttrs_list PySem.F.slot_list_append PySem.F.type_list_append mt_appendS (pv 2) (pa_cons (pe_op op_add_str (pv 1) pe_str) pa_nil))))))))))
    (pss_one (ps_ret (pv 2))))), ?_⟩
  refine ⟨by walk_at "le", fun L H1 hL s1 e1 => ?_⟩
  walk_at "go"
  refine ⟨⟨_, SqL.of (s1 _ _ ha)⟩, for_list (K := K) (a := a) (xs := xs) (fun i σ' H5 => ∃ L x, σ' = [some (.ref a), some (.str ind), some (.ref L), x] ∧ H L = none ∧ Same H H5 ∧
    ∃ r pre, (eB b).drop i = eB r ∧ (wB n r ∧ r.count ≤ 16) ∧ H5 L = some (.lst (pre.map V.str)) ∧ pre ++ lB ind r = lB ind b) ⟨L, _, rfl, hL, s1, b, [], rfl, ⟨hw, hc⟩, e1, rfl⟩
    (fun i σ' H5 _ ⟨_, _, _, _, s5, _⟩ => SqL.of (s5 _ _ ha)) ?_ ?_⟩
  · rintro i x σ' H5 hx ⟨L, x0, rfl, hL, s5, r, pre, hr0, ⟨wr, hcr⟩, e5, hp⟩
    obtain ⟨d, hd, hat⟩ := hxs.get hx
    have l0 : pre.length + (lB ind r).length = (lB ind b).length := by rw [← hp, List.length_append]
    cases r with
    | nil =>
      have := (List.getElem?_eq_some_iff.mp hd).1
      have h2 : (eB b).length ≤ i := List.drop_eq_nil_iff.mp hr0
      omega
    | app t r =>
      obtain ⟨g1, g2⟩ := drop_cons hr0
      rw [g1] at hd
      cases hd
      obtain ⟨wt, wr⟩ := wr
      obtain ⟨a2, y1, y2, rfl, ha2, i1, i2⟩ := At.t2 hat
      obtain rfl := i1.str_inv
      obtain rfl := i2.str_inv
      have l1 := wt.len
      walk_at "go"
      refine ⟨_, _, _, rfl, rfl, e5, by walk_at "lt", fun H7 k7 e7 => ?_⟩
      refine ⟨_, _, rfl, hL, sapp s5 hL k7, r, pre ++ [ind ++ "apply " ++ t ++ ";"], g2, ⟨wr, by simp only [Blk.count] at hcr; omega⟩, by rw [e7]; simp, ?_⟩
      rw [← hp]; simp [lB]
    | ifs t b1 b2 r =>
      obtain ⟨g1, g2⟩ := drop_cons hr0
      rw [g1] at hd
      cases hd
      obtain ⟨wt, ⟨m, rfl, wa, wb⟩, wr⟩ := wr
      simp only [Blk.count] at hcr
      obtain ⟨a2, y1, y2, y3, y4, rfl, ha2, i1, i2, i3, i4⟩ := At.t4 hat
      obtain rfl := i1.str_inv
      obtain ⟨a3, zs, rfl, ha3, hzs⟩ := i4.lst_inv
      have l1 := xTst_len wt
      have l2 := lB_len b1 (ind ++ "  ")
      have l3 := lB_len b2 (ind ++ "  ")
      have l4 : zs.length = (eB b2).length := hzs.len
      have l6 : (ind ++ "  ").length + 2 * m ≤ 20 := by simp only [al, lit_len]; simp; omega
      have l7 : (lB ind b).length ≤ 48 := by omega
      walk_at "go"
      refine ⟨t, _, rfl, i2.mono s5, ⟨by decide, wt⟩, fun H6 s6 => ?_⟩
      walk_at "go"
      refine ⟨_, _, _, rfl, rfl, s6 _ _ e5, by walk_at "lt", fun H7 k7 e7 => ?_⟩
      have s7 := sapp (s5.trans s6) hL k7
      clear s6 k7 s5
      walk_at "go"
      refine ⟨b1, _, _, rfl, i3.mono s7, wa, by omega, l6, fun c1 H8 s8 e8 => ?_⟩
      refine ⟨_, _, _, _, rfl, rfl, s8 _ _ e7, e8, by walk_at "le", fun L9 H9 hL9 s9' e9 => ?_⟩
      have s9 := (s7.trans s8).trans s9'
      have hL9 : H L9 = none := (s7.trans s8).free hL9
      clear s8 s9' s7
      refine ⟨fun σ' H10 => ∃ L, σ' = [some (.ref a), some (.str ind), some (.ref L), some (.ref a2)] ∧ H L = none ∧ Same H H10 ∧ H10 L = some (.lst ((pre ++ ([ind ++ "if " ++ xTst t ++ " {"] ++ lB (ind ++ "  ") b1 ++ lElse ind (lB (ind ++ "  ") b2) b2.some)).map V.str)), ?_, ?_⟩
      · walk_at "go"
        refine ⟨_, _, rfl, .inl (SqL.of (by walk_at "now")), ?_⟩
        refine ⟨_, _, rfl, rfl, ?_⟩
        refine ⟨_, rfl, ?_⟩
        rw [l4, eB_some]
        cases hs : b2.some with
        | false =>
          walk_at "go"
          exact ⟨hL9, s9, by rw [e9]; simp [lElse]⟩
        | true =>
          walk_at "go"
          refine ⟨by walk_at "le", fun L10 H10 hL10 s10 e10 => ?_⟩
          refine ⟨_, _, _, _, rfl, rfl, s10 _ _ e9, e10, by walk_at "le", fun L11 H11 hL11 s11 e11 => ?_⟩
          have s11' := (s9.trans s10).trans s11
          have hL11 : H L11 = none := (s9.trans s10).free hL11
          clear s9 s10 s11
          walk_at "go"
          refine ⟨b2, _, _, rfl, i4.mono s11', wb, by omega, l6, fun c2 H12 s12 e12 => ?_⟩
          refine ⟨_, _, _, _, rfl, rfl, s12 _ _ e11, e12, by walk_at "le", fun L13 H13 hL13 s13 e13 => ?_⟩
          exact ⟨_, rfl, (s11'.trans s12).free hL13, (s11'.trans s12).trans s13, by rw [e13]; simp [lElse]⟩
      rintro σ' H10 ⟨L10, rfl, hL10, s10, e10⟩
      have l8 : (lElse ind (lB (ind ++ "  ") b2) b2.some).length ≤ 49 := by
        cases b2.some
        · simp [lElse]
        · simp [lElse]; omega
      walk_at "go"
      refine ⟨_, _, _, rfl, rfl, e10, by walk_at "lt", fun H11 k11 e11 => ?_⟩
      refine ⟨_, _, rfl, hL10, sapp s10 hL10 k11, r, pre ++ ([ind ++ "if " ++ xTst t ++ " {"] ++ lB (ind ++ "  ") b1 ++ lElse ind (lB (ind ++ "  ") b2) b2.some ++ [ind ++ "}"]), g2, ⟨wr, by omega⟩, by rw [e11]; simp, ?_⟩
      rw [← hp]; simp [lB]
  · rintro σ' H5 ⟨L, x0, rfl, hL, s5, r, pre, hr0, wr, e5, hp⟩
    have : eB r = [] := by rw [← hr0, hxs.len, List.drop_length]
    cases r with
    | app t r => cases this
    | ifs t b1 b2 r => cases this
    | nil =>
      walk_at "go"
      exact q _ _ s5 (by rw [e5, ← hp]; simp [lB])
abbrev s__law_lines : Stmt := top 83
abbrev n__law_lines : List Str := ["_law_program_here", "_law_lines_here", "_law_header", "_law_part", "_law_action", "_law_params", "_law_table_here", "_law_name_here", "_law_width", "_law_op"]
theorem sc__law_lines : FnScope n__law_lines ["_law_program_here"] (defScope s__law_lines) := ⟨rfl, rfl, rfl, by decide +kernel, rfl, by decide +kernel, by decide +kernel⟩
/- slots: 0 _law_program_here, 1 _law_lines_here, 2 _law_header, 3 _law_part, 4 _law_action, 5 _law_params, 6 _law_table_here, 7 _law_name_here, 8 _law_width, 9 _law_op -/
def spLawLines : Sp := fun vs H Q _ => ∃ p v, vs = [v] ∧ At H v (ePrg p) ∧ wPrg p ∧ ∀ a H', Same H H' → H' a = some (.lst ((lPrg p).map V.str)) → Q (.ref a) H'
theorem ok__law_lines (B : Bt mg) (h : Has K mg "_law_lines" s__law_lines ["_law_program_here"]) (c2 : Ok P w K mg base k "_law_state_lines" ["_law_part"] (spLines eSta wSta lSta))
    (c3 : Ok P w K mg base k "_law_op_text" ["_law_op"] (spText eOpn wOpn xOpn)) (c4 : Ok P w K mg base k "_law_table_lines" ["_law_table_here"] (spLines eTab wTab lTab)) (c5 : Ok P w K mg base k "_law_block_lines" ["_law_statements", "_law_indent"] (spStm 8)) :
    Ok P w K mg base (k + 1) "_law_lines" ["_law_program_here"] spLawLines := by
  obtain ⟨_, _, G__law_state_lines, m__law_state_lines, k__law_state_lines, b__law_state_lines⟩ := c2.ex
  obtain ⟨_, _, G__law_op_text, m__law_op_text, k__law_op_text, b__law_op_text⟩ := c3.ex
  obtain ⟨_, _, G__law_table_lines, m__law_table_lines, k__law_table_lines, b__law_table_lines⟩ := c4.ex
  obtain ⟨_, _, G__law_block_lines, m__law_block_lines, k__law_block_lines, b__law_block_lines⟩ := c5.ex
  refine h.ok sc__law_lines (fun vs H Q E h => ?_) (fun f0 cdv A outer s H vs Q E hr h => ?_)
  · obtain ⟨f, v, rfl, _⟩ := h; rfl
  obtain ⟨⟨nm, hs, me, ss, as, ts, ct, em⟩, v, rfl, hv, ⟨w1, w2, w3, w4, w5, w6, w7, w8, w9⟩, q⟩ := h
  dsimp only at w1 w2 w3 w4 w5 w6 w7 w8 w9
  have hv : At H v (.tuple [.str "program", .str nm, .list (hs.map eHdr), .list (me.map ePar), .list (ss.map eSta), .list (as.map eAct), .list (ts.map eTab), .list (eB ct), .list (em.map .str)]) := hv
  refine ⟨_, (pss_cons (ps_set (i := 1) sc__law_lines.nd rfl (Or.inl rfl) (pe_lstS (pa_cons (pe_op op_add_str pe_str (pe_ix ix_tup (pv 0) pe_int (fun _ _ => rfl))) pa_nil)))
    (pss_cons (ps_for PassesOwn.never rfl (pi_list (pe_ix ix_tup (pv 0) pe_int (fun _ _ => rfl))) (pg_name (i := 2) sc__law_lines.nd rfl (Or.inl rfl)) (pss_cons (ps_set (i := 1) sc__law_lines.nd rfl (Or.inl rfl) (pe_op op_catS (pv 1) (pe_lstS (pa_cons (pe_op op_add_str (pe_op op_add_str pe_str (pe_ix ix_tup (pv 2) pe_int (fun _ _ => rfl))) pe_str) pa_nil))))
    (pss_one (ps_set (i := 1) sc__law_lines.nd rfl (Or.inl rfl) (pe_op op_catS (pe_op op_catS (pv 1) (pe_lc (own := [("_law_name_here", 7), ("_law_width", 8)]) rfl sc__law_lines.nd (pi_list (pe_ix ix_tup (pv 2) pe_int (fun _ _ => rfl))) (blkOk_by (N := n__law_lines) (sc := defScope s__law_lines) (by decide +kernel)) (fun _ _ _ _ _ => (pg_tupK (K := K) (n := 2) rfl rfl (pgs_cons (pg_name (i := 7) sc__law_lines.nd rfl (Or.inl rfl) (Or.inr rfl)) (pgs_cons (pg_name (i := 8) sc__law_lines.nd rfl (Or.inl rfl) (Or.inr rfl)) pgs_nil)))) (fun _ _ _ _ _ => pts_nil) (fun _ _ _ _ _ => (pe_op op_add_str (pe_op op_add_str (pe_op op_add_str (pe_op op_add_str pe_str (pv 7)) pe_str) (pe_callTy call_str_intS (by rfl) B.str (by decide +kernel) (pa_cons (pv 8) pa_nil))) pe_str)))) (pe_lstS (pa_cons pe_str pa_nil)))))))
    (Evl.pss_cut (ps_if (pt_cmpR op_gt (pe_callB call_len_seq (by rfl) B.len PySem.boot_len (pa_cons (pe_ix ix_tup (pv 0) pe_int (fun _ _ => rfl)) pa_nil)) pe_int (nomark _)) (pss_one (ps_set (i := 1) sc__law_lines.nd rfl (Or.inl rfl) (pe_op op_catS (pe_op op_catS (pe_op op_catS (pv 1) (pe_lstS (pa_cons pe_str pa_nil))) (pe_lc (own := [("_law_name_here", 7), ("_law_width", 8)]) rfl sc__law_lines.nd (pi_list (pe_ix ix_tup (pv 0) pe_int (fun _ _ => rfl))) (blkOk_by (N := n__law_lines) (sc := defScope s__law_lines) (by decide +kernel)) (fun _ _ _ _ _ => (pg_tupK (K := K) (n := 2) rfl rfl (pgs_cons (pg_name (i := 7) sc__law_lines.nd rfl (Or.inl rfl) (Or.inr rfl)) (pgs_cons (pg_name (i := 8) sc__law_lines.nd rfl (Or.inl rfl) (Or.inr rfl)) pgs_nil)))) (fun _ _ _ _ _ => pts_nil) (fun _ _ _ _ _ => (pe_op op_add_str (pe_op op_add_str (pe_op op_add_str (pe_op op_add_str pe_str (pv 7)) pe_str) (pe_callTy call_str_intS (by rfl) B.str (by decide +kernel) (pa_cons (pv 8) pa_nil))) pe_str)))) (pe_lstS (pa_cons pe_str pa_nil))))) pss_nil)
    (pss_cons (ps_expr (pe_bm PySem.F.plainAttrs_list PySem.F.slot_list_append PySem.F.type_list_append mt_appendS (pv 1) (pa_cons pe_str pa_nil)))
    (pss_cons (ps_for PassesOwn.never rfl (pi_list (pe_ix ix_tup (pv 0) pe_int (fun _ _ => rfl))) (pg_name (i := 3) sc__law_lines.nd rfl (Or.inl rfl)) (pss_one (ps_set (i := 1) sc__law_lines.nd rfl (Or.inl rfl) (pe_op op_catS (pv 1) (pe_call G__law_state_lines hr (by rfl) m__law_state_lines k__law_state_lines b__law_state_lines .nil pass0 (pa_cons (pv 3) pa_nil))))))
    (pss_cons (ps_expr (pe_bm PySem.F.plainAttrs_list PySem.F.slot_list_append PySem.F.type_list_append mt_appendS (pv 1) (pa_cons pe_str pa_nil)))
    (pss_cons (ps_for PassesOwn.never rfl (pi_list (pe_ix ix_tup (pv 0) pe_int (fun _ _ => rfl))) (pg_name (i := 4) sc__law_lines.nd rfl (Or.inl rfl)) (pss_cons (ps_set (i := 5) sc__law_lines.nd rfl (Or.inl rfl) (pe_join pe_str (pe_lc (own := [("_law_name_here", 7), ("_law_width", 8)]) rfl sc__law_lines.nd (pi_list (pe_ix ix_tup (pv 4) pe_int (fun _ _ => rfl))) (blkOk_by (N := n__law_lines) (sc := defScope s__law_lines) (by decide +kernel)) (fun _ _ _ _ _ => (pg_tupK (K := K) (n := 2) rfl rfl (pgs_cons (pg_name (i := 7) sc__law_lines.nd rfl (Or.inl rfl) (Or.inr rfl)) (pgs_cons (pg_name (i := 8) sc__law_lines.nd rfl (Or.inl rfl) (Or.inr rfl)) pgs_nil)))) (fun _ _ _ _ _ => pts_nil) (fun _ _ _ _ _ => (pe_op op_add_str (pe_op op_add_str (pv 7) pe_str) (pe_callTy call_str_intS (by rfl) B.str (by decide +kernel) (pa_cons (pv 8) pa_nil)))))))
    (pss_cons (ps_set (i := 1) sc__law_lines.nd rfl (Or.inl rfl) (pe_op op_catS (pv 1) (pe_lstS (pa_cons (pe_op op_add_str (pe_op op_add_str (pe_op op_add_str (pe_op op_add_str pe_str (pe_ix ix_tup (pv 4) pe_int (fun _ _ => rfl))) pe_str) (pv 5)) pe_str) pa_nil))))
    (pss_one (ps_set (i := 1) sc__law_lines.nd rfl (Or.inl rfl) (pe_op op_catS (pe_op op_catS (pv 1) (pe_lc (own := [("_law_op", 9)]) rfl sc__law_lines.nd (pi_list (pe_ix ix_tup (pv 4) pe_int (fun _ _ => rfl))) (blkOk_by (N := n__law_lines) (sc := defScope s__law_lines) (by decide +kernel)) (fun _ _ _ _ _ => (pg_name (i := 9) sc__law_lines.nd rfl (Or.inl rfl) (Or.inr rfl))) (fun _ _ _ _ _ => pts_nil) (fun _ _ _ _ _ => (pe_op op_add_str (pe_op op_add_str pe_str (pe_call G__law_op_text hr (by rfl) m__law_op_text k__law_op_text b__law_op_text .nil pass0 (pa_cons (pv 9) pa_nil))) pe_str)))) (pe_lstS (pa_cons pe_str pa_nil))))))))
    (pss_cons (ps_for PassesOwn.never rfl (pi_list (pe_ix ix_tup (pv 0) pe_int (fun _ _ => rfl))) (pg_name (i := 6) sc__law_lines.nd rfl (Or.inl rfl)) (pss_one (ps_set (i := 1) sc__law_lines.nd rfl (Or.inl rfl) (pe_op op_catS (pv 1) (pe_call G__law_table_lines hr (by rfl) m__law_table_lines k__law_table_lines b__law_table_lines .nil pass0 (pa_cons (pv 6) pa_nil))))))
    (pss_cons (ps_set (i := 1) sc__law_lines.nd rfl (Or.inl rfl) (pe_op op_catS (pe_op op_catS (pe_op op_catS (pv 1) (pe_lstS (pa_cons pe_str pa_nil))) (pe_call G__law_block_lines hr (by rfl) m__law_block_lines k__law_block_lines b__law_block_lines .nil pass0 (pa_cons (pe_ix ix_tup (pv 0) pe_int (fun _ _ => rfl)) (pa_cons pe_str pa_nil)))) (pe_lstS (pa_cons pe_str pa_nil))))
    (Evl.pss_cut (ps_if (pt_cmpR op_gt (pe_callB call_len_seq (by rfl) B.len PySem.boot_len (pa_cons (pe_ix ix_tup (pv 0) pe_int (fun _ _ => rfl)) pa_nil)) pe_int (nomark _)) (pss_one (ps_expr (pe_bm PySem.F.plainAttrs_list PySem.F.slot_list_append PySem.F.type_list_append mt_appendS (pv 1) (pa_cons (pe_op op_add_str (pe_op op_add_str pe_str (pe_join pe_str (pe_ix ix_tup (pv 0) pe_int (fun _ _ => rfl)))) pe_str) pa_nil)))) pss_nil)
    (pss_one (ps_ret (pv 1))))))))))))), ?_⟩
  obtain ⟨a, x1, x2, x3, x4, x5, x6, x7, x8, x9, rfl, ha, h1, h2, h3, h4, h5, h6, h7, h8, h9⟩ := At.t9 hv
  obtain rfl := h1.str_inv
  obtain rfl := h2.str_inv
  obtain ⟨ah, xh, rfl, hah, hxh⟩ := h3.lst_inv
  obtain ⟨am, xm, rfl, ham, hxm⟩ := h4.lst_inv
  obtain ⟨as', xs, rfl, has, hxs⟩ := h5.lst_inv
  obtain ⟨aa, xa, rfl, haa, hxa⟩ := h6.lst_inv
  obtain ⟨at', xt, rfl, hat', hxt⟩ := h7.lst_inv
  obtain ⟨ac, xc, rfl, hac, hxc⟩ := h8.lst_inv
  obtain ⟨ae, xe, rfl, hae, hxe⟩ := h9.lst_inv
  obtain rfl := AtL.strs_inv hxe
  have l1 := w1.len
  have lh : xh.length = hs.length := by rw [hxh.len, List.length_map]
  have lm : xm.length = me.length := by rw [hxm.len, List.length_map]
  have ls : xs.length = ss.length := by rw [hxs.len, List.length_map]
  have la : xa.length = as.length := by rw [hxa.len, List.length_map]
  have lt : xt.length = ts.length := by rw [hxt.len, List.length_map]
  walk_at "go"
  refine ⟨by walk_at "le", fun L H1 hL s1 e1 => ?_⟩
  have fh : ∀ i, (((hs.take i).map lHdr).flatten).length ≤ 288 := fun i => flat_take (fun x hx => (lHdr_sm (w2.2 x hx)).few) w2.1
  have fs : ∀ i, (((ss.take i).map lSta).flatten).length ≤ 352 := fun i => flat_take (fun x hx => (lSta_sm (w4.2 x hx)).few) w4.1
  have fa : ∀ i, (((as.take i).map lAct).flatten).length ≤ 288 := fun i => flat_take (fun x hx => (lAct_sm (w5.2 x hx)).few) w5.1
  have ft : ∀ i, (((ts.take i).map lTab).flatten).length ≤ 576 := fun i => flat_take (fun x hx => (lTab_sm (w6.2 x hx)).few) w6.1
  -- the headers
  walk_at "go"
  refine ⟨⟨_, SqL.of (s1 _ _ hah)⟩, for_list (K := K) (a := ah) (xs := xh) (fun i σ' H5 => ∃ L x, σ' = [some (.ref a), some (.ref L), x, none, none, none, none, none, none, none] ∧ H L = none ∧ Same H H5 ∧
    H5 L = some (.lst ((["program " ++ nm] ++ ((hs.take i).map lHdr).flatten).map V.str))) ⟨L, _, rfl, hL, s1, by rw [e1]; simp⟩
    (fun i σ' H5 _ ⟨_, _, _, _, s5, _⟩ => SqL.of (s5 _ _ hah)) ?_ ?_⟩
  · rintro i x σ' H5 hi ⟨L, x0, rfl, hL, s5, e5⟩
    obtain ⟨y, hy, hat⟩ := hxh.getM hi
    have wy := w2.2 y (List.mem_of_getElem? hy)
    obtain ⟨a2, y1, y2, y3, rfl, ha2, i1, i2, i3⟩ := At.t3 hat
    obtain rfl := i1.str_inv
    obtain rfl := i2.str_inv
    obtain ⟨a4, x4, rfl, ha4, hx4⟩ := i3.lst_inv
    have l2 := wy.1.len
    have l3 := fh i
    have l4 := wy.2.1
    walk_at "go"
    refine ⟨by walk_at "le", fun L6 H6 hL6 s6 e6 => ?_⟩
    refine ⟨_, _, _, _, rfl, rfl, s6 _ _ e5, e6, by walk_at "le", fun L7 H7 hL7 s7 e7 => ?_⟩
    have s7' := (s5.trans s6).trans s7
    clear s5 s6 s7
    walk_at "go"
    refine ⟨⟨_, SqL.of (s7' _ _ ha4)⟩, fun D hD => lc_map y.2 ePar (fun p => V.str (lPar p)) hD (s7' _ _ ha4) (hx4.mono s7') (by omega) (fun y x H1 C C' hy hat s1 c => ?_) fun H8 s8 e8 => ?_⟩
    · obtain ⟨wn, wi⟩ := wy.2.2 y hy
      obtain ⟨a, x1, x2, rfl, ha, h1, h2⟩ := At.t2 hat
      obtain rfl := h1.str_inv
      obtain rfl := h2.int_inv
      have l1 := wn.len
      have l2 := sI_len wi
      walk_at "un2"
      refine ⟨rfl, ?_⟩
      walk_at "go"
      exact c _ (Same.refl _)
    refine ⟨_, _, _, _, rfl, rfl, s8 _ _ e7, e8, by walk_at "le", fun L9 H9 hL9 s9 e9 => ?_⟩
    refine ⟨by walk_at "le", fun L10 H10 hL10 s10 e10 => ?_⟩
    refine ⟨_, _, _, _, rfl, rfl, s10 _ _ e9, e10, by walk_at "le", fun L11 H11 hL11 s11 e11 => ?_⟩
    have t11 := (s7'.trans s8).trans (s9.trans s10)
    refine ⟨_, _, rfl, t11.free hL11, t11.trans s11, ?_⟩
    rw [e11, take_s hy]
    simp [lHdr, Function.comp_def]
  rintro σ' H2 ⟨L, x0, rfl, hL, s2, e2⟩
  rw [lh, List.take_length] at e2
  clear s1 e1
  have l2 := fh hs.length
  rw [List.take_length] at l2
  obtain ⟨p2, hp2, lp2, e2⟩ : ∃ p2 : List Str, p2 = ["program " ++ nm] ++ (hs.map lHdr).flatten ∧ p2.length ≤ 289 ∧ H2 L = some (.lst (p2.map V.str)) := ⟨_, rfl, by simp only [List.length_append, List.length_cons, List.length_nil]; omega, e2⟩
  -- meta
  refine ⟨fun σ' H3 => ∃ L, σ' = [some (.ref a), some (.ref L), x0, none, none, none, none, none, none, none] ∧ H L = none ∧ Same H H3 ∧ H3 L = some (.lst ((p2 ++ lMeta me).map V.str)), ?_, ?_⟩
  · walk_at "go"
    refine ⟨_, _, rfl, .inl (SqL.of (by walk_at "now")), ?_⟩
    refine ⟨_, _, rfl, rfl, ?_⟩
    refine ⟨_, rfl, ?_⟩
    rw [lm]
    cases me with
    | nil => exact ⟨L, rfl, hL, s2, by rw [e2]; simp [lMeta]⟩
    | cons m0 me =>
      refine ite2 (fun _ => ?_) (fun c => absurd (decide_eq_true (by simp only [List.length_cons]; omega)) c)
      have l3 := w3.1
      simp only [List.length_cons] at l3
      walk_at "go"
      refine ⟨by walk_at "le", fun L6 H6 hL6 s6 e6 => ?_⟩
      refine ⟨_, _, _, _, rfl, rfl, s6 _ _ e2, e6, by walk_at "le", fun L7 H7 hL7 s7 e7 => ?_⟩
      have s7' := (s2.trans s6).trans s7
      clear s2 s6 s7
      walk_at "go"
      refine ⟨⟨_, SqL.of (s7' _ _ ham)⟩, fun D hD => lc_map (m0 :: me) ePar (fun p => V.str (lPar p)) hD (s7' _ _ ham) (hxm.mono s7') (by have := w3.1; omega) (fun y x H1 C C' hy hat s1 c => ?_) fun H8 s8 e8 => ?_⟩
      · obtain ⟨wn, wi⟩ := w3.2 y hy
        obtain ⟨a, x1, x2, rfl, ha, h1, h2⟩ := At.t2 hat
        obtain rfl := h1.str_inv
        obtain rfl := h2.int_inv
        have l1 := wn.len
        have l2 := sI_len wi
        walk_at "un2"
        refine ⟨rfl, ?_⟩
        walk_at "go"
        exact c _ (Same.refl _)
      refine ⟨_, _, _, _, rfl, rfl, s8 _ _ e7, e8, by walk_at "le", fun L9 H9 hL9 s9 e9 => ?_⟩
      refine ⟨by walk_at "le", fun L10 H10 hL10 s10 e10 => ?_⟩
      refine ⟨_, _, _, _, rfl, rfl, s10 _ _ e9, e10, by walk_at "le", fun L11 H11 hL11 s11 e11 => ?_⟩
      have t11 := (s7'.trans s8).trans (s9.trans s10)
      exact ⟨_, rfl, t11.free hL11, t11.trans s11, by rw [e11]; simp [lMeta, Function.comp_def]⟩
  rintro σ' H3 ⟨L, rfl, hL, s3, e3⟩
  clear s2 e2
  have l3 := (lMeta_sm w3).few
  walk_at "go"
  refine ⟨_, _, _, rfl, rfl, e3, by walk_at "lt", fun H4 k4 e4 => ?_⟩
  have s4 := sapp s3 hL k4
  clear s3 k4
  obtain ⟨p4, hp4, lp4, e4⟩ : ∃ p4 : List Str, p4 = p2 ++ lMeta me ++ [("parser {" : Str)] ∧ p4.length ≤ 310 ∧ H4 L = some (.lst (p4.map V.str)) := ⟨_, rfl, by simp only [List.length_append, List.length_cons, List.length_nil]; omega, by rw [e4]; simp⟩
  -- states
  walk_at "go"
  refine ⟨⟨_, SqL.of (s4 _ _ has)⟩, for_list (K := K) (a := as') (xs := xs) (fun i σ' H5 => ∃ L x, σ' = [some (.ref a), some (.ref L), x0, x, none, none, none, none, none, none] ∧ H L = none ∧ Same H H5 ∧
    H5 L = some (.lst ((p4 ++ ((ss.take i).map lSta).flatten).map V.str))) ⟨L, _, rfl, hL, s4, by rw [e4]; simp⟩
    (fun i σ' H5 _ ⟨_, _, _, _, s5, _⟩ => SqL.of (s5 _ _ has)) ?_ ?_⟩
  · rintro i x σ' H5 hi ⟨L, y0, rfl, hL, s5, e5⟩
    obtain ⟨y, hy, hat⟩ := hxs.getM hi
    have wy := w4.2 y (List.mem_of_getElem? hy)
    have l3 := fs i
    have l4 := (lSta_sm wy).few
    walk_at "go"
    refine ⟨y, _, rfl, hat.mono s5, wy, fun c1 H7 s7 e7 => ?_⟩
    refine ⟨_, _, _, _, rfl, rfl, s7 _ _ e5, e7, by walk_at "le", fun L8 H8 hL8 s8 e8 => ?_⟩
    refine ⟨_, _, rfl, (s5.trans s7).free hL8, (s5.trans s7).trans s8, ?_⟩
    rw [e8, take_s hy]
    simp
  rintro σ' H5 ⟨L, x1, rfl, hL, s5, e5⟩
  rw [ls, List.take_length] at e5
  clear s4 e4
  have l5 := fs ss.length
  rw [List.take_length] at l5
  walk_at "go"
  refine ⟨_, _, _, rfl, rfl, e5, by walk_at "lt", fun H6 k6 e6 => ?_⟩
  have s6 := sapp s5 hL k6
  clear s5 k6
  obtain ⟨p6, hp6, lp6, e6⟩ : ∃ p6 : List Str, p6 = p4 ++ (ss.map lSta).flatten ++ [("}" : Str)] ∧ p6.length ≤ 670 ∧ H6 L = some (.lst (p6.map V.str)) := ⟨_, rfl, by simp only [List.length_append, List.length_cons, List.length_nil]; omega, by rw [e6]; simp⟩
  -- actions
  walk_at "go"
  refine ⟨⟨_, SqL.of (s6 _ _ haa)⟩, for_list (K := K) (a := aa) (xs := xa) (fun i σ' H5 => ∃ L x y, σ' = [some (.ref a), some (.ref L), x0, x1, x, y, none, none, none, none] ∧ H L = none ∧ Same H H5 ∧
    H5 L = some (.lst ((p6 ++ ((as.take i).map lAct).flatten).map V.str))) ⟨L, _, _, rfl, hL, s6, by rw [e6]; simp⟩
    (fun i σ' H5 _ ⟨_, _, _, _, _, s5, _⟩ => SqL.of (s5 _ _ haa)) ?_ ?_⟩
  · rintro i x σ' H5 hi ⟨L, y0, z0, rfl, hL, s5, e5⟩
    obtain ⟨⟨an, aps, aos⟩, hy, hat⟩ := hxa.getM hi
    obtain ⟨v1, v2, v3⟩ := w5.2 _ (List.mem_of_getElem? hy)
    dsimp only at v1 v2 v3
    have hat : At H x (.tuple [.str "action", .str an, .list (aps.map ePar), .list (aos.map eOpn)]) := hat
    obtain ⟨a2, z1, z2, z3, z4, rfl, ha2, i1, i2, i3, i4⟩ := At.t4 hat
    obtain rfl := i1.str_inv
    obtain rfl := i2.str_inv
    obtain ⟨b, xb, rfl, hb, hxb⟩ := i3.lst_inv
    obtain ⟨c, xc', rfl, hc, hxc'⟩ := i4.lst_inv
    obtain ⟨l7, l8⟩ := pars_len v2
    have l3 := fa i
    have l4 := v1.len
    have l9 := v3.1
    walk_at "go"
    refine ⟨⟨_, rfl⟩, ?_⟩
    walk_at "go"
    refine ⟨⟨_, SqL.of (s5 _ _ hb)⟩, fun D hD => lc_map aps ePar (fun p => V.str (xPar p)) hD (s5 _ _ hb) (hxb.mono s5) (by have := v2.1; omega) (fun y x H1 C C' hy hat s1 c => ?_) fun H6 s6 e6 => ?_⟩
    · obtain ⟨wn, wi⟩ := v2.2 y hy
      obtain ⟨a, x1, x2, rfl, ha, h1, h2⟩ := At.t2 hat
      obtain rfl := h1.str_inv
      obtain rfl := h2.int_inv
      have l1 := wn.len
      have l2 := sI_len wi
      walk_at "un2"
      refine ⟨rfl, ?_⟩
      walk_at "go"
      exact c _ (Same.refl _)
    refine ⟨", ", D, aps.map xPar, rfl, rfl, .inl (SqL.of (by rw [e6, List.map_map]; rfl)), l8, ?_⟩
    rw [join_eq]
    walk_at "go"
    refine ⟨by walk_at "le", fun L7 H7 hL7 s7 e7 => ?_⟩
    refine ⟨_, _, _, _, rfl, rfl, s7 _ _ (s6 _ _ e5), e7, by walk_at "le", fun L8 H8 hL8 s8 e8 => ?_⟩
    have t8 := (s5.trans s6).trans (s7.trans s8)
    clear s5 s6 s7 s8
    walk_at "go"
    refine ⟨⟨_, SqL.of (t8 _ _ hc)⟩, fun D hD => lc_map aos eOpn (fun p => V.str (lOpn p)) hD (t8 _ _ hc) (hxc'.mono t8) (by omega) (fun y x H1 C C' hy hat s1 c => ?_) fun H9 s9 e9 => ?_⟩
    · have wy := v3.2 y hy
      have l1 := xOpn_len wy
      refine ⟨rfl, ?_⟩
      walk_at "go"
      refine ⟨y, _, rfl, hat, wy, fun H2 s2 => ?_⟩
      walk_at "go"
      exact c _ s2
    refine ⟨_, _, _, _, rfl, rfl, s9 _ _ e8, e9, by walk_at "le", fun L10 H10 hL10 s10 e10 => ?_⟩
    refine ⟨by walk_at "le", fun L11 H11 hL11 s11 e11 => ?_⟩
    refine ⟨_, _, _, _, rfl, rfl, s11 _ _ e10, e11, by walk_at "le", fun L12 H12 hL12 s12 e12 => ?_⟩
    have t12 := (t8.trans s9).trans (s10.trans s11)
    refine ⟨_, _, _, rfl, t12.free hL12, t12.trans s12, ?_⟩
    rw [e12, take_s hy]
    simp [lAct, Function.comp_def]
  rintro σ' H7 ⟨L, x2, x3, rfl, hL, s7, e7⟩
  rw [la, List.take_length] at e7
  clear s6 e6
  have l7 := fa as.length
  rw [List.take_length] at l7
  obtain ⟨p7, hp7, lp7, e7⟩ : ∃ p7 : List Str, p7 = p6 ++ (as.map lAct).flatten ∧ p7.length ≤ 960 ∧ H7 L = some (.lst (p7.map V.str)) := ⟨_, rfl, by simp only [List.length_append, List.length_cons, List.length_nil]; omega, by rw [e7]⟩
  -- tables
  walk_at "go"
  refine ⟨⟨_, SqL.of (s7 _ _ hat')⟩, for_list (K := K) (a := at') (xs := xt) (fun i σ' H5 => ∃ L x, σ' = [some (.ref a), some (.ref L), x0, x1, x2, x3, x, none, none, none] ∧ H L = none ∧ Same H H5 ∧
    H5 L = some (.lst ((p7 ++ ((ts.take i).map lTab).flatten).map V.str))) ⟨L, _, rfl, hL, s7, by rw [e7]; simp⟩
    (fun i σ' H5 _ ⟨_, _, _, _, s5, _⟩ => SqL.of (s5 _ _ hat')) ?_ ?_⟩
  · rintro i x σ' H5 hi ⟨L, y0, rfl, hL, s5, e5⟩
    obtain ⟨y, hy, hat⟩ := hxt.getM hi
    have wy := w6.2 y (List.mem_of_getElem? hy)
    have l3 := ft i
    have l4 := (lTab_sm wy).few
    walk_at "go"
    refine ⟨y, _, rfl, hat.mono s5, wy, fun c1 H7 s7 e7 => ?_⟩
    refine ⟨_, _, _, _, rfl, rfl, s7 _ _ e5, e7, by walk_at "le", fun L8 H8 hL8 s8 e8 => ?_⟩
    refine ⟨_, _, rfl, (s5.trans s7).free hL8, (s5.trans s7).trans s8, ?_⟩
    rw [e8, take_s hy]
    simp
  rintro σ' H8 ⟨L, x4, rfl, hL, s8, e8⟩
  rw [lt, List.take_length] at e8
  clear s7 e7
  have l8 := ft ts.length
  rw [List.take_length] at l8
  walk_at "go"
  refine ⟨by walk_at "le", fun L9 H9 hL9 s9 e9 => ?_⟩
  refine ⟨_, _, _, _, rfl, rfl, s9 _ _ e8, e9, by walk_at "le", fun L10 H10 hL10 s10 e10 => ?_⟩
  have t10 := (s8.trans s9).trans s10
  clear s8 s9 s10
  have l9 := lB_len ct "  "
  walk_at "go"
  refine ⟨ct, _, _, rfl, h8.mono t10, w7, w8, by simp only [lit_len]; simp, fun c1 H11 s11 e11 => ?_⟩
  refine ⟨_, _, _, _, rfl, rfl, s11 _ _ e10, e11, by walk_at "le", fun L12 H12 hL12 s12 e12 => ?_⟩
  refine ⟨by walk_at "le", fun L13 H13 hL13 s13 e13 => ?_⟩
  refine ⟨_, _, _, _, rfl, rfl, s13 _ _ e12, e13, by walk_at "le", fun L14 H14 hL14 s14 e14 => ?_⟩
  have t13 := (t10.trans s11).trans (s12.trans s13)
  have hL14' := t13.free hL14
  have t14 := t13.trans s14
  clear t10 s11 s12 s13 s14 t13
  obtain ⟨p12, hp12, lp12, e12⟩ : ∃ p12 : List Str, p12 = p7 ++ (ts.map lTab).flatten ++ [("control {" : Str)] ++ lB "  " ct ++ [("}" : Str)] ∧ p12.length ≤ 1600 ∧ H14 L14 = some (.lst (p12.map V.str)) := ⟨_, rfl, by simp only [List.length_append, List.length_cons, List.length_nil]; omega, by rw [e14]; simp⟩
  refine ⟨fun σ' H3 => σ' = [some (.ref a), some (.ref L14), x0, x1, x2, x3, x4, none, none, none] ∧ Same H H3 ∧ H3 L14 = some (.lst ((p12 ++ lEmit em).map V.str)), ?_, ?_⟩
  · walk_at "go"
    refine ⟨_, _, rfl, .inl (SqL.of (by walk_at "now")), ?_⟩
    refine ⟨_, _, rfl, rfl, ?_⟩
    refine ⟨_, rfl, ?_⟩
    rw [List.length_map]
    cases em with
    | nil => exact ⟨rfl, t14, by rw [e12]; simp [lEmit]⟩
    | cons m0 em =>
      refine ite2 (fun _ => ?_) (fun c => absurd (decide_eq_true (by simp only [List.length_cons]; omega)) c)
      obtain ⟨n1, n2⟩ := names_len w9
      walk_at "go"
      refine ⟨⟨_, rfl⟩, ?_⟩
      walk_at "go"
      refine ⟨", ", _, m0 :: em, rfl, rfl, .inl (SqL.of (by walk_at "now")), n2, ?_⟩
      rw [join_eq]
      walk_at "go"
      refine ⟨_, _, _, rfl, rfl, e12, by walk_at "lt", fun H15 k15 e15 => ?_⟩
      exact ⟨rfl, sapp t14 hL14' k15, by rw [e15]; simp [lEmit]⟩
  rintro σ' H15 ⟨rfl, s15, e15⟩
  walk_at "go"
  refine q _ _ s15 ?_
  rw [e15, hp12, hp7, hp6, hp4, hp2]
  simp [lPrg]
end
end WP
namespace WP
open PySem PySem.Spec PyProof.Rows L2 TL
local macro_rules | `(tactic| walk_at "len") => `(tactic| (show _ ≤ sizeLine; rw [sizeLine_eq]; (try simp only [al, lit_len]); (try simp) <;> omega))
local macro_rules | `(tactic| walk_at "lt") => `(tactic| (show _ < sizeLine; rw [sizeLine_eq]; (try simp only [List.length_map, List.length_append, List.length_cons, List.length_nil, List.length_take]); omega))
local macro_rules | `(tactic| walk_at "le") => `(tactic| (show _ ≤ sizeLine; rw [sizeLine_eq]; (try simp only [List.length_map, List.length_append, List.length_cons, List.length_nil, List.length_take]); omega))
local macro_rules | `(tactic| walk_at "now") => `(tactic| first | assumption | (refine (by assumption : Same _ _) _ _ ?_; walk_at "now"))
local macro_rules | `(tactic| walk_at "at") => `(tactic| first | exact at0 | exact at1 | exact at2 | exact at3 | exact at4 | exact at5 | exact at6 | exact at7 | exact at8)
local macro_rules | `(tactic| walk_at "v") => `(tactic| refine ⟨_, rfl, ?_⟩)
local macro_rules | `(tactic| walk_at "ix") => `(tactic| refine ⟨_, _, _, _, rfl, rfl, SqT.of (by walk_at "now"), (by walk_at "at"), ?_⟩)
local macro_rules | `(tactic| walk_at "ixl") => `(tactic| refine ⟨_, _, _, _, rfl, rfl, SqL.of (by walk_at "now"), (by walk_at "at"), ?_⟩)
local macro_rules | `(tactic| walk_at "str") => `(tactic| refine ⟨_, _, rfl, rfl, (by walk_at "len"), ?_⟩)
local macro_rules | `(tactic| walk_at "int") => `(tactic| refine ⟨_, _, rfl, rfl, ?_⟩)
local macro_rules | `(tactic| walk_at "eq") => `(tactic| refine ⟨rfl, _, rfl, ?_⟩)
local macro_rules | `(tactic| walk_at "app") => `(tactic| refine ⟨_, _, _, rfl, rfl, (by walk_at "now"), (by walk_at "lt"), ?_⟩)
local macro_rules | `(tactic| walk_at "ext") => `(tactic| refine ⟨_, _, _, _, rfl, rfl, (by walk_at "now"), (by walk_at "now"), (by walk_at "le"), ?_⟩)
local macro_rules | `(tactic| walk_at "cat") => `(tactic| refine ⟨_, _, _, _, rfl, rfl, (by walk_at "now"), (by walk_at "now"), (by walk_at "le"), ?_⟩)
local macro_rules | `(tactic| walk_at "num") => `(tactic| refine ⟨(by assumption : Nu _), ?_⟩)
local macro_rules | `(tactic| walk_at "ty") => `(tactic| refine ⟨Or.inl ⟨rfl, _, SqL.of (by walk_at "now")⟩, ?_⟩)
local macro_rules | `(tactic| walk_at "un2") => `(tactic| refine ⟨_, _, rfl, SqT.of (by walk_at "now"), rfl, _, _, rfl, _, _, rfl, rfl, ?_⟩)
local macro_rules | `(tactic| walk_at "un3") => `(tactic| refine ⟨_, _, rfl, SqT.of (by walk_at "now"), rfl, _, _, rfl, _, _, rfl, _, _, rfl, rfl, ?_⟩)
local macro_rules | `(tactic| walk_at "un4") => `(tactic| refine ⟨_, _, rfl, SqT.of (by walk_at "now"), rfl, _, _, rfl, _, _, rfl, _, _, rfl, _, _, rfl, rfl, ?_⟩)
local macro_rules | `(tactic| walk_at "un6") => `(tactic| refine ⟨_, _, rfl, SqT.of (by walk_at "now"), rfl, _, _, rfl, _, _, rfl, _, _, rfl, _, _, rfl, _, _, rfl, _, _, rfl, rfl, ?_⟩)
local macro_rules | `(tactic| walk_at "un9") => `(tactic| refine ⟨_, _, rfl, SqT.of (by walk_at "now"), rfl, _, _, rfl, _, _, rfl, _, _, rfl, _, _, rfl, _, _, rfl, _, _, rfl, _, _, rfl, _, _, rfl, _, _, rfl, rfl, ?_⟩)
local macro_rules | `(tactic| walk_at "go") => `(tactic| repeat (first | walk_at "v" | walk_at "eq" | walk_at "ix" | walk_at "str" | walk_at "ty" | walk_at "num"))

def spRes : Sp := fun vs H Q _ => ∃ z, vs = [.str z] ∧ Q (.bl (decide (z ∈ RES))) H
def spLet : Sp := fun vs H Q _ => ∃ c, vs = [.str ⟨#[c]⟩] ∧ Q (.bl (isLet c)) H
def spDig : Sp := fun vs H Q _ => ∃ c, vs = [.str ⟨#[c]⟩] ∧ Q (.bl (isDig c)) H
def spNo : Sp := fun _ _ _ _ => False
def spRunEnd : Sp := fun vs H Q _ => ∃ (z : Str) (i : Nat) (w s : List Nat), vs = [.str z, .int (i : Int)] ∧ z.length ≤ 15000000 ∧ (tl z).drop i = w ++ s ∧ (∀ c ∈ w, isRun c = true) ∧ NR s ∧ Q (.int ((i + w.length : Nat) : Int)) H
def spNumVal : Sp := fun vs H Q _ => ∃ (z : Str) (n : Nat), vs = [.str z] ∧ tl z = numL n ∧ n ≤ 4294967295 ∧ Q (.int (n : Int)) H
def eTk (t : Tok) (line : Int) : PyData := .tuple [.str t.1, t.2, .int line]
def spRunTok : Sp := fun vs H Q _ => ∃ (z : Str) (line : Int) (t : Tok), vs = [.str z, .int line] ∧ RunTok (tl z) t ∧ ∀ v H', Same H H' → At H' v (eTk t line) → (∀ a, v = .ref a → H a = none) → (∃ a, v = .ref a) → Q v H'
def spSignAt : Sp := fun vs H Q _ => ∃ (z : Str) (i : Nat) (line : Int) (g : Str) (s : List Nat), vs = [.str z, .int (i : Int), .int line] ∧ z.length ≤ 15000000 ∧ i ≤ z.length ∧ (tl z).drop i = tl g ++ s ∧ SignOk g s ∧ Q (.str g) H
theorem isLet_iff (c : Nat) : isLet c = true ↔ (97 ≤ c ∧ c ≤ 122) ∨ (65 ≤ c ∧ c ≤ 90) := by
  unfold isLet; simp
theorem isDig_iff (c : Nat) : isDig c = true ↔ 48 ≤ c ∧ c ≤ 57 := by
  unfold isDig; simp
section
variable {P : Program} {w : World} {K : PySem.W.Frag} {mg : Str → Option Value} {base : Heap} {k : Nat}
abbrev s_is_reserved : Stmt := top 9
abbrev n_is_reserved : List Str := ["name"]
theorem sc_is_reserved : FnScope n_is_reserved ["name"] (defScope s_is_reserved) := ⟨rfl, rfl, rfl, by decide +kernel, rfl, by decide +kernel, by decide +kernel⟩
/- slots: 0 name -/
theorem ok_is_reserved (W : Wt K mg "RESERVED" RES) (h : Has K mg "is_reserved" s_is_reserved ["name"]) : Ok P w K mg base (k + 1) "is_reserved" ["name"] spRes := by
  obtain ⟨a, m_RESERVED, hR⟩ := W.ex
  refine h.ok sc_is_reserved (fun vs H Q E h => ?_) (fun f0 cdv A outer s H vs Q E hr h => ?_)
  · obtain ⟨z, rfl, _⟩ := h; rfl
  obtain ⟨z, rfl, q⟩ := h
  refine ⟨_, (pss_one (ps_ret (pe_cmpR op_in_seq (pv 0) (pe_glob (v := .ref _) rfl m_RESERVED rfl) (by with_unfolding_all rfl)))), ?_⟩
  walk_at "go"
  refine ⟨_, _, rfl, .inr (hR _), rfl, List.all_eq_true.mpr (fun v hv => ?_), ?_⟩
  · obtain ⟨y, _, rfl⟩ := List.mem_map.mp hv; rfl
  · show Q (.bl (inV (.str z) (RES.map V.str))) H
    rw [inV_res]; exact q
abbrev s_is_letter : Stmt := top 10
abbrev n_is_letter : List Str := ["char"]
theorem sc_is_letter : FnScope n_is_letter ["char"] (defScope s_is_letter) := ⟨rfl, rfl, rfl, by decide +kernel, rfl, by decide +kernel, by decide +kernel⟩
/- slots: 0 char -/
theorem ok_is_letter (h : Has K mg "is_letter" s_is_letter ["char"]) : Ok P w K mg base (k + 1) "is_letter" ["char"] spLet := by
  refine h.ok sc_is_letter (fun vs H Q E h => ?_) (fun f0 cdv A outer s H vs Q E hr h => ?_)
  · obtain ⟨z, rfl, _⟩ := h; rfl
  obtain ⟨c, rfl, q⟩ := h
  refine ⟨_, (pss_one (ps_ret (pe_or (pe_chain op_le_str op_le_str pe_str (pv 0) pe_str) (pe_one (pe_chain op_le_str op_le_str pe_str (pv 0) pe_str))))), ?_⟩
  have ea : (Str.ofString "a") = ⟨#[97]⟩ := by decide +kernel
  have ez : (Str.ofString "z") = ⟨#[122]⟩ := by decide +kernel
  have eA : (Str.ofString "A") = ⟨#[65]⟩ := by decide +kernel
  have eZ : (Str.ofString "Z") = ⟨#[90]⟩ := by decide +kernel
  refine ⟨_, rfl, _, _, rfl, rfl, _, rfl, ?_⟩
  rw [ea, chr_le]
  refine ite2 (fun h1 => ⟨_, _, rfl, rfl, _, rfl, ?_⟩) (fun h1 => ⟨_, rfl, ?_⟩)
  · rw [ez, chr_le]
    refine ite2 (fun h2 => ?_) (fun h2 => ?_)
    · have : isLet c = true := by simp at *; rw [isLet_iff]; omega
      rw [← this]; exact q
    · refine ⟨_, rfl, _, _, rfl, rfl, _, rfl, ?_⟩
      rw [eA, chr_le]
      refine ite2 (fun h3 => ⟨_, _, rfl, rfl, ?_⟩) (fun h3 => ?_)
      · rw [eZ, chr_le]
        have : isLet c = decide (c ≤ 90) := by simp at *; rw [Bool.eq_iff_iff, isLet_iff]; simp; omega
        rw [← this]; exact q
      · have : isLet c = false := by simp at *; rw [Bool.eq_iff_iff, isLet_iff]; simp; omega
        rw [← this]; exact q
  · refine iteF ?_
    refine ⟨_, rfl, _, _, rfl, rfl, _, rfl, ?_⟩
    rw [eA, chr_le]
    refine ite2 (fun h3 => ⟨_, _, rfl, rfl, ?_⟩) (fun h3 => ?_)
    · rw [eZ, chr_le]
      have : isLet c = decide (c ≤ 90) := by simp at *; rw [Bool.eq_iff_iff, isLet_iff]; simp; omega
      rw [← this]; exact q
    · have : isLet c = false := by simp at *; rw [Bool.eq_iff_iff, isLet_iff]; simp; omega
      rw [← this]; exact q
abbrev s_is_digit : Stmt := top 11
abbrev n_is_digit : List Str := ["char"]
theorem sc_is_digit : FnScope n_is_digit ["char"] (defScope s_is_digit) := ⟨rfl, rfl, rfl, by decide +kernel, rfl, by decide +kernel, by decide +kernel⟩
/- slots: 0 char -/
theorem ok_is_digit (h : Has K mg "is_digit" s_is_digit ["char"]) : Ok P w K mg base (k + 1) "is_digit" ["char"] spDig := by
  refine h.ok sc_is_digit (fun vs H Q E h => ?_) (fun f0 cdv A outer s H vs Q E hr h => ?_)
  · obtain ⟨z, rfl, _⟩ := h; rfl
  obtain ⟨c, rfl, q⟩ := h
  refine ⟨_, (pss_one (ps_ret (pe_chain op_le_str op_le_str pe_str (pv 0) pe_str))), ?_⟩
  have ea : (Str.ofString "0") = ⟨#[48]⟩ := by decide +kernel
  have ez : (Str.ofString "9") = ⟨#[57]⟩ := by decide +kernel
  refine ⟨_, rfl, _, _, rfl, rfl, _, rfl, ?_⟩
  rw [ea, chr_le]
  refine ite2 (fun h1 => ⟨_, _, rfl, rfl, ?_⟩) (fun h1 => ?_)
  · rw [ez, chr_le]
    have : isDig c = decide (c ≤ 57) := by simp at *; rw [Bool.eq_iff_iff, isDig_iff]; simp; omega
    rw [← this]; exact q
  · have : isDig c = false := by simp at *; rw [Bool.eq_iff_iff, isDig_iff]; simp; omega
    rw [← this]; exact q
abbrev s_run_end : Stmt := top 12
abbrev n_run_end : List Str := ["text", "start", "at"]
theorem sc_run_end : FnScope n_run_end ["text", "start"] (defScope s_run_end) := ⟨rfl, rfl, rfl, by decide +kernel, rfl, by decide +kernel, by decide +kernel⟩
/- slots: 0 text, 1 start, 2 at -/
theorem ok_run_end (B : Bt mg) (h : Has K mg "run_end" s_run_end ["text", "start"]) (c1 : Ok P w K mg base k "is_letter" ["char"] spLet) (c2 : Ok P w K mg base k "is_digit" ["char"] spDig) :
    Ok P w K mg base (k + 1) "run_end" ["text", "start"] spRunEnd := by
  obtain ⟨_, _, G_is_letter, m_is_letter, k_is_letter, b_is_letter⟩ := c1.ex
  obtain ⟨_, _, G_is_digit, m_is_digit, k_is_digit, b_is_digit⟩ := c2.ex
  refine h.ok sc_run_end (fun vs H Q E h => ?_) (fun f0 cdv A outer s H vs Q E hr h => ?_)
  · obtain ⟨_, _, _, _, rfl, _⟩ := h; rfl
  obtain ⟨z, i, u, r, rfl, hz, hd, hu, hr0, q⟩ := h
  have hz' : z.length ≤ sizeLine := sz (by omega)
  refine ⟨_, (pss_cons (ps_set (i := 2) sc_run_end.nd rfl (Or.inl rfl) (pv 1))
    (pss_cons (ps_while PassesOwn.never (PW.pt (pw_and (pt_cmpR op_lt (pv 2) (pe_callB call_len_str (by rfl) B.len PySem.boot_len (pa_cons (pv 0) pa_nil)) (nomark _)) (pw_and1 (PW.pt (pw_or (pt_val (pe_call G_is_letter hr (by rfl) m_is_letter k_is_letter b_is_letter .nil pass0 (pa_cons (pe_ix ix_str (pv 0) (pv 2) (fun _ _ => rfl)) pa_nil))) (pw_or (pt_val (pe_call G_is_digit hr (by rfl) m_is_digit k_is_digit b_is_digit .nil pass0 (pa_cons (pe_ix ix_str (pv 0) (pv 2) (fun _ _ => rfl)) pa_nil))) (pw_or1 (pt_cmpR op_eq (pe_ix ix_str (pv 0) (pv 2) (fun _ _ => rfl)) pe_str (nomark _))))))))) (pss_one (ps_set (i := 2) sc_run_end.nd rfl (Or.inl rfl) (pe_op op_add (pv 2) pe_int))))
    (pss_one (ps_ret (pv 2))))), ?_⟩
  walk_at "go"
  refine ⟨fun m σ' H' => H' = H ∧ ∃ j : Nat, σ' = [some (.str z), some (.int (i : Int)), some (.int ((i + j : Nat) : Int))] ∧ j ≤ u.length ∧ m = u.length - j, ⟨_, rfl, 0, rfl, Nat.zero_le _, rfl⟩, ?_⟩
  rintro m σ' H' ⟨rfl, j, rfl, hj, rfl⟩
  have e0 : ∀ n, (tl z)[i + n]? = (u ++ r)[n]? := fun n => by rw [← hd, List.getElem?_drop]
  refine ⟨_, rfl, _, rfl, _, rfl, hz', _, _, rfl, rfl, _, rfl, ?_⟩
  by_cases hlt : j < u.length
  · have hc := e0 j
    rw [List.getElem?_append_left hlt, List.getElem?_eq_getElem hlt] at hc
    have hlen := (List.getElem?_eq_some_iff.mp hc).1
    rw [← len_tl] at hlen
    have hrun := hu _ (List.getElem_mem hlt)
    rw [decide_eq_true (by omega)]
    refine iteT ?_
    refine ⟨_, rfl, _, rfl, z, _, _, rfl, rfl, hz', atI_nat hc, ⟨_, rfl, _, rfl, ?_⟩⟩
    have fin : ∃ N, (∀ (σ' : L2.St) (H'_1 : Hp), N σ' H'_1 → ∃ m', m' < u.length - j ∧ H'_1 = H' ∧ ∃ j : Nat, σ' = [some (.str z), some (.int (i : Int)), some (.int ((i + j : Nat) : Int))] ∧ j ≤ u.length ∧ m' = u.length - j) ∧
        tAsg (tOp (rI0 fun i j => V.int (i + j)) (tVar 2) (tC (V.int 1))) (gName 2) { nx := N, rt := Q, bk := tRet (tVar 2) { nx := fun _ H' => Q .non H', rt := Q }, ct := N } [some (.str z), some (.int (i : Int)), some (.int ((i + j : Nat) : Int))] H' := by
      refine ⟨_, fun _ _ h => h, ?_⟩
      refine ⟨_, rfl, _, _, rfl, rfl, ?_⟩
      exact ⟨u.length - (j + 1), by omega, rfl, j + 1, by simp [Int.add_assoc], by omega, rfl⟩
    refine ite2 (fun _ => fin) (fun h1 => ?_)
    refine ⟨_, rfl, _, rfl, z, _, _, rfl, rfl, hz', atI_nat hc, ⟨_, rfl, _, rfl, ?_⟩⟩
    refine ite2 (fun _ => fin) (fun h2 => ?_)
    refine ⟨_, rfl, _, rfl, z, _, _, rfl, rfl, hz', atI_nat hc, ⟨rfl, _, rfl, ?_⟩⟩
    have e95 : u[j] = 95 := by
      unfold isRun at hrun
      simp at h1 h2 hrun
      simp [h1, h2] at hrun
      exact hrun
    rw [e95]
    exact ifE (by decide +kernel) fin
  · have ej : j = u.length := by omega
    subst ej
    have stop : tRet (tVar 2) { nx := fun _ H' => Q .non H', rt := Q } [some (.str z), some (.int (i : Int)), some (.int ((i + u.length : Nat) : Int))] H' := ⟨_, rfl, q⟩
    by_cases hlt : i + u.length < z.length
    · rw [decide_eq_true (by omega)]
      refine iteT ?_
      have hc : ∃ c, (tl z)[i + u.length]? = some c := ⟨_, List.getElem?_eq_getElem (by rw [← len_tl]; exact hlt)⟩
      obtain ⟨c, hc⟩ := hc
      have hc2 := e0 u.length
      rw [hc, List.getElem?_append_right (Nat.le_refl _), Nat.sub_self] at hc2
      have hnr : isRun c = false := by
        cases r with
        | nil => cases hc2
        | cons c' r' => simp at hc2; subst hc2; exact hr0 _ _ rfl
      have h1 : isLet c = false := by unfold isRun at hnr; simp at hnr; exact hnr.1.1
      have h2 : isDig c = false := by unfold isRun at hnr; simp at hnr; exact hnr.1.2
      have h3 : c ≠ 95 := by unfold isRun at hnr; simp at hnr; exact hnr.2
      refine ⟨_, rfl, _, rfl, z, _, _, rfl, rfl, hz', atI_nat hc, ⟨_, rfl, _, rfl, ?_⟩⟩
      rw [h1]
      refine iteF ?_
      refine ⟨_, rfl, _, rfl, z, _, _, rfl, rfl, hz', atI_nat hc, ⟨_, rfl, _, rfl, ?_⟩⟩
      rw [h2]
      refine iteF ?_
      refine ⟨_, rfl, _, rfl, z, _, _, rfl, rfl, hz', atI_nat hc, ⟨rfl, _, rfl, ?_⟩⟩
      refine ifN (fun e => h3 ?_) stop
      have e2 : (⟨#[c]⟩ : Str) = Str.ofString "_" := V.str.inj e
      have e3 := congrArg tl e2
      have e4 : tl (Str.ofString "_") = [95] := by decide +kernel
      rw [e4] at e3
      exact List.head_eq_of_cons_eq e3
    · rw [decide_eq_false (by omega)]
      exact iteF (iteF stop)
end
end WP
namespace WP
open PySem PySem.Spec PyProof.Rows L2 TL
local macro_rules | `(tactic| walk_at "len") => `(tactic| (show _ ≤ sizeLine; rw [sizeLine_eq]; (try simp only [al, lit_len]); (try simp) <;> omega))
local macro_rules | `(tactic| walk_at "lt") => `(tactic| (show _ < sizeLine; rw [sizeLine_eq]; (try simp only [List.length_map, List.length_append, List.length_cons, List.length_nil, List.length_take]); omega))
local macro_rules | `(tactic| walk_at "le") => `(tactic| (show _ ≤ sizeLine; rw [sizeLine_eq]; (try simp only [List.length_map, List.length_append, List.length_cons, List.length_nil, List.length_take]); omega))
local macro_rules | `(tactic| walk_at "now") => `(tactic| first | assumption | (refine (by assumption : Same _ _) _ _ ?_; walk_at "now"))
local macro_rules | `(tactic| walk_at "at") => `(tactic| first | exact at0 | exact at1 | exact at2 | exact at3 | exact at4 | exact at5 | exact at6 | exact at7 | exact at8)
local macro_rules | `(tactic| walk_at "v") => `(tactic| refine ⟨_, rfl, ?_⟩)
local macro_rules | `(tactic| walk_at "ix") => `(tactic| refine ⟨_, _, _, _, rfl, rfl, SqT.of (by walk_at "now"), (by walk_at "at"), ?_⟩)
local macro_rules | `(tactic| walk_at "ixl") => `(tactic| refine ⟨_, _, _, _, rfl, rfl, SqL.of (by walk_at "now"), (by walk_at "at"), ?_⟩)
local macro_rules | `(tactic| walk_at "str") => `(tactic| refine ⟨_, _, rfl, rfl, (by walk_at "len"), ?_⟩)
local macro_rules | `(tactic| walk_at "int") => `(tactic| refine ⟨_, _, rfl, rfl, ?_⟩)
local macro_rules | `(tactic| walk_at "eq") => `(tactic| refine ⟨rfl, _, rfl, ?_⟩)
local macro_rules | `(tactic| walk_at "app") => `(tactic| refine ⟨_, _, _, rfl, rfl, (by walk_at "now"), (by walk_at "lt"), ?_⟩)
local macro_rules | `(tactic| walk_at "ext") => `(tactic| refine ⟨_, _, _, _, rfl, rfl, (by walk_at "now"), (by walk_at "now"), (by walk_at "le"), ?_⟩)
local macro_rules | `(tactic| walk_at "cat") => `(tactic| refine ⟨_, _, _, _, rfl, rfl, (by walk_at "now"), (by walk_at "now"), (by walk_at "le"), ?_⟩)
local macro_rules | `(tactic| walk_at "num") => `(tactic| refine ⟨(by assumption : Nu _), ?_⟩)
local macro_rules | `(tactic| walk_at "ty") => `(tactic| refine ⟨Or.inl ⟨rfl, _, SqL.of (by walk_at "now")⟩, ?_⟩)
local macro_rules | `(tactic| walk_at "un2") => `(tactic| refine ⟨_, _, rfl, SqT.of (by walk_at "now"), rfl, _, _, rfl, _, _, rfl, rfl, ?_⟩)
local macro_rules | `(tactic| walk_at "un3") => `(tactic| refine ⟨_, _, rfl, SqT.of (by walk_at "now"), rfl, _, _, rfl, _, _, rfl, _, _, rfl, rfl, ?_⟩)
local macro_rules | `(tactic| walk_at "un4") => `(tactic| refine ⟨_, _, rfl, SqT.of (by walk_at "now"), rfl, _, _, rfl, _, _, rfl, _, _, rfl, _, _, rfl, rfl, ?_⟩)
local macro_rules | `(tactic| walk_at "un6") => `(tactic| refine ⟨_, _, rfl, SqT.of (by walk_at "now"), rfl, _, _, rfl, _, _, rfl, _, _, rfl, _, _, rfl, _, _, rfl, _, _, rfl, rfl, ?_⟩)
local macro_rules | `(tactic| walk_at "un9") => `(tactic| refine ⟨_, _, rfl, SqT.of (by walk_at "now"), rfl, _, _, rfl, _, _, rfl, _, _, rfl, _, _, rfl, _, _, rfl, _, _, rfl, _, _, rfl, _, _, rfl, _, _, rfl, rfl, ?_⟩)
local macro_rules | `(tactic| walk_at "go") => `(tactic| repeat (first | walk_at "v" | walk_at "eq" | walk_at "ix" | walk_at "str" | walk_at "ty" | walk_at "num"))

theorem numL_hd (n : Nat) (h : 10 ≤ n) : ∃ c r, numL n = c :: r ∧ c ≠ 48 := by
  induction n using Nat.strongRecOn with
  | _ n ih =>
    rw [numL_step h]
    by_cases h2 : n / 10 < 10
    · rw [numL_lt h2]
      exact ⟨_, _, rfl, by omega⟩
    · obtain ⟨c, r, e, hc⟩ := ih (n / 10) (by omega) (by omega)
      rw [e]
      exact ⟨c, _, rfl, hc⟩
theorem dsc (a b : Str) (h : tl a ≠ tl b) : V.str a ≠ V.str b := fun e => h (congrArg tl (V.str.inj e))
theorem tl_len (z : Str) : (tl z).length = z.length := (len_tl z).symm
section
variable {P : Program} {w : World} {K : PySem.W.Frag} {mg : Str → Option Value} {base : Heap} {k : Nat}
abbrev s_number_value : Stmt := top 14
abbrev n_number_value : List Str := ["run", "value", "char"]
theorem sc_number_value : FnScope n_number_value ["run"] (defScope s_number_value) := ⟨rfl, rfl, rfl, by decide +kernel, rfl, by decide +kernel, by decide +kernel⟩
/- slots: 0 run, 1 value, 2 char -/
theorem ok_number_value (B : Bt mg) (hG : ∃ t, mg "GREATEST" = some (.int 4294967295 t)) (h : Has K mg "number_value" s_number_value ["run"]) (c1 : Ok P w K mg base k "hex_value" ["digits"] spNo) (c2 : Ok P w K mg base k "is_digit" ["char"] spDig) :
    Ok P w K mg base (k + 1) "number_value" ["run"] spNumVal := by
  obtain ⟨_, _, G_hex_value, m_hex_value, k_hex_value, b_hex_value⟩ := c1.ex
  obtain ⟨_, _, G_is_digit, m_is_digit, k_is_digit, b_is_digit⟩ := c2.ex
  obtain ⟨_, m_GREATEST⟩ := hG
  refine h.ok sc_number_value (fun vs H Q E h => ?_) (fun f0 cdv A outer s H vs Q E hr h => ?_)
  · obtain ⟨_, _, rfl, _⟩ := h; rfl
  obtain ⟨z, n, rfl, hz, hn, q⟩ := h
  have hl : z.length ≤ 10 := by rw [len_tl, hz]; exact numL_len (by decide) (by show n < 10000000000; omega)
  have hz' : z.length ≤ sizeLine := sz (by omega)
  refine ⟨_, (pss_cons (ps_if (pt_cmpR op_eq (pe_slice sl_str (pv 0) po_none (po_some pe_int)) pe_str (nomark _)) (pss_one (ps_ret (pe_call G_hex_value hr (by rfl) m_hex_value k_hex_value b_hex_value .nil pass0 (pa_cons (pe_slice sl_str (pv 0) (po_some pe_int) po_none) pa_nil)))) pss_nil)
    (Evl.pss_cut (ps_if (PW.pt (pw_or (pt_cmpR op_gt (pe_callB call_len_str (by rfl) B.len PySem.boot_len (pa_cons (pv 0) pa_nil)) pe_int (nomark _)) (pw_or1 (PW.pt (pw_and (pt_cmpR op_gt (pe_callB call_len_str (by rfl) B.len PySem.boot_len (pa_cons (pv 0) pa_nil)) pe_int (nomark _)) (pw_and1 (pt_cmpR op_eq (pe_ix ix_str (pv 0) pe_int (fun _ _ => rfl)) pe_str (nomark _)))))))) (pss_one (ps_ret pe_non)) pss_nil)
    (pss_cons (ps_set (i := 1) sc_number_value.nd rfl (Or.inl rfl) pe_int)
    (pss_cons (ps_for PassesOwn.never rfl (pi_str (pv 0)) (pg_name (i := 2) sc_number_value.nd rfl (Or.inl rfl)) (pss_cons (ps_if (pt_not (pt_val (pe_call G_is_digit hr (by rfl) m_is_digit k_is_digit b_is_digit .nil pass0 (pa_cons (pv 2) pa_nil)))) (pss_one (ps_ret pe_non)) pss_nil)
    (pss_one (ps_set (i := 1) sc_number_value.nd rfl (Or.inl rfl) (pe_op op_sub (pe_op op_add (pe_op op_mul (pv 1) pe_int) (pe_callB call_ord (by rfl) B.ord (by decide +kernel) (pa_cons (pv 2) pa_nil))) pe_int)))))
    (pss_one (ps_ret (pe_ifExp (pt_cmpR op_le (pv 1) (pe_glob (v := .int _) rfl m_GREATEST ⟨_, rfl⟩) (nomark _)) (pv 1) pe_non))))))), ?_⟩
  refine ⟨_, rfl, _, rfl, z, rfl, hz', rfl, _, rfl, ?_⟩
  refine ifN (dsc _ _ ?_) ?_
  · show tl (cutS z none (some ((2 : Nat) : Int))) ≠ _
    rw [cutS_pre, hz]
    have e : tl (Str.ofString "0x") = [48, 120] := by decide +kernel
    rw [e]
    intro e2
    have : 120 ∈ numL n := List.mem_of_mem_take (by rw [e2]; simp)
    exact absurd this (numL_free (.inr (by decide)))
  refine ⟨fun σ' H' => σ' = [some (.str z), none, none] ∧ H' = H, ?_, ?_⟩
  · refine ⟨_, rfl, z, rfl, hz', _, _, rfl, rfl, _, rfl, ?_⟩
    rw [decide_eq_false (by omega)]
    refine iteF ?_
    refine ⟨_, rfl, z, rfl, hz', _, _, rfl, rfl, _, rfl, ?_⟩
    refine ite2 (fun h1 => ?_) (fun _ => iteF ⟨rfl, rfl⟩)
    have h10 : 10 ≤ n := by
      by_cases h10 : 10 ≤ n
      · exact h10
      · have : z.length = 1 := by rw [len_tl, hz, numL_lt (by omega)]; rfl
        simp [this] at h1
    obtain ⟨c, r, e, hc⟩ := numL_hd n h10
    have hc0 : atI z.cps.toList 0 = some c := by
      have : tl z = c :: r := by rw [hz, e]
      show atI (tl z) 0 = _
      rw [this]; exact at0
    refine ⟨_, rfl, z, _, _, rfl, rfl, hz', hc0, rfl, _, rfl, ?_⟩
    refine ifN (dsc _ _ ?_) ⟨rfl, rfl⟩
    have e3 : tl (Str.ofString "0") = [48] := by decide +kernel
    rw [e3]
    intro e4
    exact hc (List.head_eq_of_cons_eq e4)
  rintro σ' H' ⟨rfl, rfl⟩
  refine ⟨_, rfl, z, rfl, ?_⟩
  refine for_strS (fun i σ' H2 => H2 = H' ∧ ∃ x, σ' = [some (.str z), some (.int (((tl z).take i).foldl (fun (t : Int) (c : Nat) => t * 10 + ((c : Int) - 48)) 0)), x]) ⟨rfl, _, rfl⟩ ?_ ?_
  · rintro i c σ' H' hc ⟨rfl, x, rfl⟩
    have hdc : isDig c = true := numL_dig (n := n) (by rw [← hz]; exact List.mem_of_getElem? hc)
    refine ⟨_, rfl, _, rfl, _, rfl, ?_⟩
    rw [hdc]
    refine iteF ?_
    refine ⟨_, rfl, _, _, rfl, rfl, .inr ⟨by decide, by decide⟩, _, rfl, _, rfl, rfl, _, _, rfl, rfl, _, _, rfl, rfl, ?_⟩
    refine ⟨rfl, some (.str ⟨#[c]⟩), ?_⟩
    rw [take_s hc, List.foldl_append]
    show [some (V.str z), some (V.int (_ * 10 + ((c : Nat) : Int) - 48)), _] = _
    rw [Int.add_sub_assoc]; rfl
  · rintro σ' H' ⟨rfl, x, rfl⟩
    rw [List.take_length, hz, fold_num]
    refine ⟨_, rfl, _, _, rfl, rfl, _, rfl, ?_⟩
    rw [decide_eq_true (by omega)]
    exact iteT ⟨_, rfl, q⟩
end
end WP
namespace WP
open PySem PySem.Spec PyProof.Rows L2 TL
local macro_rules | `(tactic| walk_at "len") => `(tactic| (show _ ≤ sizeLine; rw [sizeLine_eq]; (try simp only [al, lit_len]); (try simp) <;> omega))
local macro_rules | `(tactic| walk_at "lt") => `(tactic| (show _ < sizeLine; rw [sizeLine_eq]; (try simp only [List.length_map, List.length_append, List.length_cons, List.length_nil, List.length_take]); omega))
local macro_rules | `(tactic| walk_at "le") => `(tactic| (show _ ≤ sizeLine; rw [sizeLine_eq]; (try simp only [List.length_map, List.length_append, List.length_cons, List.length_nil, List.length_take]); omega))
local macro_rules | `(tactic| walk_at "now") => `(tactic| first | assumption | (refine (by assumption : Same _ _) _ _ ?_; walk_at "now"))
local macro_rules | `(tactic| walk_at "at") => `(tactic| first | exact at0 | exact at1 | exact at2 | exact at3 | exact at4 | exact at5 | exact at6 | exact at7 | exact at8)
local macro_rules | `(tactic| walk_at "v") => `(tactic| refine ⟨_, rfl, ?_⟩)
local macro_rules | `(tactic| walk_at "ix") => `(tactic| refine ⟨_, _, _, _, rfl, rfl, SqT.of (by walk_at "now"), (by walk_at "at"), ?_⟩)
local macro_rules | `(tactic| walk_at "ixl") => `(tactic| refine ⟨_, _, _, _, rfl, rfl, SqL.of (by walk_at "now"), (by walk_at "at"), ?_⟩)
local macro_rules | `(tactic| walk_at "str") => `(tactic| refine ⟨_, _, rfl, rfl, (by walk_at "len"), ?_⟩)
local macro_rules | `(tactic| walk_at "int") => `(tactic| refine ⟨_, _, rfl, rfl, ?_⟩)
local macro_rules | `(tactic| walk_at "eq") => `(tactic| refine ⟨rfl, _, rfl, ?_⟩)
local macro_rules | `(tactic| walk_at "app") => `(tactic| refine ⟨_, _, _, rfl, rfl, (by walk_at "now"), (by walk_at "lt"), ?_⟩)
local macro_rules | `(tactic| walk_at "ext") => `(tactic| refine ⟨_, _, _, _, rfl, rfl, (by walk_at "now"), (by walk_at "now"), (by walk_at "le"), ?_⟩)
local macro_rules | `(tactic| walk_at "cat") => `(tactic| refine ⟨_, _, _, _, rfl, rfl, (by walk_at "now"), (by walk_at "now"), (by walk_at "le"), ?_⟩)
local macro_rules | `(tactic| walk_at "num") => `(tactic| refine ⟨(by assumption : Nu _), ?_⟩)
local macro_rules | `(tactic| walk_at "ty") => `(tactic| refine ⟨Or.inl ⟨rfl, _, SqL.of (by walk_at "now")⟩, ?_⟩)
local macro_rules | `(tactic| walk_at "un2") => `(tactic| refine ⟨_, _, rfl, SqT.of (by walk_at "now"), rfl, _, _, rfl, _, _, rfl, rfl, ?_⟩)
local macro_rules | `(tactic| walk_at "un3") => `(tactic| refine ⟨_, _, rfl, SqT.of (by walk_at "now"), rfl, _, _, rfl, _, _, rfl, _, _, rfl, rfl, ?_⟩)
local macro_rules | `(tactic| walk_at "un4") => `(tactic| refine ⟨_, _, rfl, SqT.of (by walk_at "now"), rfl, _, _, rfl, _, _, rfl, _, _, rfl, _, _, rfl, rfl, ?_⟩)
local macro_rules | `(tactic| walk_at "un6") => `(tactic| refine ⟨_, _, rfl, SqT.of (by walk_at "now"), rfl, _, _, rfl, _, _, rfl, _, _, rfl, _, _, rfl, _, _, rfl, _, _, rfl, rfl, ?_⟩)
local macro_rules | `(tactic| walk_at "un9") => `(tactic| refine ⟨_, _, rfl, SqT.of (by walk_at "now"), rfl, _, _, rfl, _, _, rfl, _, _, rfl, _, _, rfl, _, _, rfl, _, _, rfl, _, _, rfl, _, _, rfl, _, _, rfl, rfl, ?_⟩)
local macro_rules | `(tactic| walk_at "go") => `(tactic| repeat (first | walk_at "v" | walk_at "eq" | walk_at "ix" | walk_at "str" | walk_at "ty" | walk_at "num"))

abbrev TL' := Tok × Int
def eT (x : TL') : PyData := eTk x.1 x.2
def Atom (d : PyData) : Prop := (∃ s, d = .str s) ∨ ∃ i, d = .int i
theorem At.tk {H : Hp} {v : V} {t : Tok} {line : Int} {L : Addr} {xs : List V} (h : At H v (eTk t line)) (ha : Atom t.2) (hL : H L = some (.lst xs)) : At (Out [L] H) v (eTk t line) := by
  obtain ⟨a, x1, x2, x3, rfl, h0, h1, h2, h3⟩ := At.t3 h
  obtain rfl := h1.str_inv
  obtain rfl := h3.int_inv
  have hn : a ∉ [L] := by
    intro z
    have : a = L := by simpa using z
    rw [this, hL] at h0; cases h0
  refine .tup (by rw [out_of hn]; exact h0) (.cons (.str _) (.cons ?_ (.cons (.int _) .nil)))
  rcases ha with ⟨s, e⟩ | ⟨i, e⟩
  · rw [e] at h2 ⊢; rw [h2.str_inv]; exact .str _
  · rw [e] at h2 ⊢; rw [h2.int_inv]; exact .int _
theorem RunTok.atom {w : List Nat} {t : Tok} (h : RunTok w t) : Atom t.2 := by
  cases h with
  | word s _ => exact .inl ⟨_, rfl⟩
  | name s _ => exact .inl ⟨_, rfl⟩
  | num n _ => exact .inr ⟨_, rfl⟩
section
variable {P : Program} {w : World} {K : PySem.W.Frag} {mg : Str → Option Value} {base : Heap} {k : Nat}
theorem let_not_dig {c : Nat} (h : isLet c = true) : isDig c = false := by
  rw [isLet_iff] at h
  cases e : isDig c with
  | false => rfl
  | true => rw [isDig_iff] at e; omega
def spRunTok' : Sp := fun vs H Q _ => ∃ (z : Str) (line : Int) (t : Tok), vs = [.str z, .int line] ∧ RunTok (tl z) t ∧ ∀ v H', Same H H' → At H' v (eTk t line) → Q v H'
abbrev s_run_token : Stmt := top 15
abbrev n_run_token : List Str := ["run", "line", "value"]
theorem sc_run_token : FnScope n_run_token ["run", "line"] (defScope s_run_token) := ⟨rfl, rfl, rfl, by decide +kernel, rfl, by decide +kernel, by decide +kernel⟩
/- slots: 0 run, 1 line, 2 value -/
theorem ok_run_token (B : Bt mg) (hG : ∃ t, mg "LONGEST_NAME" = some (.int 16 t)) (h : Has K mg "run_token" s_run_token ["run", "line"]) (c1 : Ok P w K mg base k "number_value" ["run"] spNumVal) (c2 : Ok P w K mg base k "is_digit" ["char"] spDig) (c3 : Ok P w K mg base k "is_reserved" ["name"] spRes) :
    Ok P w K mg base (k + 1) "run_token" ["run", "line"] spRunTok' := by
  obtain ⟨_, _, G_number_value, m_number_value, k_number_value, b_number_value⟩ := c1.ex
  obtain ⟨_, _, G_is_digit, m_is_digit, k_is_digit, b_is_digit⟩ := c2.ex
  obtain ⟨_, _, G_is_reserved, m_is_reserved, k_is_reserved, b_is_reserved⟩ := c3.ex
  obtain ⟨_, m_LONGEST_NAME⟩ := hG
  refine h.ok sc_run_token (fun vs H Q E h => ?_) (fun f0 cdv A outer s H vs Q E hr h => ?_)
  · obtain ⟨_, _, _, rfl, _⟩ := h; rfl
  obtain ⟨z, line, t, rfl, ht, q⟩ := h
  refine ⟨_, (pss_cons (ps_if (pt_val (pe_call G_is_digit hr (by rfl) m_is_digit k_is_digit b_is_digit .nil pass0 (pa_cons (pe_ix ix_str (pv 0) pe_int (fun _ _ => rfl)) pa_nil))) (pss_cons (ps_set (i := 2) sc_run_token.nd rfl (Or.inl rfl) (pe_call G_number_value hr (by rfl) m_number_value k_number_value b_number_value .nil pass0 (pa_cons (pv 0) pa_nil)))
    (pss_cons (ps_if (pt_cmpR op_isN (pv 2) pe_non (nomark _)) (pss_one ps_never) pss_nil)
    (pss_one (ps_ret (pe_tupS (pa_cons pe_str (pa_cons (pv 2) (pa_cons (pv 1) pa_nil)))))))) pss_nil)
    (pss_cons (ps_if (pt_cmpR op_gt (pe_callB call_len_str (by rfl) B.len PySem.boot_len (pa_cons (pv 0) pa_nil)) (pe_glob (v := .int _) rfl m_LONGEST_NAME ⟨_, rfl⟩) (nomark _)) (pss_one ps_never) pss_nil)
    (pss_one (ps_ret (pe_tupS (pa_cons (pe_ifExp (pt_val (pe_call G_is_reserved hr (by rfl) m_is_reserved k_is_reserved b_is_reserved .nil pass0 (pa_cons (pv 0) pa_nil))) pe_str pe_str) (pa_cons (pv 0) (pa_cons (pv 1) pa_nil)))))))), ?_⟩
  have hd := ht.hd
  obtain ⟨c, r, ec, hc⟩ := hd
  have hc0 : atI z.cps.toList 0 = some c := by
    show atI (tl z) 0 = _
    rw [ec]; exact at0
  have two : (∃ n, tl z = numL n ∧ n ≤ 4294967295 ∧ t = tU n) ∨ (z.length ≤ 16 ∧ isDig c = false ∧ ((z ∈ RES ∧ t = tW z) ∨ (z ∉ RES ∧ t = tN z))) := by
    generalize hw : tl z = u at ht
    cases ht with
    | word s hs =>
      obtain rfl := ext_tl hw
      refine .inr ⟨(RES_run z hs).2.2, ?_, .inl ⟨hs, rfl⟩⟩
      have := (RES_run z hs).2.1
      rw [ec] at this
      exact let_not_dig this
    | name s hs =>
      obtain rfl := ext_tl hw
      refine .inr ⟨hs.len, ?_, .inr ⟨hs.res, rfl⟩⟩
      obtain ⟨c', r', e', h'⟩ := hs.hd
      rw [ec] at e'
      cases e'
      exact let_not_dig h'
    | num n hn => exact .inl ⟨n, rfl, hn, rfl⟩
  rcases two with ⟨n, hw, hn, rfl⟩ | ⟨hl, hdc, two⟩
  · have hdc : isDig c = true := numL_dig (n := n) (by rw [← hw, ec]; simp)
    have hl : z.length ≤ 10 := by rw [len_tl, hw]; exact numL_len (by decide) (by show n < 10000000000; omega)
    refine ⟨_, rfl, z, _, _, rfl, rfl, sz (by omega), hc0, _, rfl, _, rfl, ?_⟩
    rw [hdc]
    refine iteT ?_
    refine ⟨_, rfl, z, n, rfl, hw, hn, ?_⟩
    refine ⟨_, rfl, rfl, _, rfl, ?_⟩
    refine ⟨_, rfl, _, rfl, by walk_at "le", fun p H1 hp s1 e1 => ?_⟩
    exact q _ _ s1 (.tup e1 (.cons (.str _) (.cons (.int _) (.cons (.int _) .nil))))
  · have hz' : z.length ≤ sizeLine := sz (by omega)
    refine ⟨_, rfl, z, _, _, rfl, rfl, hz', hc0, _, rfl, _, rfl, ?_⟩
    rw [hdc]
    refine iteF ?_
    refine ⟨_, rfl, z, rfl, hz', _, _, rfl, rfl, _, rfl, ?_⟩
    rw [decide_eq_false (by omega)]
    refine iteF ?_
    refine ⟨_, rfl, z, rfl, _, rfl, ?_⟩
    rcases two with ⟨hres, rfl⟩ | ⟨hres, rfl⟩
    · rw [decide_eq_true hres]
      refine iteT ⟨_, rfl, _, rfl, by walk_at "le", fun p H1 hp s1 e1 => ?_⟩
      exact q _ _ s1 (.tup e1 (.cons (.str _) (.cons (.str _) (.cons (.int _) .nil))))
    · rw [decide_eq_false hres]
      refine iteF ⟨_, rfl, _, rfl, by walk_at "le", fun p H1 hp s1 e1 => ?_⟩
      exact q _ _ s1 (.tup e1 (.cons (.str _) (.cons (.str _) (.cons (.int _) .nil))))
abbrev s_sign_at : Stmt := top 16
abbrev n_sign_at : List Str := ["text", "at", "line", "sign"]
theorem sc_sign_at : FnScope n_sign_at ["text", "at", "line"] (defScope s_sign_at) := ⟨rfl, rfl, rfl, by decide +kernel, rfl, by decide +kernel, by decide +kernel⟩
/- slots: 0 text, 1 at, 2 line, 3 sign -/
theorem ok_sign_at (B : Bt mg) (W : Wt K mg "SIGNS" SGN) (h : Has K mg "sign_at" s_sign_at ["text", "at", "line"]) : Ok P w K mg base (k + 1) "sign_at" ["text", "at", "line"] spSignAt := by
  obtain ⟨a, m_SIGNS, hW⟩ := W.ex
  refine h.ok sc_sign_at (fun vs H Q E h => ?_) (fun f0 cdv A outer s H vs Q E hr h => ?_)
  · obtain ⟨_, _, _, _, _, rfl, _⟩ := h; rfl
  obtain ⟨z, i, line, g, r, rfl, hz, hi, hd, ⟨n, hn, hf⟩, q⟩ := h
  have hz' : z.length ≤ sizeLine := sz (by omega)
  refine ⟨_, (pss_cons (ps_for PassesOwn.never rfl (pi_tup (pe_glob (v := .ref _) rfl m_SIGNS rfl)) (pg_name (i := 3) sc_sign_at.nd rfl (Or.inl rfl)) (pss_one (ps_if (pt_cmpR op_eq (pe_slice sl_str (pv 0) (po_some (pv 1)) (po_some (pe_op op_add (pv 1) (pe_callB call_len_str (by rfl) B.len PySem.boot_len (pa_cons (pv 3) pa_nil))))) (pv 3) (nomark _)) (pss_one (ps_ret (pv 3))) pss_nil)))
    (pss_one ps_never)), ?_⟩
  have hlen : n < 17 := (List.getElem?_eq_some_iff.mp hn).1
  refine ⟨_, rfl, ⟨_, hW _⟩, for_tup (K := K) (a := a) (xs := SGN.map V.str) (fun j σ' H' => H' = H ∧ j ≤ n ∧ ∃ x, σ' = [some (.str z), some (.int (i : Int)), some (.int line), x]) ⟨rfl, Nat.zero_le _, _, rfl⟩ (fun _ _ _ _ _ => hW _) ?_ ?_⟩
  · rintro j x σ' H' hx ⟨rfl, hj, y, rfl⟩
    obtain ⟨gj, hgj, hat⟩ := (AtL.strs (H := H') (ss := SGN)).getM hx
    obtain rfl := hat.str_inv
    have hgl := (SGN_ne gj (List.mem_of_getElem? hgj)).2.2
    refine ⟨_, rfl, _, rfl, _, rfl, _, rfl, _, rfl, gj, rfl, sz (by omega), _, _, rfl, rfl, _, rfl, z, rfl, hz', _, rfl, rfl, _, rfl, ?_⟩
    have e1 : tl (cutS z (some (i : Int)) (some ((i : Int) + (gj.length : Int)))) = (tl g ++ r).take (tl gj).length := by
      have := cutS_nat z (i := i) (j := i + gj.length) hi
      rw [hd] at this
      rw [show ((i + gj.length : Nat) : Int) = (i : Int) + (gj.length : Int) from by omega] at this
      rw [this, len_tl gj]
      congr 1; omega
    by_cases hjn : j < n
    · have hno := hf j gj hjn hgj
      unfold pre at hno
      rw [beq_eq_false_iff_ne] at hno
      refine ifN (dsc _ _ (by rw [e1]; exact hno)) ?_
      exact ⟨rfl, by omega, _, rfl⟩
    · have : j = n := by omega
      subst this
      rw [hn] at hgj
      cases hgj
      refine ifE (congrArg V.str (ext_tl ?_)) ⟨_, rfl, q⟩
      rw [e1, List.take_left]
  · rintro σ' H' ⟨rfl, hj, y, rfl⟩
    exact absurd hj (by show ¬ (SGN.map V.str).length ≤ n; rw [List.length_map]; show ¬ 17 ≤ n; omega)
end
end WP
namespace WP
open PySem PySem.Spec PyProof.Rows L2 TL
local macro_rules | `(tactic| walk_at "len") => `(tactic| (show _ ≤ sizeLine; rw [sizeLine_eq]; (try simp only [al, lit_len]); (try simp) <;> omega))
local macro_rules | `(tactic| walk_at "lt") => `(tactic| (show _ < sizeLine; rw [sizeLine_eq]; (try simp only [List.length_map, List.length_append, List.length_cons, List.length_nil, List.length_take]); omega))
local macro_rules | `(tactic| walk_at "le") => `(tactic| (show _ ≤ sizeLine; rw [sizeLine_eq]; (try simp only [List.length_map, List.length_append, List.length_cons, List.length_nil, List.length_take]); omega))
local macro_rules | `(tactic| walk_at "now") => `(tactic| first | assumption | (refine (by assumption : Same _ _) _ _ ?_; walk_at "now"))
local macro_rules | `(tactic| walk_at "at") => `(tactic| first | exact at0 | exact at1 | exact at2 | exact at3 | exact at4 | exact at5 | exact at6 | exact at7 | exact at8)
local macro_rules | `(tactic| walk_at "v") => `(tactic| refine ⟨_, rfl, ?_⟩)
local macro_rules | `(tactic| walk_at "ix") => `(tactic| refine ⟨_, _, _, _, rfl, rfl, SqT.of (by walk_at "now"), (by walk_at "at"), ?_⟩)
local macro_rules | `(tactic| walk_at "ixl") => `(tactic| refine ⟨_, _, _, _, rfl, rfl, SqL.of (by walk_at "now"), (by walk_at "at"), ?_⟩)
local macro_rules | `(tactic| walk_at "str") => `(tactic| refine ⟨_, _, rfl, rfl, (by walk_at "len"), ?_⟩)
local macro_rules | `(tactic| walk_at "int") => `(tactic| refine ⟨_, _, rfl, rfl, ?_⟩)
local macro_rules | `(tactic| walk_at "eq") => `(tactic| refine ⟨rfl, _, rfl, ?_⟩)
local macro_rules | `(tactic| walk_at "app") => `(tactic| refine ⟨_, _, _, rfl, rfl, (by walk_at "now"), (by walk_at "lt"), ?_⟩)
local macro_rules | `(tactic| walk_at "ext") => `(tactic| refine ⟨_, _, _, _, rfl, rfl, (by walk_at "now"), (by walk_at "now"), (by walk_at "le"), ?_⟩)
local macro_rules | `(tactic| walk_at "cat") => `(tactic| refine ⟨_, _, _, _, rfl, rfl, (by walk_at "now"), (by walk_at "now"), (by walk_at "le"), ?_⟩)
local macro_rules | `(tactic| walk_at "num") => `(tactic| refine ⟨(by assumption : Nu _), ?_⟩)
local macro_rules | `(tactic| walk_at "ty") => `(tactic| refine ⟨Or.inl ⟨rfl, _, SqL.of (by walk_at "now")⟩, ?_⟩)
local macro_rules | `(tactic| walk_at "un2") => `(tactic| refine ⟨_, _, rfl, SqT.of (by walk_at "now"), rfl, _, _, rfl, _, _, rfl, rfl, ?_⟩)
local macro_rules | `(tactic| walk_at "un3") => `(tactic| refine ⟨_, _, rfl, SqT.of (by walk_at "now"), rfl, _, _, rfl, _, _, rfl, _, _, rfl, rfl, ?_⟩)
local macro_rules | `(tactic| walk_at "un4") => `(tactic| refine ⟨_, _, rfl, SqT.of (by walk_at "now"), rfl, _, _, rfl, _, _, rfl, _, _, rfl, _, _, rfl, rfl, ?_⟩)
local macro_rules | `(tactic| walk_at "un6") => `(tactic| refine ⟨_, _, rfl, SqT.of (by walk_at "now"), rfl, _, _, rfl, _, _, rfl, _, _, rfl, _, _, rfl, _, _, rfl, _, _, rfl, rfl, ?_⟩)
local macro_rules | `(tactic| walk_at "un9") => `(tactic| refine ⟨_, _, rfl, SqT.of (by walk_at "now"), rfl, _, _, rfl, _, _, rfl, _, _, rfl, _, _, rfl, _, _, rfl, _, _, rfl, _, _, rfl, _, _, rfl, _, _, rfl, rfl, ?_⟩)
local macro_rules | `(tactic| walk_at "go") => `(tactic| repeat (first | walk_at "v" | walk_at "eq" | walk_at "ix" | walk_at "str" | walk_at "ty" | walk_at "num"))

/-! ### tokens in the heap -/
def Tk1 (H : Hp) (x : V) (t : TL') : Prop := ∃ p v, x = .ref p ∧ H p = some (.tup [.str t.1.1, v, .int t.2]) ∧ ((∃ s, v = .str s ∧ t.1.2 = .str s) ∨ ∃ i, v = .int i ∧ t.1.2 = .int i)
abbrev Toks (H : Hp) : List V → List TL' → Prop := Paired (Tk1 H)
theorem Tk1.same {H H' : Hp} {x : V} {t : TL'} (h : Tk1 H x t) (s : Same H H') : Tk1 H' x t := by
  obtain ⟨p, v, e, hp, r⟩ := h
  exact ⟨p, v, e, s _ _ hp, r⟩
theorem Tk1.kp {H H' : Hp} {x : V} {t : TL'} {L : Addr} {ys : List V} (h : Tk1 H x t) (hL : H L = some (.lst ys)) (k : Kp [L] H H') : Tk1 H' x t := by
  obtain ⟨p, v, e, hp, r⟩ := h
  refine ⟨p, v, e, k _ _ (fun z => ?_) hp, r⟩
  have : p = L := by simpa using z
  rw [this, hL] at hp; cases hp
theorem Toks.same {H H' : Hp} {xs : List V} {ts : List TL'} (h : Toks H xs ts) (s : Same H H') : Toks H' xs ts := Paired.mapP h fun _ _ z => z.same s
theorem Toks.kp {H H' : Hp} {xs ys : List V} {ts : List TL'} {L : Addr} (h : Toks H xs ts) (hL : H L = some (.lst ys)) (k : Kp [L] H H') : Toks H' xs ts := Paired.mapP h fun _ _ z => z.kp hL k
theorem Toks.append {H : Hp} : ∀ {xs ys : List V} {ts us : List TL'}, Toks H xs ts → Toks H ys us → Toks H (xs ++ ys) (ts ++ us)
  | _, _, _, _, .nil, s => s
  | _, _, _, _, .cons r t, s => .cons r (Toks.append t s)
theorem At.tk1 {H : Hp} {v : V} {t : Tok} {line : Int} (h : At H v (eTk t line)) (ha : Atom t.2) : Tk1 H v (t, line) := by
  obtain ⟨a, x1, x2, x3, rfl, h0, h1, h2, h3⟩ := At.t3 h
  obtain rfl := h1.str_inv
  obtain rfl := h3.int_inv
  refine ⟨a, x2, rfl, h0, ?_⟩
  rcases ha with ⟨s, e⟩ | ⟨i, e⟩
  · rw [e] at h2; exact .inl ⟨s, h2.str_inv, e⟩
  · rw [e] at h2; exact .inr ⟨i, h2.int_inv, e⟩
theorem drop_at {l r : List Nat} {i c : Nat} (h : l.drop i = c :: r) : l[i]? = some c ∧ l.drop (i + 1) = r ∧ i < l.length := by
  obtain ⟨h1, h2⟩ := drop_cons h
  exact ⟨h1, h2, (List.getElem?_eq_some_iff.mp h1).1⟩
theorem chr_ne {c d : Nat} (h : c ≠ d) {s : Str} (hs : tl s = [d]) : V.str ⟨#[c]⟩ ≠ V.str s := dsc _ _ (by rw [hs]; intro e; exact h (List.head_eq_of_cons_eq e))
theorem chr_eq {c : Nat} {s : Str} (hs : tl s = [c]) : V.str ⟨#[c]⟩ = V.str s := congrArg V.str (ext_tl hs.symm)
def spLineToks : Sp := fun vs H Q _ => ∃ (z : Str) (line : Int) (ts : List Tok), vs = [.str z, .int line] ∧ z.length ≤ 14000000 ∧ LexL (tl z) ts ∧
  ∀ a H' xs tks, Same H H' → H a = none → H' a = some (.lst xs) → Toks H' xs tks → tks.map (·.1) = ts → Q (.ref a) H'
theorem Toks.len {H : Hp} {xs : List V} {ts : List TL'} (h : Toks H xs ts) : xs.length = ts.length := Paired.length h
theorem LexL.count {s : List Nat} {ts : List Tok} (h : LexL s ts) : ts.length ≤ s.length := by
  induction h with
  | nil => exact Nat.le_refl _
  | sp _ ih => simp; omega
  | cm b => simp
  | run w t hw _ _ ih =>
    have := List.length_pos_iff.mpr hw.ne
    simp; omega
  | sign g hg _ ih =>
    have := List.length_pos_iff.mpr (SGN_ne g hg.mem).2.1
    rw [List.length_append, List.length_cons]; omega
section
variable {P : Program} {w : World} {K : PySem.W.Frag} {mg : Str → Option Value} {base : Heap} {k : Nat}
abbrev s_line_tokens : Stmt := top 17
abbrev n_line_tokens : List Str := ["text", "line", "tokens", "at", "end", "sign"]
theorem sc_line_tokens : FnScope n_line_tokens ["text", "line"] (defScope s_line_tokens) := ⟨rfl, rfl, rfl, by decide +kernel, rfl, by decide +kernel, by decide +kernel⟩
/- slots: 0 text, 1 line, 2 tokens, 3 at, 4 end, 5 sign -/
theorem ok_line_tokens (B : Bt mg) (h : Has K mg "line_tokens" s_line_tokens ["text", "line"]) (c1 : Ok P w K mg base k "is_letter" ["char"] spLet) (c2 : Ok P w K mg base k "is_digit" ["char"] spDig) (c3 : Ok P w K mg base k "run_end" ["text", "start"] spRunEnd)
    (c4 : Ok P w K mg base k "run_token" ["run", "line"] spRunTok') (c5 : Ok P w K mg base k "sign_at" ["text", "at", "line"] spSignAt) :
    Ok P w K mg base (k + 1) "line_tokens" ["text", "line"] spLineToks := by
  obtain ⟨_, _, G_is_letter, m_is_letter, k_is_letter, b_is_letter⟩ := c1.ex
  obtain ⟨_, _, G_is_digit, m_is_digit, k_is_digit, b_is_digit⟩ := c2.ex
  obtain ⟨_, _, G_run_end, m_run_end, k_run_end, b_run_end⟩ := c3.ex
  obtain ⟨_, _, G_run_token, m_run_token, k_run_token, b_run_token⟩ := c4.ex
  obtain ⟨_, _, G_sign_at, m_sign_at, k_sign_at, b_sign_at⟩ := c5.ex
  refine h.ok sc_line_tokens (fun vs H Q E h => ?_) (fun f0 cdv A outer s H vs Q E hr h => ?_)
  · obtain ⟨_, _, _, rfl, _⟩ := h; rfl
  obtain ⟨z, line, ts, rfl, hz, hlex, q⟩ := h
  have hz' : z.length ≤ sizeLine := sz (by omega)
  have hcnt := hlex.count
  rw [← len_tl] at hcnt
  have t35 : tl (Str.ofString "#") = [35] := by decide +kernel
  have t32 : tl (Str.ofString " ") = [32] := by decide +kernel
  refine ⟨_, (pss_cons (ps_set (i := 2) sc_line_tokens.nd rfl (Or.inl rfl) (pe_lstS pa_nil))
    (pss_cons (ps_set (i := 3) sc_line_tokens.nd rfl (Or.inl rfl) pe_int)
    (pss_cons (ps_while PassesOwn.never (PW.pt (pw_and (pt_cmpR op_lt (pv 3) (pe_callB call_len_str (by rfl) B.len PySem.boot_len (pa_cons (pv 0) pa_nil)) (nomark _)) (pw_and1 (pt_cmpR op_ne (pe_ix ix_str (pv 0) (pv 3) (fun _ _ => rfl)) pe_str (nomark _))))) (pss_one (ps_if (pt_cmpR op_eq (pe_ix ix_str (pv 0) (pv 3) (fun _ _ => rfl)) pe_str (nomark _)) (pss_one (ps_set (i := 3) sc_line_tokens.nd rfl (Or.inl rfl) (pe_op op_add (pv 3) pe_int))) (pss_one (ps_if (PW.pt (pw_or (pt_val (pe_call G_is_letter hr (by rfl) m_is_letter k_is_letter b_is_letter .nil pass0 (pa_cons (pe_ix ix_str (pv 0) (pv 3) (fun _ _ => rfl)) pa_nil))) (pw_or1 (pt_val (pe_call G_is_digit hr (by rfl) m_is_digit k_is_digit b_is_digit .nil pass0 (pa_cons (pe_ix ix_str (pv 0) (pv 3) (fun _ _ => rfl)) pa_nil)))))) (pss_cons (ps_set (i := 4) sc_line_tokens.nd rfl (Or.inl rfl) (pe_call G_run_end hr (by rfl) m_run_end k_run_end b_run_end .nil pass0 (pa_cons (pv 0) (pa_cons (pv 3) pa_nil))))
    (pss_cons (ps_expr (pe_bm PySem.F.plainAttrs_list PySem.F.slot_list_append PySem.F.type_list_append mt_appendS (pv 2) (pa_cons (pe_call G_run_token hr (by rfl) m_run_token k_run_token b_run_token .nil pass0 (pa_cons (pe_slice sl_str (pv 0) (po_some (pv 3)) (po_some (pv 4))) (pa_cons (pv 1) pa_nil))) pa_nil)))
    (pss_one (ps_set (i := 3) sc_line_tokens.nd rfl (Or.inl rfl) (pv 4))))) (pss_cons (ps_set (i := 5) sc_line_tokens.nd rfl (Or.inl rfl) (pe_call G_sign_at hr (by rfl) m_sign_at k_sign_at b_sign_at .nil pass0 (pa_cons (pv 0) (pa_cons (pv 3) (pa_cons (pv 1) pa_nil)))))
    (pss_cons (ps_expr (pe_bm PySem.F.plainAttrs_list PySem.F.slot_list_append PySem.F.type_list_append mt_appendS (pv 2) (pa_cons (pe_tupS (pa_cons pe_str (pa_cons (pv 5) (pa_cons (pv 1) pa_nil)))) pa_nil)))
    (pss_one (ps_set (i := 3) sc_line_tokens.nd rfl (Or.inl rfl) (pe_op op_add (pv 3) (pe_callB call_len_str (by rfl) B.len PySem.boot_len (pa_cons (pv 5) pa_nil))))))))))))
    (pss_one (ps_ret (pv 2)))))), ?_⟩
  refine ⟨by walk_at "le", fun L H1 hL s1 e1 => ?_⟩
  refine ⟨fun m σ' H' => ∃ (i : Nat) (rest : List Tok) (pre : List TL') (xs : List V) (u v : Option V), σ' = [some (.str z), some (.int line), some (.ref L), some (.int (i : Int)), u, v] ∧ LexL ((tl z).drop i) rest ∧ i ≤ z.length ∧ m = z.length - i ∧
    Same H H' ∧ H' L = some (.lst xs) ∧ Toks H' xs pre ∧ pre.map (·.1) ++ rest = ts, ⟨_, 0, ts, [], [], none, none, rfl, hlex, Nat.zero_le _, rfl, s1, e1, .nil, rfl⟩, ?_⟩
  rintro m σ' H' ⟨i, rest, pre, xs, u, v, rfl, hl, hi, rfl, s2, e2, tk, ep⟩
  have hpl : xs.length ≤ 14000000 := by
    have h1 := tk.len
    have h2 := congrArg List.length ep
    rw [List.length_append, List.length_map] at h2
    omega
  refine ⟨_, rfl, _, rfl, z, rfl, hz', _, _, rfl, rfl, _, rfl, ?_⟩
  generalize hd : (tl z).drop i = d at hl
  have stop : rest = [] → tRet (tVar 2) { nx := fun _ H' => Q .non H', rt := Q } [some (.str z), some (.int line), some (.ref L), some (.int (i : Int)), u, v] H' := fun er => by
    refine ⟨_, rfl, q L H' xs pre s2 hL e2 tk ?_⟩
    rw [← ep, er, List.append_nil]
  cases hl with
  | nil =>
    have : (tl z).length ≤ i := List.drop_eq_nil_iff.mp hd
    rw [← len_tl] at this
    rw [decide_eq_false (by omega)]
    exact iteF (iteF (stop rfl))
  | @sp s ts' hs =>
    obtain ⟨g1, g2, g3⟩ := drop_at hd
    rw [← len_tl] at g3
    rw [decide_eq_true (by omega)]
    refine iteT ⟨_, rfl, _, rfl, z, _, _, rfl, rfl, hz', atI_nat g1, rfl, _, rfl, ?_⟩
    refine iteNN (chr_ne (by decide) t35) ⟨_, fun _ _ h => h, ?_⟩
    refine ⟨_, rfl, _, rfl, z, _, _, rfl, rfl, hz', atI_nat g1, rfl, _, rfl, ?_⟩
    refine ifE (chr_eq t32) ⟨_, rfl, _, _, rfl, rfl, ?_⟩
    exact ⟨z.length - (i + 1), by omega, i + 1, rest, pre, xs, u, v, rfl, by rw [g2]; exact hs, by omega, rfl, s2, e2, tk, ep⟩
  | cm b =>
    obtain ⟨g1, g2, g3⟩ := drop_at hd
    rw [← len_tl] at g3
    rw [decide_eq_true (by omega)]
    refine iteT ⟨_, rfl, _, rfl, z, _, _, rfl, rfl, hz', atI_nat g1, rfl, _, rfl, ?_⟩
    exact iteNE (chr_eq t35) (stop rfl)
  | @run s ts' wd t hw hn hs =>
    obtain ⟨c, r, ec, hc⟩ := hw.hd
    have hcr : isRun c = true := hw.all c (by rw [ec]; simp)
    have hne := run_ne hcr
    have hd0 := hd
    rw [ec, List.cons_append] at hd0
    obtain ⟨g1, g2, g3⟩ := drop_at hd0
    rw [← len_tl] at g3
    have hwl : i + wd.length ≤ z.length := by
      have := congrArg List.length hd
      rw [List.length_drop, List.length_append, ← len_tl] at this
      omega
    have hpos := List.length_pos_iff.mpr hw.ne
    rw [decide_eq_true (by omega)]
    refine iteT ⟨_, rfl, _, rfl, z, _, _, rfl, rfl, hz', atI_nat g1, rfl, _, rfl, ?_⟩
    refine iteNN (chr_ne hne.2.2.1 t35) ⟨_, fun _ _ h => h, ?_⟩
    refine ⟨_, rfl, _, rfl, z, _, _, rfl, rfl, hz', atI_nat g1, rfl, _, rfl, ?_⟩
    refine ifN (chr_ne hne.2.1 t32) ?_
    refine ⟨_, rfl, _, rfl, z, _, _, rfl, rfl, hz', atI_nat g1, ⟨_, rfl, _, rfl, ?_⟩⟩
    have hor : isLet c = true ∨ (isLet c = false ∧ isDig c = true) := by
      rcases hc with h1 | h1
      · exact .inl h1
      · cases e : isLet c with
        | true => exact .inl rfl
        | false => exact .inr ⟨rfl, h1⟩
    rcases hor with h1 | ⟨h1, h2⟩
    case' inl =>
      rw [h1]
      refine iteT ?_
    case' inr =>
      rw [h1]
      refine iteF ⟨_, rfl, _, rfl, z, _, _, rfl, rfl, hz', atI_nat g1, ⟨_, rfl, _, rfl, ?_⟩⟩
      rw [h2]
      refine iteT ?_
    all_goals
      refine ⟨_, rfl, _, rfl, z, i, wd, s, rfl, by omega, hd, hw.all, hn, ?_⟩
      refine ⟨_, rfl, .inl ⟨rfl, _, SqL.of e2⟩, _, rfl, _, rfl, _, rfl, _, rfl, _, rfl, z, rfl, hz', _, rfl, _, line, t, rfl, ?_, fun x H3 s3 at3 => ?_⟩
      · rw [cutS_nat z (by omega), hd, show i + wd.length - i = wd.length from by omega, List.take_left]; exact hw
      · refine ⟨_, _, _, rfl, rfl, s3 _ _ e2, by walk_at "lt", fun H4 k4 e4 => ?_⟩
        refine ⟨_, rfl, ?_⟩
        refine ⟨z.length - (i + wd.length), by omega, i + wd.length, ts', pre ++ [(t, line)], xs ++ [x], some (.int ((i + wd.length : Nat) : Int)), v, rfl, ?_, hwl, rfl, sapp (s2.trans s3) hL k4, e4, ?_, ?_⟩
        · rw [← List.drop_drop, hd, List.drop_left]; exact hs
        · exact ((tk.same s3).append (.cons (at3.tk1 hw.atom) .nil)).kp (s3 _ _ e2) k4
        · rw [← ep]; simp
  | @sign s ts' g hg hs =>
    have hgs := SGN_ne g hg.mem
    cases ec : tl g with
    | nil => exact absurd ec hgs.2.1
    | cons c r =>
    have hc := List.all_eq_true.mp hgs.1 c (by rw [ec]; simp)
    simp only [Bool.and_eq_true, Bool.not_eq_true', bne_iff_ne, ne_eq] at hc
    obtain ⟨⟨⟨hrun, h10⟩, h32⟩, h35⟩ := hc
    have hd0 := hd
    rw [ec, List.cons_append] at hd0
    obtain ⟨g1, g2, g3⟩ := drop_at hd0
    rw [← len_tl] at g3
    have h1 : isLet c = false := by unfold isRun at hrun; simp at hrun; exact hrun.1.1
    have h2 : isDig c = false := by unfold isRun at hrun; simp at hrun; exact hrun.1.2
    have hgl := tl_len g
    have hwl : i + g.length ≤ z.length := by
      have := congrArg List.length hd
      rw [List.length_drop, List.length_append, ← len_tl, hgl] at this
      omega
    have hpos : 0 < g.length := by rw [← hgl, ec]; simp
    rw [decide_eq_true (by omega)]
    refine iteT ⟨_, rfl, _, rfl, z, _, _, rfl, rfl, hz', atI_nat g1, rfl, _, rfl, ?_⟩
    refine iteNN (chr_ne h35 t35) ⟨_, fun _ _ h => h, ?_⟩
    refine ⟨_, rfl, _, rfl, z, _, _, rfl, rfl, hz', atI_nat g1, rfl, _, rfl, ?_⟩
    refine ifN (chr_ne h32 t32) ?_
    refine ⟨_, rfl, _, rfl, z, _, _, rfl, rfl, hz', atI_nat g1, ⟨_, rfl, _, rfl, ?_⟩⟩
    rw [h1]
    refine iteF ⟨_, rfl, _, rfl, z, _, _, rfl, rfl, hz', atI_nat g1, ⟨_, rfl, _, rfl, ?_⟩⟩
    rw [h2]
    refine iteF ?_
    refine ⟨_, rfl, _, rfl, _, rfl, z, i, line, g, s, rfl, by omega, hi, hd, hg, ?_⟩
    refine ⟨_, rfl, .inl ⟨rfl, _, SqL.of e2⟩, _, rfl, _, rfl, by walk_at "le", fun p H3 hp s3 e3 => ?_⟩
    refine ⟨_, _, _, rfl, rfl, s3 _ _ e2, by walk_at "lt", fun H4 k4 e4 => ?_⟩
    refine ⟨_, rfl, _, rfl, g, rfl, sz (by have := hgs.2.2; omega), _, _, rfl, rfl, ?_⟩
    refine ⟨z.length - (i + g.length), by omega, i + g.length, ts', pre ++ [(tS g, line)], xs ++ [.ref p], u, some (.str g), by simp, ?_, hwl, rfl, sapp (s2.trans s3) hL k4, e4, ?_, ?_⟩
    · rw [← List.drop_drop, hd, ← hgl, List.drop_left]; exact hs
    · exact ((tk.same s3).append (.cons ⟨p, _, rfl, e3, .inl ⟨g, rfl, rfl⟩⟩ .nil)).kp (s3 _ _ e2) k4
    · rw [← ep]; simp
end
end WP
namespace WP
open PySem PySem.Spec PyProof.Rows L2 TL
local macro_rules | `(tactic| walk_at "len") => `(tactic| (show _ ≤ sizeLine; rw [sizeLine_eq]; (try simp only [al, lit_len]); (try simp) <;> omega))
local macro_rules | `(tactic| walk_at "lt") => `(tactic| (show _ < sizeLine; rw [sizeLine_eq]; (try simp only [List.length_map, List.length_append, List.length_cons, List.length_nil, List.length_take]); omega))
local macro_rules | `(tactic| walk_at "le") => `(tactic| (show _ ≤ sizeLine; rw [sizeLine_eq]; (try simp only [List.length_map, List.length_append, List.length_cons, List.length_nil, List.length_take]); omega))
local macro_rules | `(tactic| walk_at "now") => `(tactic| first | assumption | (refine (by assumption : Same _ _) _ _ ?_; walk_at "now"))
local macro_rules | `(tactic| walk_at "at") => `(tactic| first | exact at0 | exact at1 | exact at2 | exact at3 | exact at4 | exact at5 | exact at6 | exact at7 | exact at8)
local macro_rules | `(tactic| walk_at "v") => `(tactic| refine ⟨_, rfl, ?_⟩)
local macro_rules | `(tactic| walk_at "ix") => `(tactic| refine ⟨_, _, _, _, rfl, rfl, SqT.of (by walk_at "now"), (by walk_at "at"), ?_⟩)
local macro_rules | `(tactic| walk_at "ixl") => `(tactic| refine ⟨_, _, _, _, rfl, rfl, SqL.of (by walk_at "now"), (by walk_at "at"), ?_⟩)
local macro_rules | `(tactic| walk_at "str") => `(tactic| refine ⟨_, _, rfl, rfl, (by walk_at "len"), ?_⟩)
local macro_rules | `(tactic| walk_at "int") => `(tactic| refine ⟨_, _, rfl, rfl, ?_⟩)
local macro_rules | `(tactic| walk_at "eq") => `(tactic| refine ⟨rfl, _, rfl, ?_⟩)
local macro_rules | `(tactic| walk_at "app") => `(tactic| refine ⟨_, _, _, rfl, rfl, (by walk_at "now"), (by walk_at "lt"), ?_⟩)
local macro_rules | `(tactic| walk_at "ext") => `(tactic| refine ⟨_, _, _, _, rfl, rfl, (by walk_at "now"), (by walk_at "now"), (by walk_at "le"), ?_⟩)
local macro_rules | `(tactic| walk_at "cat") => `(tactic| refine ⟨_, _, _, _, rfl, rfl, (by walk_at "now"), (by walk_at "now"), (by walk_at "le"), ?_⟩)
local macro_rules | `(tactic| walk_at "num") => `(tactic| refine ⟨(by assumption : Nu _), ?_⟩)
local macro_rules | `(tactic| walk_at "ty") => `(tactic| refine ⟨Or.inl ⟨rfl, _, SqL.of (by walk_at "now")⟩, ?_⟩)
local macro_rules | `(tactic| walk_at "un2") => `(tactic| refine ⟨_, _, rfl, SqT.of (by walk_at "now"), rfl, _, _, rfl, _, _, rfl, rfl, ?_⟩)
local macro_rules | `(tactic| walk_at "un3") => `(tactic| refine ⟨_, _, rfl, SqT.of (by walk_at "now"), rfl, _, _, rfl, _, _, rfl, _, _, rfl, rfl, ?_⟩)
local macro_rules | `(tactic| walk_at "un4") => `(tactic| refine ⟨_, _, rfl, SqT.of (by walk_at "now"), rfl, _, _, rfl, _, _, rfl, _, _, rfl, _, _, rfl, rfl, ?_⟩)
local macro_rules | `(tactic| walk_at "un6") => `(tactic| refine ⟨_, _, rfl, SqT.of (by walk_at "now"), rfl, _, _, rfl, _, _, rfl, _, _, rfl, _, _, rfl, _, _, rfl, _, _, rfl, rfl, ?_⟩)
local macro_rules | `(tactic| walk_at "un9") => `(tactic| refine ⟨_, _, rfl, SqT.of (by walk_at "now"), rfl, _, _, rfl, _, _, rfl, _, _, rfl, _, _, rfl, _, _, rfl, _, _, rfl, _, _, rfl, _, _, rfl, _, _, rfl, rfl, ?_⟩)
local macro_rules | `(tactic| walk_at "go") => `(tactic| repeat (first | walk_at "v" | walk_at "eq" | walk_at "ix" | walk_at "str" | walk_at "ty" | walk_at "num"))

theorem Lex.count {s : List Nat} {ts : List Tok} (h : Lex s ts) : ts.length ≤ s.length := by
  induction h with
  | nil => exact Nat.le_refl _
  | sp _ ih => simp; omega
  | nl _ ih => simp; omega
  | cm b _ _ ih => simp; omega
  | run w t hw _ _ ih =>
    have := List.length_pos_iff.mpr hw.ne
    simp; omega
  | sign g hg _ ih =>
    have := List.length_pos_iff.mpr (SGN_ne g hg.mem).2.1
    rw [List.length_append, List.length_cons]; omega
theorem joinL_row : ∀ (rows : List (List Nat)) (r : List Nat), r ∈ rows → r.length ≤ (joinL [10] rows).length
  | [], _, h => absurd h (by simp)
  | [p], r, h => by rw [List.mem_singleton.mp h]; exact Nat.le_refl _
  | p :: q :: rs, r, h => by
    have e := joinL_cons p (q :: rs) (by simp)
    rw [e, List.length_append, List.length_cons]
    rcases List.mem_cons.mp h with rfl | h
    · omega
    · have := joinL_row (q :: rs) r h
      omega
theorem joinL_many : ∀ (rows : List (List Nat)), rows.length ≤ (joinL [10] rows).length + 1
  | [] => by simp
  | [p] => by simp
  | p :: q :: rs => by
    have e := joinL_cons p (q :: rs) (by simp)
    have := joinL_many (q :: rs)
    rw [e]
    simp only [List.length_append, List.length_cons] at *
    omega
theorem flat_part {α : Type} (l : List (List α)) (i : Nat) : ((l.take i).flatten).length ≤ l.flatten.length := by
  have h : l.flatten = (l.take i).flatten ++ (l.drop i).flatten := by rw [← List.flatten_append, List.take_append_drop]
  rw [h, List.length_append]; omega
theorem Paired.get' {α β : Type} {F : α → β → Prop} : ∀ {xs : List α} {ys : List β} {i : Nat} {x : α}, Paired F xs ys → xs[i]? = some x → ∃ y, ys[i]? = some y ∧ F x y
  | _, _, _, _, .nil, e => by simp at e
  | _, _, 0, _, .cons r _, e => by simp at e; subst e; exact ⟨_, rfl, r⟩
  | _, _, i + 1, x, .cons _ t, e => by
    obtain ⟨u, h1, h2⟩ := Paired.get' (i := i) (x := x) t (by simpa using e)
    exact ⟨u, by simpa using h1, h2⟩
/-- the rows of a text -/
theorem rows_of {z : Str} {ts : List Tok} (h : Lex (tl z) ts) : ∃ (rows : List Str) (qs : List (List Tok)), Txt.split z "\n" = rows ∧ ts = qs.flatten ∧ Paired (fun (r : Str) q => LexL (tl r) q) rows qs ∧ (∀ r ∈ rows, r.length ≤ z.length) ∧ rows.length ≤ z.length + 1 := by
  obtain ⟨p, ps, q, qs, e1, e2, e3, e4⟩ := h.rows
  have hne : (p :: ps).map mk ≠ [] := by simp
  have e0 : z = Str.join "\n" ((p :: ps).map mk) := by
    refine ext_tl ?_
    rw [tl_join, e1]
    have : tl (Str.ofString "\n") = [10] := by decide +kernel
    rw [this, List.map_map]
    congr 1
    exact (List.map_id _).symm
  refine ⟨(p :: ps).map mk, q :: qs, ?_, e2, ?_, fun r hr => ?_, ?_⟩
  · rw [e0, ← join_eq]
    refine split_join (s := 10) (S := []) (by decide +kernel) (by decide +kernel) hne fun r hr => ?_
    obtain ⟨x, hx, rfl⟩ := List.mem_map.mp hr
    exact e4 x hx
  · clear e1 e2 e4 hne e0
    generalize p :: ps = l1 at e3
    generalize q :: qs = l2 at e3
    induction e3 with
    | nil => exact .nil
    | cons h _ ih => exact .cons h ih
  · obtain ⟨x, hx, rfl⟩ := List.mem_map.mp hr
    rw [len_tl, len_tl z, e1]
    exact joinL_row _ _ hx
  · rw [List.length_map, len_tl z, e1]
    exact joinL_many _
def spTokenize : Sp := fun vs H Q _ => ∃ (z : Str) (ts : List Tok), vs = [.str z] ∧ z.length ≤ 14000000 ∧ Lex (tl z) ts ∧
  ∀ a H' xs tks, Same H H' → H a = none → H' a = some (.lst xs) → Toks H' xs tks → tks.map (·.1) = ts ++ [tE] → Q (.ref a) H'
section
variable {P : Program} {w : World} {K : PySem.W.Frag} {mg : Str → Option Value} {base : Heap} {k : Nat}
abbrev s_tokenize : Stmt := top 18
abbrev n_tokenize : List Str := ["text", "tokens", "lines", "k", "row"]
theorem sc_tokenize : FnScope n_tokenize ["text"] (defScope s_tokenize) := ⟨rfl, rfl, rfl, by decide +kernel, rfl, by decide +kernel, by decide +kernel⟩
/- slots: 0 text, 1 tokens, 2 lines, 3 k, 4 row -/
theorem ok_tokenize (B : Bt mg) (h : Has K mg "tokenize" s_tokenize ["text"]) (c1 : Ok P w K mg base k "line_tokens" ["text", "line"] spLineToks) :
    Ok P w K mg base (k + 1) "tokenize" ["text"] spTokenize := by
  obtain ⟨_, _, G_line_tokens, m_line_tokens, k_line_tokens, b_line_tokens⟩ := c1.ex
  refine h.ok sc_tokenize (fun vs H Q E h => ?_) (fun f0 cdv A outer s H vs Q E hr h => ?_)
  · obtain ⟨_, _, rfl, _⟩ := h; rfl
  obtain ⟨z, ts, rfl, hz, hlex, q⟩ := h
  have hcnt := hlex.count
  rw [← len_tl] at hcnt
  obtain ⟨rows, qs, esp, rfl, hp, hrl, hrn⟩ := rows_of hlex
  refine ⟨_, (pss_cons (ps_set (i := 1) sc_tokenize.nd rfl (Or.inl rfl) (pe_lstS pa_nil))
    (pss_cons (ps_set (i := 2) sc_tokenize.nd rfl (Or.inl rfl) (pe_splitS (pv 0) pe_str))
    (pss_cons (ps_for PassesOwn.never rfl (pi_enum (by rfl) B.enumerate (pa_cons (pv 2) pa_nil)) (pg_tup rfl (pgs_cons (pg_name (i := 3) sc_tokenize.nd rfl (Or.inl rfl)) (pgs_cons (pg_name (i := 4) sc_tokenize.nd rfl (Or.inl rfl)) pgs_nil))) (pss_one (ps_expr (pe_bm PySem.F.plainAttrs_list PySem.F.slot_list_extend PySem.F.type_list_extend mt_extendS (pv 1) (pa_cons (pe_call G_line_tokens hr (by rfl) m_line_tokens k_line_tokens b_line_tokens .nil pass0 (pa_cons (pv 4) (pa_cons (pe_op op_add (pv 3) pe_int) pa_nil))) pa_nil)))))
    (pss_cons (ps_expr (pe_bm PySem.F.plainAttrs_list PySem.F.slot_list_append PySem.F.type_list_append mt_appendS (pv 1) (pa_cons (pe_tupS (pa_cons pe_str (pa_cons pe_str (pa_cons (pe_callB call_len_seq (by rfl) B.len PySem.boot_len (pa_cons (pv 2) pa_nil)) pa_nil)))) pa_nil)))
    (pss_one (ps_ret (pv 1))))))), ?_⟩
  refine ⟨by walk_at "le", fun L H1 hL s1 e1 => ?_⟩
  refine ⟨_, rfl, ⟨_, rfl⟩, z, _, rfl, rfl, by decide +kernel, sz (by omega), fun S H2 hS s2 e2 => ?_⟩
  rw [esp] at e2
  have s12 := s1.trans s2
  have hSL : S ≠ L := fun e => by rw [e] at hS; rw [e1] at hS; cases hS
  refine ⟨_, rfl, S, rows.map V.str, rfl, SqL.of e2, for_enumS (K := K) (a := S) (xs := rows.map V.str) (fun i σ' H' => ∃ xs pre u v, σ' = [some (.str z), some (.ref L), some (.ref S), u, v] ∧ Same H H' ∧ H' S = some (.lst (rows.map V.str)) ∧ H' L = some (.lst xs) ∧ Toks H' xs pre ∧ pre.map (·.1) = (qs.take i).flatten)
    ⟨[], [], none, none, rfl, s12, e2, s2 _ _ e1, .nil, rfl⟩ (fun i σ' H' _ ⟨_, _, _, _, _, _, e, _⟩ => SqL.of e) ?_ ?_⟩
  · rintro i x T σ' H' H3 hi ⟨xs, pre, u, v, rfl, s3, eS, eL, tk, ep⟩ hT s4 eT
    obtain ⟨row, hrow, hat⟩ := (AtL.strs (H := H') (ss := rows)).getM hi
    obtain rfl := hat.str_inv
    obtain ⟨qi, hqi, hlx⟩ := Paired.get' hp hrow
    have hrl' := hrl row (List.mem_of_getElem? hrow)
    walk_at "un2"
    refine ⟨_, rfl, .inl ⟨rfl, _, SqL.of (s4 _ _ eL)⟩, _, rfl, _, rfl, _, _, rfl, rfl, row, _, qi, rfl, by omega, hlx, fun b H5 zs tks s5 hb5 eb tkb etk => ?_⟩
    have l1 := tk.len
    have l2 := congrArg List.length ep
    rw [List.length_map] at l2
    have l3 := flat_part qs (i + 1)
    rw [take_s hqi, List.flatten_append, List.length_append] at l3
    simp only [List.flatten_cons, List.flatten_nil, List.append_nil] at l3
    have l4 := tkb.len
    have l5 := congrArg List.length etk
    rw [List.length_map] at l5
    have l6 := hlx.count
    rw [← len_tl] at l6
    refine ⟨_, _, _, _, rfl, rfl, s5 _ _ (s4 _ _ eL), eb, by walk_at "le", fun H6 k6 e6 => ?_⟩
    have s5' := (s3.trans s4).trans s5
    refine ⟨xs ++ zs, pre ++ tks, _, _, rfl, sapp s5' hL k6, k6 _ _ (by simpa using hSL) (s5 _ _ (s4 _ _ eS)), e6, ?_, ?_⟩
    · exact (((tk.same s4).same s5).append tkb).kp (s5 _ _ (s4 _ _ eL)) k6
    · rw [take_s hqi, List.map_append, ep, etk]; simp
  · rintro σ' H' ⟨xs, pre, u, v, rfl, s3, eS, eL, tk, ep⟩
    rw [List.length_map, Paired.length hp, List.take_length] at ep
    have l1 := tk.len
    have l2 := congrArg List.length ep
    rw [List.length_map] at l2
    refine ⟨_, rfl, .inl ⟨rfl, _, SqL.of eL⟩, _, rfl, S, _, rfl, .inl (SqL.of eS), by walk_at "le", fun p H4 hp4 s4 e4 => ?_⟩
    refine ⟨_, _, _, rfl, rfl, s4 _ _ eL, by walk_at "lt", fun H5 k5 e5 => ?_⟩
    refine ⟨_, rfl, ?_⟩
    refine q L H5 _ (pre ++ [(tE, ((rows.map V.str).length : Int))]) (sapp (s3.trans s4) hL k5) hL e5 ?_ ?_
    · exact ((tk.same s4).append (.cons ⟨p, _, rfl, e4, .inl ⟨"", rfl, rfl⟩⟩ .nil)).kp (s4 _ _ eL) k5
    · rw [List.map_append, ep]; rfl
end
end WP
namespace WP
open PySem PySem.Spec PyProof.Rows L2 TL
local macro_rules | `(tactic| walk_at "len") => `(tactic| (show _ ≤ sizeLine; rw [sizeLine_eq]; (try simp only [al, lit_len]); (try simp) <;> omega))
local macro_rules | `(tactic| walk_at "lt") => `(tactic| (show _ < sizeLine; rw [sizeLine_eq]; (try simp only [List.length_map, List.length_append, List.length_cons, List.length_nil, List.length_take]); omega))
local macro_rules | `(tactic| walk_at "le") => `(tactic| (show _ ≤ sizeLine; rw [sizeLine_eq]; (try simp only [List.length_map, List.length_append, List.length_cons, List.length_nil, List.length_take]); omega))
local macro_rules | `(tactic| walk_at "now") => `(tactic| first | assumption | (refine (by assumption : Same _ _) _ _ ?_; walk_at "now"))
local macro_rules | `(tactic| walk_at "at") => `(tactic| first | exact at0 | exact at1 | exact at2 | exact at3 | exact at4 | exact at5 | exact at6 | exact at7 | exact at8)
local macro_rules | `(tactic| walk_at "v") => `(tactic| refine ⟨_, rfl, ?_⟩)
local macro_rules | `(tactic| walk_at "ix") => `(tactic| refine ⟨_, _, _, _, rfl, rfl, SqT.of (by walk_at "now"), (by walk_at "at"), ?_⟩)
local macro_rules | `(tactic| walk_at "ixl") => `(tactic| refine ⟨_, _, _, _, rfl, rfl, SqL.of (by walk_at "now"), (by walk_at "at"), ?_⟩)
local macro_rules | `(tactic| walk_at "str") => `(tactic| refine ⟨_, _, rfl, rfl, (by walk_at "len"), ?_⟩)
local macro_rules | `(tactic| walk_at "int") => `(tactic| refine ⟨_, _, rfl, rfl, ?_⟩)
local macro_rules | `(tactic| walk_at "eq") => `(tactic| refine ⟨rfl, _, rfl, ?_⟩)
local macro_rules | `(tactic| walk_at "app") => `(tactic| refine ⟨_, _, _, rfl, rfl, (by walk_at "now"), (by walk_at "lt"), ?_⟩)
local macro_rules | `(tactic| walk_at "ext") => `(tactic| refine ⟨_, _, _, _, rfl, rfl, (by walk_at "now"), (by walk_at "now"), (by walk_at "le"), ?_⟩)
local macro_rules | `(tactic| walk_at "cat") => `(tactic| refine ⟨_, _, _, _, rfl, rfl, (by walk_at "now"), (by walk_at "now"), (by walk_at "le"), ?_⟩)
local macro_rules | `(tactic| walk_at "num") => `(tactic| refine ⟨(by assumption : Nu _), ?_⟩)
local macro_rules | `(tactic| walk_at "ty") => `(tactic| refine ⟨Or.inl ⟨rfl, _, SqL.of (by walk_at "now")⟩, ?_⟩)
local macro_rules | `(tactic| walk_at "un2") => `(tactic| refine ⟨_, _, rfl, SqT.of (by walk_at "now"), rfl, _, _, rfl, _, _, rfl, rfl, ?_⟩)
local macro_rules | `(tactic| walk_at "un3") => `(tactic| refine ⟨_, _, rfl, SqT.of (by walk_at "now"), rfl, _, _, rfl, _, _, rfl, _, _, rfl, rfl, ?_⟩)
local macro_rules | `(tactic| walk_at "un4") => `(tactic| refine ⟨_, _, rfl, SqT.of (by walk_at "now"), rfl, _, _, rfl, _, _, rfl, _, _, rfl, _, _, rfl, rfl, ?_⟩)
local macro_rules | `(tactic| walk_at "un6") => `(tactic| refine ⟨_, _, rfl, SqT.of (by walk_at "now"), rfl, _, _, rfl, _, _, rfl, _, _, rfl, _, _, rfl, _, _, rfl, _, _, rfl, rfl, ?_⟩)
local macro_rules | `(tactic| walk_at "un9") => `(tactic| refine ⟨_, _, rfl, SqT.of (by walk_at "now"), rfl, _, _, rfl, _, _, rfl, _, _, rfl, _, _, rfl, _, _, rfl, _, _, rfl, _, _, rfl, _, _, rfl, _, _, rfl, rfl, ?_⟩)
local macro_rules | `(tactic| walk_at "go") => `(tactic| repeat (first | walk_at "v" | walk_at "eq" | walk_at "ix" | walk_at "str" | walk_at "ty" | walk_at "num"))

/-! ### methods -/
structure HasM (K : PySem.W.Frag) (C : Addr) (m qual : Str) (st : Stmt) (ps : List Str) : Prop where
  ex : ∃ f fd, Fun K m qual st f fd ∧ Meth K C m f ∧ Binds K fd ps []
structure OkM (P : Program) (w : World) (K : PySem.W.Frag) (mg : Str → Option Value) (base : Heap) (C : Addr) (k : Nat) (m : Str) (ps : List Str) (sp : Sp) : Prop where
  ex : ∃ f fd, FnOk P w K mg base CX0 k f fd ps sp ∧ Meth K C m f ∧ Binds K fd ps []
section
variable {P : Program} {w : World} {K : PySem.W.Frag} {mg : Str → Option Value} {base : Heap} {C : Addr}
theorem OkM.mono {j k : Nat} {x : Str} {ps : List Str} {sp : Sp} (o : OkM P w K mg base C j x ps sp) (h : j ≤ k) : OkM P w K mg base C k x ps sp := by
  obtain ⟨f, fd, G, r⟩ := o.ex
  exact ⟨f, fd, G.mono h, r⟩
theorem HasM.ok {m qual : Str} {st : Stmt} {N ps : List Str} {k : Nat} {sp : Sp} (h : HasM K C m qual st ps) (S : FnScope N ps (defScope st)) (len : ∀ vs H Q E, sp vs H Q E → vs.length = ps.length)
    (hbody : ∀ (f : Addr) (cdv : Value) (A : Around) (outer : List Env) (s : Shared) (H : Hp) (vs : List V) (Q : VK) (E : XK), Room k (A.deeper (envOfC qual (defScope st) s.heap.objs.size f cdv)) → sp vs H Q E →
      ∃ t, PSs (cxOf CX0 P w K mg base N qual (defScope st) f cdv A outer s H E).nox (defBody st) t ∧ t { nx := fun _ H' => Q .non H', rt := Q } (start N vs) H) : OkM P w K mg base C (k + 1) m ps sp := by
  obtain ⟨f, fd, F, mt, b⟩ := h.ex
  exact ⟨f, fd, F.ok S len (fun cdv A outer s H vs Q E hr hs => hbody f cdv A outer s H vs Q E hr hs), mt, b⟩
theorem HasM.none {m qual : Str} {st : Stmt} {ps : List Str} {sp : Sp} (h : HasM K C m qual st ps) (no : ∀ vs H Q E, ¬ sp vs H Q E) : OkM P w K mg base C 0 m ps sp := by
  obtain ⟨f, fd, F, mt, b⟩ := h.ex
  exact ⟨f, fd, ⟨fun vs H Q E h => absurd h (no vs H Q E), fun A outer s H args us vs Q E _ _ _ _ h => absurd h (no vs H Q E)⟩, mt, b⟩
end
/-! ### a reader -/
def rf (L : Addr) (i b : Int) : List (Str × V) := [("tokens", .ref L), ("at", .int i), ("blocks", .int b)]
theorem rf_tok {L : Addr} {i b : Int} : (rf L i b).lookup ("tokens" : Str) = some (.ref L) := by
  simp [rf, List.lookup]
theorem rf_at {L : Addr} {i b : Int} : (rf L i b).lookup ("at" : Str) = some (.int i) := by
  have h : ((Str.ofString "at") == (Str.ofString "tokens")) = false := by decide +kernel
  simp [rf, List.lookup, h]
theorem rf_blk {L : Addr} {i b : Int} : (rf L i b).lookup ("blocks" : Str) = some (.int b) := by
  have h : ((Str.ofString "blocks") == (Str.ofString "tokens")) = false := by decide +kernel
  have h2 : ((Str.ofString "blocks") == (Str.ofString "at")) = false := by decide +kernel
  simp [rf, List.lookup, h, h2]
theorem rf_no {L : Addr} {i b : Int} {m : Str} (h : (m == "tokens") = false ∧ (m == "at") = false ∧ (m == "blocks") = false) : (rf L i b).lookup m = none := by
  simp [rf, List.lookup, h.1, h.2.1, h.2.2]
theorem rf_put_at {L : Addr} {i j b : Int} : putF "at" (.int j) (rf L i b) = rf L j b := by
  have h : ¬ (Str.ofString "tokens") = (Str.ofString "at") := by decide +kernel
  show (if (Str.ofString "tokens") = (Str.ofString "at") then _ else _ :: (if (Str.ofString "at") = (Str.ofString "at") then _ else _)) = _
  rw [if_neg h, if_pos rfl]; rfl
theorem rf_put_blk {L : Addr} {i j b : Int} : putF "blocks" (.int j) (rf L i b) = rf L i j := by
  have h : ¬ (Str.ofString "tokens") = (Str.ofString "blocks") := by decide +kernel
  have h2 : ¬ (Str.ofString "at") = (Str.ofString "blocks") := by decide +kernel
  show (if (Str.ofString "tokens") = (Str.ofString "blocks") then _ else _ :: (if (Str.ofString "at") = (Str.ofString "blocks") then _ else _ :: (if (Str.ofString "blocks") = (Str.ofString "blocks") then _ else _))) = _
  rw [if_neg h, if_neg h2, if_pos rfl]; rfl
theorem rf_init {L : Addr} {i b : Int} : putF "blocks" (.int b) (putF "at" (.int i) (putF "tokens" (.ref L) [])) = rf L i b := by
  have h1 : ¬ (Str.ofString "tokens") = (Str.ofString "at") := by decide +kernel
  have h : ¬ (Str.ofString "tokens") = (Str.ofString "blocks") := by decide +kernel
  have h2 : ¬ (Str.ofString "at") = (Str.ofString "blocks") := by decide +kernel
  have e1 : putF "tokens" (.ref L) [] = [(Str.ofString "tokens", V.ref L)] := rfl
  have e2 : putF "at" (.int i) [(Str.ofString "tokens", V.ref L)] = [(Str.ofString "tokens", V.ref L), (Str.ofString "at", V.int i)] := by
    show (if (Str.ofString "tokens") = (Str.ofString "at") then _ else _ :: _) = _
    rw [if_neg h1]; rfl
  rw [e1, e2]
  show (if (Str.ofString "tokens") = (Str.ofString "blocks") then _ else _ :: (if (Str.ofString "at") = (Str.ofString "blocks") then _ else _ :: _)) = _
  rw [if_neg h, if_neg h2]; rfl
def tval (t : Tok) : V := match t.2 with
  | .str s => .str s
  | .int i => .int i
  | _ => .non
/-- what is needed of the class -/
structure Rdr (K : PySem.W.Frag) (mg : Str → Option Value) (C : Addr) : Prop where
  cl : Cls K C
  nT : NoAttr K C "tokens"
  nA : NoAttr K C "at"
  nB : NoAttr K C "blocks"
  mgC : mg "Reader" = some (.ref C)
/-- at r a reader stands, the tokens rest are to come, b blocks are open -/
def Rd' (C : Addr) (r : Addr × Addr) (H : Hp) (rest : List Tok) (b : Nat) : Prop := ∃ (dx : Addr) (xs : List V) (tks : List TL') (i : Nat), H r.1 = some (.ins C dx (rf r.2 (i : Int) (b : Int))) ∧ H r.2 = some (.lst xs) ∧ Toks H xs tks ∧ (tks.drop i).map (·.1) = rest
theorem Rd'.same {C : Addr} {r : Addr × Addr} {H H' : Hp} {rest : List Tok} {b : Nat} (h : Rd' C r H rest b) (s : Same H H') : Rd' C r H' rest b := by
  obtain ⟨dx, xs, tks, i, h1, h2, h3, h4⟩ := h
  exact ⟨dx, xs, tks, i, s _ _ h1, s _ _ h2, h3.same s, h4⟩
theorem Tk1.kp' {H H' : Hp} {x : V} {t : TL'} {r : Addr} {C dx : Addr} {fs : List (Str × V)} (h : Tk1 H x t) (hr : H r = some (.ins C dx fs)) (k : Kp [r] H H') : Tk1 H' x t := by
  obtain ⟨p, v, e, hp, q⟩ := h
  refine ⟨p, v, e, k _ _ (fun z => ?_) hp, q⟩
  have : p = r := by simpa using z
  rw [this, hr] at hp; cases hp
/-- the reader's own dict changes -/
theorem Rd'.put {C dx : Addr} {r : Addr × Addr} {H H' : Hp} {xs : List V} {tks : List TL'} {i b j c : Nat} (h1 : H r.1 = some (.ins C dx (rf r.2 (i : Int) (b : Int)))) (h2 : H r.2 = some (.lst xs)) (h3 : Toks H xs tks) (k : Kp [r.1] H H') (e : H' r.1 = some (.ins C dx (rf r.2 (j : Int) (c : Int)))) {rest : List Tok} (h4 : (tks.drop j).map (·.1) = rest) : Rd' C r H' rest c := by
  refine ⟨dx, xs, tks, j, e, k _ _ (fun z => ?_) h2, Paired.mapP h3 fun _ _ z => z.kp' h1 k, h4⟩
  have : r.2 = r.1 := by simpa using z
  rw [this, h1] at h2; cases h2
theorem Paired.at' {α β : Type} {F : α → β → Prop} : ∀ {xs : List α} {ys : List β} {i : Nat} {y : β}, Paired F xs ys → ys[i]? = some y → ∃ x, xs[i]? = some x ∧ F x y
  | _, _, _, _, .nil, e => by simp at e
  | _, _, 0, _, .cons r _, e => by simp at e; subst e; exact ⟨_, rfl, r⟩
  | _, _, i + 1, x, .cons _ t, e => by
    obtain ⟨u, h1, h2⟩ := Paired.at' (i := i) (y := x) t (by simpa using e)
    exact ⟨u, by simpa using h1, h2⟩
/-- the next token, in the heap -/
theorem Rd'.next {C : Addr} {r : Addr × Addr} {H : Hp} {t : Tok} {rest : List Tok} {b : Nat} (h : Rd' C r H (t :: rest) b) : ∃ (dx : Addr) (xs : List V) (tks : List TL') (i : Nat) (p : Addr) (l : Int), H r.1 = some (.ins C dx (rf r.2 (i : Int) (b : Int))) ∧ H r.2 = some (.lst xs) ∧ Toks H xs tks ∧
    atI xs (i : Int) = some (.ref p) ∧ H p = some (.tup [.str t.1, tval t, .int l]) ∧ (tks.drop (i + 1)).map (·.1) = rest := by
  obtain ⟨dx, xs, tks, i, h1, h2, h3, h4⟩ := h
  cases hd : tks.drop i with
  | nil => rw [hd] at h4; cases h4
  | cons tk tks' =>
    rw [hd] at h4
    obtain ⟨g1, g2⟩ := drop_cons hd
    obtain ⟨x, hx, p, v, rfl, hp, hv⟩ := Paired.at' h3 g1
    have e1 : tk.1 = t := by simp at h4; exact h4.1
    have e2 : tks'.map (·.1) = rest := by simp at h4; simpa using h4.2
    refine ⟨dx, xs, tks, i, p, tk.2, h1, h2, h3, atI_nat hx, ?_, by rw [g2]; exact e2⟩
    rw [← e1]
    have : tval tk.1 = v := by
      unfold tval
      rcases hv with ⟨s, rfl, e⟩ | ⟨j, rfl, e⟩
      · rw [e]
      · rw [e]
    rw [this]; exact hp
def seesB (t : Tok) (s : Str) : Bool := (decide (t.1 = "word") || decide (t.1 = "sign")) && decide (tval t = .str s)
def spPeek (C : Addr) : Sp := fun vs H Q _ => ∃ r t rest b, vs = [.ref r.1] ∧ Rd' C r H (t :: rest) b ∧ Q (tval t) H
def spKind (C : Addr) : Sp := fun vs H Q _ => ∃ r t rest b, vs = [.ref r.1] ∧ Rd' C r H (t :: rest) b ∧ Q (.str t.1) H
def spSees (C : Addr) : Sp := fun vs H Q _ => ∃ r t rest b s, vs = [.ref r.1, .str s] ∧ Rd' C r H (t :: rest) b ∧ (t.1 = "word" ∨ t.1 = "sign" → ∃ x, tval t = .str x) ∧ ∀ H', Same H H' → Q (.bl (seesB t s)) H'
def spSkip (C : Addr) : Sp := fun vs H Q _ => ∃ r t rest b s, vs = [.ref r.1, .str s] ∧ Rd' C r H (t :: rest) b ∧ (t.1 = "word" ∨ t.1 = "sign" → ∃ x, tval t = .str x) ∧
  ∀ H', Kp [r.1] H H' → Rd' C r H' (if seesB t s = true then rest else t :: rest) b → Q (.bl (seesB t s)) H'
def spNeed (C : Addr) : Sp := fun vs H Q _ => ∃ r t rest b s, vs = [.ref r.1, .str s] ∧ Rd' C r H (t :: rest) b ∧ (t.1 = "word" ∨ t.1 = "sign" → ∃ x, tval t = .str x) ∧ seesB t s = true ∧ ∀ H', Kp [r.1] H H' → Rd' C r H' rest b → Q .non H'
def spTake (C : Addr) : Sp := fun vs H Q _ => ∃ r t rest b, vs = [.ref r.1, .str t.1] ∧ Rd' C r H (t :: rest) b ∧ ∀ H', Kp [r.1] H H' → Rd' C r H' rest b → Q (tval t) H'
section
variable {P : Program} {w : World} {K : PySem.W.Frag} {mg : Str → Option Value} {base : Heap} {C : Addr} {k : Nat}
abbrev s_Reader_peek : Stmt := inClass (top 24) 1
abbrev n_Reader_peek : List Str := ["self"]
theorem sc_Reader_peek : FnScope n_Reader_peek ["self"] (defScope s_Reader_peek) := ⟨rfl, rfl, rfl, by decide +kernel, rfl, by decide +kernel, by decide +kernel⟩
/- slots: 0 self -/
theorem ok_peek (T : Rdr K mg C) (h : HasM K C "peek" "Reader.peek" s_Reader_peek ["self"]) : OkM P w K mg base C (k + 1) "peek" ["self"] (spPeek C) := by
  refine h.ok sc_Reader_peek (fun vs H Q E h => ?_) (fun f0 cdv A outer s H vs Q E hr h => ?_)
  · obtain ⟨_, _, _, _, rfl, _⟩ := h; rfl
  obtain ⟨r, t, rest, b, rfl, hR, q⟩ := h
  obtain ⟨dx, xs, tks, i, p, l, h1, h2, h3, h4, h5, h6⟩ := hR.next
  refine ⟨_, (pss_one (ps_ret (pe_ix ix_tup (pe_ix ix_list (pe_fld (pv 0) rfl) (pe_fld (pv 0) rfl) (fun _ _ => rfl)) pe_int (fun _ _ => rfl)))), ?_⟩
  refine ⟨_, rfl, r.1, C, dx, _, _, rfl, h1, T.cl, T.nT, rf_tok, _, rfl, r.1, C, dx, _, _, rfl, h1, T.cl, T.nA, rf_at, r.2, xs, _, _, rfl, rfl, SqL.of h2, h4, p, _, _, _, rfl, rfl, SqT.of h5, at1, q⟩
abbrev s_Reader_kind : Stmt := inClass (top 24) 2
abbrev n_Reader_kind : List Str := ["self"]
theorem sc_Reader_kind : FnScope n_Reader_kind ["self"] (defScope s_Reader_kind) := ⟨rfl, rfl, rfl, by decide +kernel, rfl, by decide +kernel, by decide +kernel⟩
/- slots: 0 self -/
theorem ok_kind (T : Rdr K mg C) (h : HasM K C "kind" "Reader.kind" s_Reader_kind ["self"]) : OkM P w K mg base C (k + 1) "kind" ["self"] (spKind C) := by
  refine h.ok sc_Reader_kind (fun vs H Q E h => ?_) (fun f0 cdv A outer s H vs Q E hr h => ?_)
  · obtain ⟨_, _, _, _, rfl, _⟩ := h; rfl
  obtain ⟨r, t, rest, b, rfl, hR, q⟩ := h
  obtain ⟨dx, xs, tks, i, p, l, h1, h2, h3, h4, h5, h6⟩ := hR.next
  refine ⟨_, (pss_one (ps_ret (pe_ix ix_tup (pe_ix ix_list (pe_fld (pv 0) rfl) (pe_fld (pv 0) rfl) (fun _ _ => rfl)) pe_int (fun _ _ => rfl)))), ?_⟩
  refine ⟨_, rfl, r.1, C, dx, _, _, rfl, h1, T.cl, T.nT, rf_tok, _, rfl, r.1, C, dx, _, _, rfl, h1, T.cl, T.nA, rf_at, r.2, xs, _, _, rfl, rfl, SqL.of h2, h4, p, _, _, _, rfl, rfl, SqT.of h5, at0, q⟩
theorem rno (m : Str) (h : ((m == "tokens") || (m == "at") || (m == "blocks")) = false) {L : Addr} {i b : Int} : (rf L i b).lookup m = none := by
  simp only [Bool.or_eq_false_iff] at h
  exact rf_no ⟨h.1.1, h.1.2, h.2⟩
abbrev s_Reader_sees : Stmt := inClass (top 24) 4
abbrev n_Reader_sees : List Str := ["self", "value"]
theorem sc_Reader_sees : FnScope n_Reader_sees ["self", "value"] (defScope s_Reader_sees) := ⟨rfl, rfl, rfl, by decide +kernel, rfl, by decide +kernel, by decide +kernel⟩
/- slots: 0 self, 1 value -/
theorem ok_sees (T : Rdr K mg C) (h : HasM K C "sees" "Reader.sees" s_Reader_sees ["self", "value"]) (c1 : OkM P w K mg base C k "kind" ["self"] (spKind C)) (c2 : OkM P w K mg base C k "peek" ["self"] (spPeek C)) :
    OkM P w K mg base C (k + 1) "sees" ["self", "value"] (spSees C) := by
  obtain ⟨_, _, G_kind, mt_kind, b_kind⟩ := c1.ex
  obtain ⟨_, _, G_peek, mt_peek, b_peek⟩ := c2.ex
  have c_Reader := T.cl
  refine h.ok sc_Reader_sees (fun vs H Q E h => ?_) (fun f0 cdv A outer s H vs Q E hr h => ?_)
  · obtain ⟨_, _, _, _, _, rfl, _⟩ := h; rfl
  obtain ⟨r, t, rest, b, x, rfl, hR, hx, q⟩ := h
  obtain ⟨dx, xs, tks, i, p, l, h1, h2, h3, h4, h5, h6⟩ := hR.next
  refine ⟨_, (pss_one (ps_ret (pe_and (pe_cmpR op_in_seq (pe_meth0 (pv 0) c_Reader mt_kind G_kind hr b_kind .nil pass0) (pe_tupS (pa_cons pe_str (pa_cons pe_str pa_nil))) (by with_unfolding_all rfl)) (pe_one (pe_cmpR op_eq (pe_meth0 (pv 0) c_Reader mt_peek G_peek hr b_peek .nil pass0) (pv 1) (nomark _)))))), ?_⟩
  refine ⟨_, rfl, r.1, dx, _, rfl, h1, rno _ (by decide +kernel), r, t, rest, b, rfl, hR, ?_⟩
  refine ⟨by walk_at "le", fun p1 H1 hp1 s1 e1 => ?_⟩
  refine ⟨_, _, rfl, .inr (SqT.of e1), rfl, rfl, _, rfl, ?_⟩
  have ei : inV (.str t.1) [.str "word", .str "sign"] = (decide (t.1 = "word") || decide (t.1 = "sign")) := by
    show inV (.str t.1) ((["word", "sign"] : List Str).map V.str) = _
    rw [inV_res]; simp
  show if (inV (.str t.1) [.str "word", .str "sign"]) = true then _ else _
  rw [ei]
  refine ite2 (fun hk => ?_) (fun hk => ?_)
  · refine ⟨_, rfl, r.1, dx, _, rfl, s1 _ _ h1, rno _ (by decide +kernel), r, t, rest, b, rfl, hR.same s1, ?_⟩
    obtain ⟨y, ey⟩ := hx (by simpa using hk)
    refine ⟨_, rfl, by rw [ey]; rfl, ?_⟩
    have : seesB t x = decide (tval t = .str x) := by unfold seesB; rw [hk]; rfl
    rw [← this]
    exact q _ s1
  · have : seesB t x = false := by unfold seesB; rw [Bool.eq_false_iff.mpr hk]; rfl
    rw [← this]
    exact q _ s1
abbrev s_Reader_skip : Stmt := inClass (top 24) 5
abbrev n_Reader_skip : List Str := ["self", "value"]
theorem sc_Reader_skip : FnScope n_Reader_skip ["self", "value"] (defScope s_Reader_skip) := ⟨rfl, rfl, rfl, by decide +kernel, rfl, by decide +kernel, by decide +kernel⟩
/- slots: 0 self, 1 value -/
theorem ok_skip (T : Rdr K mg C) (h : HasM K C "skip" "Reader.skip" s_Reader_skip ["self", "value"]) (c1 : OkM P w K mg base C k "sees" ["self", "value"] (spSees C)) :
    OkM P w K mg base C (k + 1) "skip" ["self", "value"] (spSkip C) := by
  obtain ⟨_, _, G_sees, mt_sees, b_sees⟩ := c1.ex
  have c_Reader := T.cl
  refine h.ok sc_Reader_skip (fun vs H Q E h => ?_) (fun f0 cdv A outer s H vs Q E hr h => ?_)
  · obtain ⟨_, _, _, _, _, rfl, _⟩ := h; rfl
  obtain ⟨r, t, rest, b, x, rfl, hR, hx, q⟩ := h
  obtain ⟨dx, xs, tks, i, p, l, h1, h2, h3, h4, h5, h6⟩ := hR.next
  refine ⟨_, (pss_cons (ps_if (pt_not (pt_val (pe_meth (pv 0) c_Reader mt_sees G_sees hr b_sees .nil pass0 (pa_cons (pv 1) pa_nil)))) (pss_one (ps_ret pe_bl)) pss_nil)
    (pss_cons (ps_fld (pv 0) (pe_op op_add (pe_fld (pv 0) rfl) pe_int) rfl)
    (pss_one (ps_ret pe_bl)))), ?_⟩
  refine ⟨_, rfl, r.1, dx, _, rfl, h1, rno _ (by decide +kernel), _, rfl, r, t, rest, b, x, rfl, hR, hx, fun H1 s1 => ⟨_, rfl, ?_⟩⟩
  cases hs : seesB t x with
  | false =>
    rw [hs] at q
    exact q _ (Kp.same s1) (hR.same s1)
  | true =>
    rw [hs] at q
    refine iteF ?_
    refine ⟨_, rfl, r.1, C, dx, _, _, rfl, s1 _ _ h1, T.cl, T.nA, rf_at, _, _, rfl, rfl, _, rfl, r.1, C, dx, _, rfl, s1 _ _ h1, T.cl, T.nA, by show 3 < 1000; decide, ?_⟩
    rw [rf_put_at]
    have k1 : Kp [r.1] H1 (upd H1 r.1 (.ins C dx (rf r.2 ((i : Int) + 1) (b : Int)))) := Kp.wr (by simp)
    exact q _ ((Kp.same s1).trans k1) (Rd'.put (j := i + 1) (s1 _ _ h1) (s1 _ _ h2) (h3.same s1) k1 upd_same h6)
abbrev s_Reader_need : Stmt := inClass (top 24) 6
abbrev n_Reader_need : List Str := ["self", "value"]
theorem sc_Reader_need : FnScope n_Reader_need ["self", "value"] (defScope s_Reader_need) := ⟨rfl, rfl, rfl, by decide +kernel, rfl, by decide +kernel, by decide +kernel⟩
/- slots: 0 self, 1 value -/
theorem ok_need (T : Rdr K mg C) (h : HasM K C "need" "Reader.need" s_Reader_need ["self", "value"]) (c1 : OkM P w K mg base C k "skip" ["self", "value"] (spSkip C)) (c2 : OkM P w K mg base C k "fail" ["self"] spNo) :
    OkM P w K mg base C (k + 1) "need" ["self", "value"] (spNeed C) := by
  obtain ⟨_, _, G_skip, mt_skip, b_skip⟩ := c1.ex
  obtain ⟨_, _, G_fail, mt_fail, b_fail⟩ := c2.ex
  have c_Reader := T.cl
  refine h.ok sc_Reader_need (fun vs H Q E h => ?_) (fun f0 cdv A outer s H vs Q E hr h => ?_)
  · obtain ⟨_, _, _, _, _, rfl, _⟩ := h; rfl
  obtain ⟨r, t, rest, b, x, rfl, hR, hx, hs, q⟩ := h
  obtain ⟨dx, xs, tks, i, p, l, h1, h2, h3, h4, h5, h6⟩ := hR.next
  refine ⟨_, (pss_one (ps_if (pt_not (pt_val (pe_meth (pv 0) c_Reader mt_skip G_skip hr b_skip .nil pass0 (pa_cons (pv 1) pa_nil)))) (pss_one (ps_expr (pe_meth0 (pv 0) c_Reader mt_fail G_fail hr b_fail .nil pass0))) pss_nil)), ?_⟩
  refine ⟨_, rfl, r.1, dx, _, rfl, h1, rno _ (by decide +kernel), _, rfl, r, t, rest, b, x, rfl, hR, hx, fun H1 k1 hR1 => ⟨_, rfl, ?_⟩⟩
  rw [hs] at hR1 ⊢
  exact q _ k1 hR1
abbrev s_Reader_take : Stmt := inClass (top 24) 7
abbrev n_Reader_take : List Str := ["self", "kind"]
theorem sc_Reader_take : FnScope n_Reader_take ["self", "kind"] (defScope s_Reader_take) := ⟨rfl, rfl, rfl, by decide +kernel, rfl, by decide +kernel, by decide +kernel⟩
/- slots: 0 self, 1 kind -/
theorem ok_take (T : Rdr K mg C) (h : HasM K C "take" "Reader.take" s_Reader_take ["self", "kind"]) (c1 : OkM P w K mg base C k "kind" ["self"] (spKind C)) (c2 : OkM P w K mg base C k "fail" ["self"] spNo) :
    OkM P w K mg base C (k + 1) "take" ["self", "kind"] (spTake C) := by
  obtain ⟨_, _, G_kind, mt_kind, b_kind⟩ := c1.ex
  obtain ⟨_, _, G_fail, mt_fail, b_fail⟩ := c2.ex
  have c_Reader := T.cl
  refine h.ok sc_Reader_take (fun vs H Q E h => ?_) (fun f0 cdv A outer s H vs Q E hr h => ?_)
  · obtain ⟨_, _, _, _, rfl, _⟩ := h; rfl
  obtain ⟨r, t, rest, b, rfl, hR, q⟩ := h
  obtain ⟨dx, xs, tks, i, p, l, h1, h2, h3, h4, h5, h6⟩ := hR.next
  refine ⟨_, (Evl.pss_cut (ps_if (pt_cmpR op_ne (pe_meth0 (pv 0) c_Reader mt_kind G_kind hr b_kind .nil pass0) (pv 1) (nomark _)) (pss_one (ps_expr (pe_meth0 (pv 0) c_Reader mt_fail G_fail hr b_fail .nil pass0))) pss_nil)
    (pss_cons (ps_fld (pv 0) (pe_op op_add (pe_fld (pv 0) rfl) pe_int) rfl)
    (pss_one (ps_ret (pe_ix ix_tup (pe_ix ix_list (pe_fld (pv 0) rfl) (pe_op op_sub (pe_fld (pv 0) rfl) pe_int) (fun _ _ => rfl)) pe_int (fun _ _ => rfl)))))), ?_⟩
  refine ⟨fun σ' H' => σ' = [some (.ref r.1), some (.str t.1)] ∧ H' = H, ?_, ?_⟩
  · refine ⟨_, rfl, r.1, dx, _, rfl, h1, rno _ (by decide +kernel), r, t, rest, b, rfl, hR, ?_⟩
    refine ⟨_, rfl, rfl, _, rfl, ?_⟩
    exact iteNE rfl ⟨rfl, rfl⟩
  rintro σ' H' ⟨rfl, rfl⟩
  refine ⟨_, rfl, r.1, C, dx, _, _, rfl, h1, T.cl, T.nA, rf_at, _, _, rfl, rfl, _, rfl, r.1, C, dx, _, rfl, h1, T.cl, T.nA, by show 3 < 1000; decide, ?_⟩
  rw [rf_put_at]
  have k1 : Kp [r.1] H' (upd H' r.1 (.ins C dx (rf r.2 ((i : Int) + 1) (b : Int)))) := Kp.wr (by simp)
  have hLr : r.2 ≠ r.1 := fun e => by rw [e, h1] at h2; cases h2
  have hpr : p ≠ r.1 := fun e => by rw [e, h1] at h5; cases h5
  refine ⟨_, rfl, r.1, C, dx, _, _, rfl, upd_same, T.cl, T.nT, rf_tok, _, rfl, r.1, C, dx, _, _, rfl, upd_same, T.cl, T.nA, rf_at, _, _, rfl, rfl, r.2, xs, _, _, rfl, rfl, SqL.of (by rw [upd_ne hLr]; exact h2), ?_, p, _, _, _, rfl, rfl, SqT.of (by rw [upd_ne hpr]; exact h5), at1, ?_⟩
  · rw [show (i : Int) + 1 - 1 = (i : Int) from by omega]; exact h4
  · exact q _ k1 (Rd'.put (j := i + 1) h1 h2 h3 k1 upd_same h6)
end
end WP
namespace WP
open PySem PySem.Spec PyProof.Rows L2 TL
local macro_rules | `(tactic| walk_at "len") => `(tactic| (show _ ≤ sizeLine; rw [sizeLine_eq]; (try simp only [al, lit_len]); (try simp) <;> omega))
local macro_rules | `(tactic| walk_at "lt") => `(tactic| (show _ < sizeLine; rw [sizeLine_eq]; (try simp only [List.length_map, List.length_append, List.length_cons, List.length_nil, List.length_take]); omega))
local macro_rules | `(tactic| walk_at "le") => `(tactic| (show _ ≤ sizeLine; rw [sizeLine_eq]; (try simp only [List.length_map, List.length_append, List.length_cons, List.length_nil, List.length_take]); omega))
local macro_rules | `(tactic| walk_at "now") => `(tactic| first | assumption | (refine (by assumption : Same _ _) _ _ ?_; walk_at "now"))
local macro_rules | `(tactic| walk_at "at") => `(tactic| first | exact at0 | exact at1 | exact at2 | exact at3 | exact at4 | exact at5 | exact at6 | exact at7 | exact at8)
local macro_rules | `(tactic| walk_at "v") => `(tactic| refine ⟨_, rfl, ?_⟩)
local macro_rules | `(tactic| walk_at "ix") => `(tactic| refine ⟨_, _, _, _, rfl, rfl, SqT.of (by walk_at "now"), (by walk_at "at"), ?_⟩)
local macro_rules | `(tactic| walk_at "ixl") => `(tactic| refine ⟨_, _, _, _, rfl, rfl, SqL.of (by walk_at "now"), (by walk_at "at"), ?_⟩)
local macro_rules | `(tactic| walk_at "str") => `(tactic| refine ⟨_, _, rfl, rfl, (by walk_at "len"), ?_⟩)
local macro_rules | `(tactic| walk_at "int") => `(tactic| refine ⟨_, _, rfl, rfl, ?_⟩)
local macro_rules | `(tactic| walk_at "eq") => `(tactic| refine ⟨rfl, _, rfl, ?_⟩)
local macro_rules | `(tactic| walk_at "app") => `(tactic| refine ⟨_, _, _, rfl, rfl, (by walk_at "now"), (by walk_at "lt"), ?_⟩)
local macro_rules | `(tactic| walk_at "ext") => `(tactic| refine ⟨_, _, _, _, rfl, rfl, (by walk_at "now"), (by walk_at "now"), (by walk_at "le"), ?_⟩)
local macro_rules | `(tactic| walk_at "cat") => `(tactic| refine ⟨_, _, _, _, rfl, rfl, (by walk_at "now"), (by walk_at "now"), (by walk_at "le"), ?_⟩)
local macro_rules | `(tactic| walk_at "num") => `(tactic| refine ⟨(by assumption : Nu _), ?_⟩)
local macro_rules | `(tactic| walk_at "ty") => `(tactic| refine ⟨Or.inl ⟨rfl, _, SqL.of (by walk_at "now")⟩, ?_⟩)
local macro_rules | `(tactic| walk_at "un2") => `(tactic| refine ⟨_, _, rfl, SqT.of (by walk_at "now"), rfl, _, _, rfl, _, _, rfl, rfl, ?_⟩)
local macro_rules | `(tactic| walk_at "un3") => `(tactic| refine ⟨_, _, rfl, SqT.of (by walk_at "now"), rfl, _, _, rfl, _, _, rfl, _, _, rfl, rfl, ?_⟩)
local macro_rules | `(tactic| walk_at "un4") => `(tactic| refine ⟨_, _, rfl, SqT.of (by walk_at "now"), rfl, _, _, rfl, _, _, rfl, _, _, rfl, _, _, rfl, rfl, ?_⟩)
local macro_rules | `(tactic| walk_at "un6") => `(tactic| refine ⟨_, _, rfl, SqT.of (by walk_at "now"), rfl, _, _, rfl, _, _, rfl, _, _, rfl, _, _, rfl, _, _, rfl, _, _, rfl, rfl, ?_⟩)
local macro_rules | `(tactic| walk_at "un9") => `(tactic| refine ⟨_, _, rfl, SqT.of (by walk_at "now"), rfl, _, _, rfl, _, _, rfl, _, _, rfl, _, _, rfl, _, _, rfl, _, _, rfl, _, _, rfl, _, _, rfl, _, _, rfl, rfl, ?_⟩)
local macro_rules | `(tactic| walk_at "go") => `(tactic| repeat (first | walk_at "v" | walk_at "eq" | walk_at "ix" | walk_at "str" | walk_at "ty" | walk_at "num"))

/-! ### new data -/
/-- what stands in H' where H has nothing -/
def Nw (H H' : Hp) : Hp := fun b => if (H b).isSome = true then none else H' b
theorem nw_some {H H' : Hp} {b : Addr} {o : HO} (h : Nw H H' b = some o) : H b = none ∧ H' b = some o := by
  unfold Nw at h
  cases e : H b with
  | none => rw [e] at h; exact ⟨rfl, h⟩
  | some u => rw [e] at h; cases h
theorem nw_of {H H' : Hp} {b : Addr} {o : HO} (h : H b = none) (h' : H' b = some o) : Nw H H' b = some o := by unfold Nw; rw [h]; exact h'
/-- the domain grows -/
def Dm (H H' : Hp) : Prop := ∀ b, H' b = none → H b = none
theorem Dm.trans {H H1 H2 : Hp} (a : Dm H H1) (b : Dm H1 H2) : Dm H H2 := fun c h => a c (b c h)
theorem Same.dm {H H' : Hp} (s : Same H H') : Dm H H' := fun _ h => s.free h
theorem Dm.refl {H : Hp} : Dm H H := fun _ h => h
theorem Kp.dm1 {H H' : Hp} {r : Addr} {o : HO} (k : Kp [r] H H') (h : H' r = some o) : Dm H H' := fun b e => k.free e (fun z => by
  have : b = r := by simpa using z
  rw [this, h] at e; cases e)
theorem nw0 {H0 H H' : Hp} (d : Dm H0 H) : Same (Nw H H') (Nw H0 H') := fun b o e => by
  obtain ⟨h1, h2⟩ := nw_some e
  exact nw_of (d b h1) h2
theorem nw1 {H H' H2 : Hp} {M : List Addr} (k : Kp M H' H2) (h : ∀ b ∈ M, H b ≠ none) : Same (Nw H H') (Nw H H2) := fun b o e => by
  obtain ⟨h1, h2⟩ := nw_some e
  exact nw_of h1 (k b o (fun z => h b z h1) h2)
theorem nws {H H' H2 : Hp} (s : Same H' H2) : Same (Nw H H') (Nw H H2) := fun b o e => by
  obtain ⟨h1, h2⟩ := nw_some e
  exact nw_of h1 (s b o h2)
theorem nw_le {H H' : Hp} : Same (Nw H H') H' := fun b o e => (nw_some e).2
theorem nw_out {H H' : Hp} {M : List Addr} (h : ∀ b ∈ M, H b ≠ none) : Same (Nw H H') (Out M H') := fun b o e => by
  obtain ⟨h1, h2⟩ := nw_some e
  rw [out_of (fun z => h b z h1)]; exact h2
theorem out_mono {M : List Addr} {H H' : Hp} (s : Same H H') : Same (Out M H) (Out M H') := fun b o e => by
  obtain ⟨n, e⟩ := out_some e
  rw [out_of n]; exact s _ _ e
def sl_tupR : V → Option Int → Option Int → Hp → VK → Prop := fun x lo hi H Q => ∃ a xs, x = .ref a ∧ H a = some (.tup xs) ∧
  ¬ (HT.sIx xs.length 0 lo = 0 ∧ HT.sIx xs.length xs.length hi = xs.length) ∧ ∀ p H2, H p = none → Same H H2 → H2 p = some (.tup (cutV xs lo hi)) → Q (.ref p) H2
theorem sl_tupS {X : Cx} : SlR X sl_tupR := by
  intro pins s σ H x v sl vl vu lo hi Q I rx h1 h2 h3 h
  obtain ⟨a, xs, e1, h4, h5, q⟩ := h
  exact sl_tup pins s σ H x v sl vl vu lo hi Q I rx h1 h2 h3 ⟨a, xs, e1, SqT.of h4, h5, fun p hp => q p _ hp (Same.new hp) upd_same⟩
/-! ### the reader's methods, as steps -/
structure RM (P : Program) (w : World) (K : PySem.W.Frag) (mg : Str → Option Value) (base : Heap) (C : Addr) (k : Nat) : Prop where
  T : Rdr K mg C
  skip : OkM P w K mg base C k "skip" ["self", "value"] (spSkip C)
  need : OkM P w K mg base C k "need" ["self", "value"] (spNeed C)
  take : OkM P w K mg base C k "take" ["self", "kind"] (spTake C)
  kind : OkM P w K mg base C k "kind" ["self"] (spKind C)
  sees : OkM P w K mg base C k "sees" ["self", "value"] (spSees C)
  fail : OkM P w K mg base C k "fail" ["self"] spNo
theorem RM.mono {P : Program} {w : World} {K : PySem.W.Frag} {mg : Str → Option Value} {base : Heap} {C : Addr} {j k : Nat} (R : RM P w K mg base C j) (h : j ≤ k) : RM P w K mg base C k :=
  ⟨R.T, R.skip.mono h, R.need.mono h, R.take.mono h, R.kind.mono h, R.sees.mono h, R.fail.mono h⟩
def TokOk (t : Tok) : Prop := t.1 = "word" ∨ t.1 = "sign" → ∃ x, tval t = .str x
theorem okU (n : Int) : TokOk (tU n) := fun h => by
  have h1 : ¬ (Str.ofString "number") = (Str.ofString "word") := by decide +kernel
  have h2 : ¬ (Str.ofString "number") = (Str.ofString "sign") := by decide +kernel
  rcases h with h | h
  · exact absurd h h1
  · exact absurd h h2
theorem seesN (a s : Str) : seesB (tN a) s = false := by
  have h1 : ¬ (Str.ofString "name") = (Str.ofString "word") := by decide +kernel
  have h2 : ¬ (Str.ofString "name") = (Str.ofString "sign") := by decide +kernel
  simp [seesB, h1, h2]
theorem seesU (n : Int) (s : Str) : seesB (tU n) s = false := by
  have h1 : ¬ (Str.ofString "number") = (Str.ofString "word") := by decide +kernel
  have h2 : ¬ (Str.ofString "number") = (Str.ofString "sign") := by decide +kernel
  simp [seesB, h1, h2]
theorem seesE (s : Str) : seesB tE s = false := by
  have h1 : ¬ (Str.ofString "end") = (Str.ofString "word") := by decide +kernel
  have h2 : ¬ (Str.ofString "end") = (Str.ofString "sign") := by decide +kernel
  simp [seesB, h1, h2]
theorem seesW (a s : Str) : seesB (tW a) s = decide (a = s) := by
  simp [seesB, tval]
theorem seesS (a s : Str) : seesB (tS a) s = decide (a = s) := by
  have h1 : ¬ (Str.ofString "sign") = (Str.ofString "word") := by decide +kernel
  simp [seesB, tval, h1]
section
variable {C : Addr} {r : Addr × Addr} {σ : L2.St} {H : Hp} {Q : VK} {t : Tok} {rest : List Tok} {b : Nat} {s : Str} {i jj : Nat}
theorem r_need (hσ : σ[jj]? = some (some (.ref r.1))) (hR : Rd' C r H (t :: rest) b) (k : ∀ H', Kp [r.1] H H' → Rd' C r H' rest b → Q .non H') (hs : seesB t s = true := by first | decide +kernel | (rw [seesS]; exact decide_eq_true rfl) | (rw [seesW]; exact decide_eq_true rfl)) (ok : TokOk t := by first | exact fun _ => ⟨_, rfl⟩ | exact okU _) :
    tMeth C "need" (spNeed C) [] E0 (tVar jj) (tCons (tC (.str s)) tNil) σ H Q := by
  obtain ⟨dx, xs, tks, i, h1, _⟩ := id hR
  exact ⟨_, hσ, r.1, dx, _, rfl, h1, rno _ (by decide +kernel), r, t, rest, b, s, rfl, hR, ok, hs, k⟩
theorem r_skipY (hσ : σ[jj]? = some (some (.ref r.1))) (hR : Rd' C r H (t :: rest) b) (k : ∀ H', Kp [r.1] H H' → Rd' C r H' rest b → Q (.bl true) H') (hs : seesB t s = true := by first | decide +kernel | (rw [seesS]; exact decide_eq_true rfl) | (rw [seesW]; exact decide_eq_true rfl)) (ok : TokOk t := by first | exact fun _ => ⟨_, rfl⟩ | exact okU _) :
    tMeth C "skip" (spSkip C) [] E0 (tVar jj) (tCons (tC (.str s)) tNil) σ H Q := by
  obtain ⟨dx, xs, tks, i, h1, _⟩ := id hR
  refine ⟨_, hσ, r.1, dx, _, rfl, h1, rno _ (by decide +kernel), r, t, rest, b, s, rfl, hR, ok, fun H' k' hR' => ?_⟩
  rw [hs] at hR' ⊢
  exact k H' k' hR'
theorem r_skipN (hσ : σ[jj]? = some (some (.ref r.1))) (hR : Rd' C r H (t :: rest) b) (k : ∀ H', Kp [r.1] H H' → Rd' C r H' (t :: rest) b → Q (.bl false) H') (hs : seesB t s = false := by first | exact seesN _ _ | exact seesU _ _ | exact seesE _ | decide +kernel) (ok : TokOk t := by first | exact fun _ => ⟨_, rfl⟩ | exact okU _) :
    tMeth C "skip" (spSkip C) [] E0 (tVar jj) (tCons (tC (.str s)) tNil) σ H Q := by
  obtain ⟨dx, xs, tks, i, h1, _⟩ := id hR
  refine ⟨_, hσ, r.1, dx, _, rfl, h1, rno _ (by decide +kernel), r, t, rest, b, s, rfl, hR, ok, fun H' k' hR' => ?_⟩
  rw [hs] at hR' ⊢
  exact k H' k' hR'
/-- skip of a value in a slot -/
theorem r_skipV (hσ : σ[jj]? = some (some (.ref r.1))) (hi : σ[i]? = some (some (.str s))) (hR : Rd' C r H (t :: rest) b) (k : ∀ H', Kp [r.1] H H' → Rd' C r H' (if seesB t s = true then rest else t :: rest) b → Q (.bl (seesB t s)) H') (ok : TokOk t := by first | exact fun _ => ⟨_, rfl⟩ | exact okU _) :
    tMeth C "skip" (spSkip C) [] E0 (tVar jj) (tCons (tVar i) tNil) σ H Q := by
  obtain ⟨dx, xs, tks, j, h1, _⟩ := id hR
  exact ⟨_, hσ, r.1, dx, _, rfl, h1, rno _ (by decide +kernel), _, hi, r, t, rest, b, s, rfl, hR, ok, k⟩
theorem r_take (hσ : σ[jj]? = some (some (.ref r.1))) (hR : Rd' C r H (t :: rest) b) (hk : t.1 = s) (k : ∀ H', Kp [r.1] H H' → Rd' C r H' rest b → Q (tval t) H') :
    tMeth C "take" (spTake C) [] E0 (tVar jj) (tCons (tC (.str s)) tNil) σ H Q := by
  subst hk
  obtain ⟨dx, xs, tks, i, h1, _⟩ := id hR
  exact ⟨_, hσ, r.1, dx, _, rfl, h1, rno _ (by decide +kernel), r, t, rest, b, rfl, hR, k⟩
theorem r_kind (hσ : σ[jj]? = some (some (.ref r.1))) (hR : Rd' C r H (t :: rest) b) (k : Q (.str t.1) H) : tMeth C "kind" (spKind C) [] E0 (tVar jj) tNil σ H Q := by
  obtain ⟨dx, xs, tks, i, h1, _⟩ := id hR
  exact ⟨_, hσ, r.1, dx, _, rfl, h1, rno _ (by decide +kernel), r, t, rest, b, rfl, hR, k⟩
theorem r_sees (hσ : σ[jj]? = some (some (.ref r.1))) (hR : Rd' C r H (t :: rest) b) (k : ∀ H', Same H H' → Q (.bl (seesB t s)) H') (ok : TokOk t := by first | exact fun _ => ⟨_, rfl⟩ | exact okU _) :
    tMeth C "sees" (spSees C) [] E0 (tVar jj) (tCons (tC (.str s)) tNil) σ H Q := by
  obtain ⟨dx, xs, tks, i, h1, _⟩ := id hR
  exact ⟨_, hσ, r.1, dx, _, rfl, h1, rno _ (by decide +kernel), r, t, rest, b, s, rfl, hR, ok, k⟩
end
theorem Rd'.obj {C : Addr} {r : Addr × Addr} {H : Hp} {rest : List Tok} {b : Nat} (h : Rd' C r H rest b) : ∃ o, H r.1 = some o := by
  obtain ⟨dx, xs, tks, i, h1, _⟩ := h
  exact ⟨_, h1⟩
theorem Rd'.dm {C : Addr} {r : Addr × Addr} {H H' : Hp} {rest : List Tok} {b : Nat} (h : Rd' C r H' rest b) (k : Kp [r.1] H H') : Dm H H' := by
  obtain ⟨o, e⟩ := h.obj
  exact k.dm1 e
theorem Rd'.ne {C : Addr} {r : Addr × Addr} {H : Hp} {rest : List Tok} {b : Nat} (h : Rd' C r H rest b) : ∀ c ∈ [r.1], H c ≠ none := fun c hc e => by
  have : c = r.1 := by simpa using hc
  obtain ⟨o, e2⟩ := h.obj
  rw [this, e2] at e; cases e
/-- a tuple made just now -/
theorem at_tup {H H1 H2 : Hp} {p : Addr} {vs : List V} {ds : List PyData} (d : Dm H H1) (hp : H1 p = none) (e : H2 p = some (.tup vs)) (k : AtL (Nw H H2) vs ds) : At (Nw H H2) (.ref p) (.tuple ds) := .tup (nw_of (d p hp) e) k
/-- the token behind the next one -/
theorem Rd'.two {C : Addr} {r : Addr × Addr} {H : Hp} {t u : Tok} {rest : List Tok} {b : Nat} (h : Rd' C r H (t :: u :: rest) b) : ∃ (dx : Addr) (xs : List V) (i : Nat) (p : Addr) (l : Int), H r.1 = some (.ins C dx (rf r.2 (i : Int) (b : Int))) ∧ H r.2 = some (.lst xs) ∧
    atI xs ((i : Int) + 1) = some (.ref p) ∧ H p = some (.tup [.str u.1, tval u, .int l]) := by
  obtain ⟨dx, xs, tks, i, h1, h2, h3, h4⟩ := h
  cases hd : tks.drop i with
  | nil => rw [hd] at h4; cases h4
  | cons tk tks' =>
    rw [hd] at h4
    obtain ⟨g1, g2⟩ := drop_cons hd
    have e2 : tks'.map (·.1) = u :: rest := by simp at h4; simpa using h4.2
    cases tks' with
    | nil => cases e2
    | cons tk2 tks' =>
      obtain ⟨g3, g4⟩ := drop_cons g2
      obtain ⟨x, hx, p, v, rfl, hp, hv⟩ := Paired.at' h3 g3
      have e1 : tk2.1 = u := by simp at e2; exact e2.1
      refine ⟨dx, xs, i, p, tk2.2, h1, h2, atI_nat (j := i + 1) hx, ?_⟩
      rw [← e1]
      have : tval tk2.1 = v := by
        unfold tval
        rcases hv with ⟨s, rfl, e⟩ | ⟨j, rfl, e⟩
        · rw [e]
        · rw [e]
      rw [this]; exact hp
theorem atom_val {H : Hp} {t : Tok} (h : Atom t.2) : At H (tval t) t.2 := by
  unfold tval
  rcases h with ⟨s, e⟩ | ⟨i, e⟩
  · rw [e]; exact .str s
  · rw [e]; exact .int i
theorem eqv_dot {x : Str} (h : x ≠ ".") : PyData.eqv (.tuple [.str "sign", .str x]) (.tuple [.str "sign", .str "."]) = false := by
  simp only [PyData.eqv, PyData.eqvAll]
  simp [h]
theorem kne1 : V.str "name" ≠ V.str "number" := by decide +kernel
theorem kne2 : V.str "word" ≠ V.str "number" := by decide +kernel
theorem kne3 : V.str "word" ≠ V.str "name" := by decide +kernel
theorem three_cut {a b c : V} : ¬ (HT.sIx [a, b, c].length 0 none = 0 ∧ HT.sIx [a, b, c].length [a, b, c].length (some 2) = [a, b, c].length) := by
  show ¬ (HT.sIx 3 0 none = 0 ∧ HT.sIx 3 3 (some 2) = 3)
  decide
theorem shaped2 {x : Str} (h : PyData.strOk x = true) : SeqAt.shaped (PyData.tuple [PyData.str "sign", PyData.str x]) = true := by
  have h2 : PyData.strOk (Str.ofString "sign") = true := by decide +kernel
  simp [SeqAt.shaped, PyData.canLay0, PyData.canLayAll0, PyData.depth, PyData.depthAll, h, h2]
/-! ### tokens of the data -/
def kOwn (o : Str) : List Tok := if o = "meta" then [tW "meta"] else if o = "packet" then [tW "packet"] else [tN o]
def kFld (f : Fld) : List Tok := kOwn f.1 ++ [tS ".", tN f.2]
def kOpd : Opd → List Tok
  | .num n => [tU n]
  | .par s => [tN s]
  | .fld o n => kFld (o, n)
def kExp : Exp → List Tok
  | .one a => kOpd a
  | .bin op a b => kOpd a ++ [tS op.s] ++ kOpd b
def kTgt (t : Str) : List Tok := if t = "accept" then [tW "accept"] else if t = "reject" then [tW "reject"] else [tN t]
/-- a parser's promise -/
def spP {α : Type} (C : Addr) (tx : α → List Tok) (e : α → PyData) (fol : List Tok → Prop) : Sp := fun vs H Q _ => ∃ r x post b, vs = [.ref r.1] ∧ Rd' C r H (tx x ++ post) b ∧ fol post ∧
  ∀ v H', Kp [r.1] H H' → Rd' C r H' post b → At (Nw H H') v (e x) → Q v H'
def folT : List Tok → Prop := fun _ => True
/-- not ahead of a dot -/
def folD : List Tok → Prop := fun post => ∃ x post', post = tS x :: post' ∧ PyData.strOk x = true ∧ x ≠ "."
def folS : List Tok → Prop := fun post => ∃ post', post = tS ";" :: post'
section
variable {P : Program} {w : World} {K : PySem.W.Frag} {mg : Str → Option Value} {base : Heap} {C : Addr} {k : Nat}
abbrev s_field : Stmt := top 25
abbrev n_field : List Str := ["reader", "owner"]
theorem sc_field : FnScope n_field ["reader"] (defScope s_field) := ⟨rfl, rfl, rfl, by decide +kernel, rfl, by decide +kernel, by decide +kernel⟩
/- slots: 0 reader, 1 owner -/
theorem ok_field (R : RM P w K mg base C k) (h : Has K mg "field" s_field ["reader"]) : Ok P w K mg base (k + 1) "field" ["reader"] (spP C kFld eFld folT) := by
  obtain ⟨_, _, G_skip, mt_skip, b_skip⟩ := R.skip.ex
  obtain ⟨_, _, G_need, mt_need, b_need⟩ := R.need.ex
  obtain ⟨_, _, G_take, mt_take, b_take⟩ := R.take.ex
  obtain ⟨_, _, G_kind, mt_kind, b_kind⟩ := R.kind.ex
  obtain ⟨_, _, G_sees, mt_sees, b_sees⟩ := R.sees.ex
  obtain ⟨_, _, G_fail, mt_fail, b_fail⟩ := R.fail.ex
  have c_Reader := R.T.cl
  refine h.ok sc_field (fun vs H Q E h => ?_) (fun f0 cdv A outer s H vs Q E hr h => ?_)
  · obtain ⟨_, _, _, _, rfl, _⟩ := h; rfl
  obtain ⟨r, ⟨o, n⟩, post, b, rfl, hR, _, q⟩ := h
  refine ⟨_, (pss_cons (ps_set (i := 1) sc_field.nd rfl (Or.inl rfl) pe_str)
    (Evl.pss_cut (ps_if (pt_val (pe_meth (pv 0) c_Reader mt_skip G_skip hr b_skip .nil pass0 (pa_cons pe_str pa_nil))) (pss_one (ps_set (i := 1) sc_field.nd rfl (Or.inl rfl) pe_str)) (pss_one (ps_if (pt_not (pt_val (pe_meth (pv 0) c_Reader mt_skip G_skip hr b_skip .nil pass0 (pa_cons pe_str pa_nil)))) (pss_one (ps_set (i := 1) sc_field.nd rfl (Or.inl rfl) (pe_meth (pv 0) c_Reader mt_take G_take hr b_take .nil pass0 (pa_cons pe_str pa_nil)))) pss_nil)))
    (pss_cons (ps_expr (pe_meth (pv 0) c_Reader mt_need G_need hr b_need .nil pass0 (pa_cons pe_str pa_nil)))
    (pss_one (ps_ret (pe_tupS (pa_cons (pv 1) (pa_cons (pe_meth (pv 0) c_Reader mt_take G_take hr b_take .nil pass0 (pa_cons pe_str pa_nil)) pa_nil)))))))), ?_⟩
  unfold kFld kOwn at hR
  dsimp only at hR
  refine ⟨fun σ' H1 => σ' = [some (.ref r.1), some (.str o)] ∧ Kp [r.1] H H1 ∧ Rd' C r H1 (tS "." :: tN n :: post) b, ?_, ?_⟩
  · by_cases h1 : o = "meta"
    · rw [if_pos h1] at hR
      subst h1
      refine r_skipN rfl hR fun H1 k1 hR1 => ⟨_, rfl, ?_⟩
      refine iteF (r_skipY rfl hR1 fun H2 k2 hR2 => ⟨_, rfl, ?_⟩)
      exact ⟨rfl, k1.trans k2, hR2⟩
    · rw [if_neg h1] at hR
      by_cases h2 : o = "packet"
      · rw [if_pos h2] at hR
        subst h2
        refine r_skipY rfl hR fun H1 k1 hR1 => ⟨_, rfl, ?_⟩
        exact ⟨rfl, k1, hR1⟩
      · rw [if_neg h2] at hR
        refine r_skipN rfl hR fun H1 k1 hR1 => ⟨_, rfl, ?_⟩
        refine iteF (r_skipN rfl hR1 fun H2 k2 hR2 => ⟨_, rfl, ?_⟩)
        refine iteT (r_take rfl hR2 rfl fun H3 k3 hR3 => ?_)
        exact ⟨rfl, (k1.trans k2).trans k3, hR3⟩
  rintro σ' H1 ⟨rfl, k1, hR1⟩
  refine r_need rfl hR1 fun H2 k2 hR2 => ?_
  refine ⟨_, rfl, r_take rfl hR2 rfl fun H3 k3 hR3 => ?_⟩
  have k13 := (k1.trans k2).trans k3
  refine ⟨by walk_at "le", fun p H4 hp s4 e4 => ?_⟩
  exact q _ _ (k13.trans (Kp.same s4)) (hR3.same s4) (at_tup (hR3.dm k13) hp e4 (.cons (.str _) (.cons (.str _) .nil)))
abbrev s_operand : Stmt := top 26
abbrev n_operand : List Str := ["reader", "owner", "name"]
theorem sc_operand : FnScope n_operand ["reader"] (defScope s_operand) := ⟨rfl, rfl, rfl, by decide +kernel, rfl, by decide +kernel, by decide +kernel⟩
/- slots: 0 reader, 1 owner, 2 name -/
theorem ok_operand (R : RM P w K mg base C k) (h : Has K mg "operand" s_operand ["reader"]) (c1 : Ok P w K mg base k "field" ["reader"] (spP C kFld eFld folT)) : Ok P w K mg base (k + 1) "operand" ["reader"] (spP C kOpd eOpd folD) := by
  obtain ⟨_, _, G_skip, mt_skip, b_skip⟩ := R.skip.ex
  obtain ⟨_, _, G_need, mt_need, b_need⟩ := R.need.ex
  obtain ⟨_, _, G_take, mt_take, b_take⟩ := R.take.ex
  obtain ⟨_, _, G_kind, mt_kind, b_kind⟩ := R.kind.ex
  obtain ⟨_, _, G_sees, mt_sees, b_sees⟩ := R.sees.ex
  obtain ⟨_, _, G_fail, mt_fail, b_fail⟩ := R.fail.ex
  have c_Reader := R.T.cl
  have cls := R.T
  obtain ⟨_, _, G_field, m_field, k_field, b_field⟩ := c1.ex
  refine h.ok sc_operand (fun vs H Q E h => ?_) (fun f0 cdv A outer s H vs Q E hr h => ?_)
  · obtain ⟨_, _, _, _, rfl, _⟩ := h; rfl
  obtain ⟨r, o, posx, b, rfl, hR, ⟨x, post', rfl, hat, hdot⟩, q⟩ := h
  have hu64 : (cxOf CX0 P w K mg base n_operand "operand" (defScope s_operand) f0 cdv A outer s H E).nox.A.units + 64 < cLine := hr.units
  refine ⟨_, (pss_cons (ps_if (pt_cmpR op_eq (pe_meth0 (pv 0) c_Reader mt_kind G_kind hr b_kind .nil pass0) pe_str (nomark _)) (pss_one (ps_ret (pe_tupS (pa_cons pe_str (pa_cons (pe_meth (pv 0) c_Reader mt_take G_take hr b_take .nil pass0 (pa_cons pe_str pa_nil)) pa_nil))))) pss_nil)
    (pss_cons (ps_if (PW.pt (pw_and (pt_cmpR op_eq (pe_meth0 (pv 0) c_Reader mt_kind G_kind hr b_kind .nil pass0) pe_str (nomark _)) (pw_and1 (pt_cmpR (op_neD hu64) (pe_slice sl_tupS (pe_ix ix_list (pe_fld (pv 0) rfl) (pe_op op_add (pe_fld (pv 0) rfl) pe_int) (fun _ _ => rfl)) po_none (po_some pe_int)) (pe_tupS (pa_cons pe_str (pa_cons pe_str pa_nil))) (nomark _))))) (pss_one (ps_ret (pe_tupS (pa_cons pe_str (pa_cons (pe_meth (pv 0) c_Reader mt_take G_take hr b_take .nil pass0 (pa_cons pe_str pa_nil)) pa_nil))))) pss_nil)
    (pss_cons (ps_asg (pe_call G_field hr (by rfl) m_field k_field b_field .nil pass0 (pa_cons (pv 0) pa_nil)) (pg_tup rfl (pgs_cons (pg_name (i := 1) sc_operand.nd rfl (Or.inl rfl)) (pgs_cons (pg_name (i := 2) sc_operand.nd rfl (Or.inl rfl)) pgs_nil))))
    (pss_one (ps_ret (pe_tupS (pa_cons pe_str (pa_cons (pv 1) (pa_cons (pv 2) pa_nil))))))))), ?_⟩
  have asfld : ∀ on : Fld, Rd' C r H (kFld on ++ (tS x :: post')) b → (∀ v H', Kp [r.1] H H' → Rd' C r H' (tS x :: post') b → At (Nw H H') v (.tuple [.str "field", .str on.1, .str on.2]) → Q v H') → ∀ H1, Same H H1 →
      tSeq (tAsg (tCall (spP C kFld eFld folT) [] E0 (tCons (tVar 0) tNil)) (gTup K 2 (gCons (gName 1) (gCons (gName 2) gNil)))) (tRet (tTupS (tCons (tC (V.str "field")) (tCons (tVar 1) (tCons (tVar 2) tNil))))) { nx := fun _ H' => Q .non H', rt := Q } [some (.ref r.1), none, none] H1 := by
    intro on hR q H1 s1
    refine ⟨_, rfl, r, on, tS x :: post', b, rfl, hR.same s1, trivial, fun v H2 k2 hR2 h2 => ?_⟩
    obtain ⟨a, x1, x2, rfl, ha, i1, i2⟩ := At.t2 h2
    obtain rfl := i1.str_inv
    obtain rfl := i2.str_inv
    have ha' := (nw_some ha).2
    refine ⟨_, _, rfl, SqT.of ha', rfl, _, _, rfl, _, _, rfl, rfl, ?_⟩
    refine ⟨_, rfl, _, rfl, by walk_at "le", fun p H4 hp s4 e4 => ?_⟩
    have k12 := (Kp.same s1).trans k2
    exact q _ _ (k12.trans (Kp.same s4)) (hR2.same s4) (at_tup (hR2.dm k12) hp e4 (.cons (.str _) (.cons (.str _) (.cons (.str _) .nil))))
  cases o with
  | num n =>
    refine r_kind rfl hR ⟨rfl, _, rfl, ?_⟩
    refine ifE rfl (r_take rfl hR rfl fun H1 k1 hR1 => ?_)
    refine ⟨by walk_at "le", fun p H2 hp s2 e2 => ?_⟩
    exact q _ _ (k1.trans (Kp.same s2)) (hR1.same s2) (at_tup (hR1.dm k1) hp e2 (.cons (.str _) (.cons (.int _) .nil)))
  | par n =>
    obtain ⟨dx, xs, i, p, l, h1, h2, h4, h5⟩ := Rd'.two hR
    refine r_kind rfl hR ⟨rfl, _, rfl, ?_⟩
    refine ifN (by first | exact kne1 | exact kne2 | exact kne3) ?_
    refine r_kind rfl hR ⟨rfl, _, rfl, ?_⟩
    refine ifE rfl ?_
    refine ⟨_, rfl, r.1, C, dx, _, _, rfl, h1, cls.cl, cls.nT, rf_tok, _, rfl, r.1, C, dx, _, _, rfl, h1, cls.cl, cls.nA, rf_at, _, _, rfl, rfl, r.2, xs, _, _, rfl, rfl, SqL.of h2, h4, _, rfl, p, _, rfl, h5, three_cut, fun p3 H3 hp3 s3 e3 => ?_⟩
    refine ⟨by walk_at "le", fun p4 H4 hp4 s4 e4 => ?_⟩
    refine ⟨.tuple [.str "sign", .str x], .tuple [.str "sign", .str "."], At.dp (.tup (s4 _ _ e3) (.cons (.str _) (.cons (.str _) .nil))), At.dp (.tup e4 (.cons (.str _) (.cons (.str _) .nil))), ?_, by decide +kernel, _, rfl, ?_⟩
    · exact shaped2 hat
    rw [eqv_dot hdot]
    refine iteT (r_take rfl ((hR.same s3).same s4) rfl fun H5 k5 hR5 => ?_)
    refine ⟨by walk_at "le", fun p6 H6 hp6 s6 e6 => ?_⟩
    have k := ((Kp.same s3).trans (Kp.same s4)).trans k5
    exact q _ _ (k.trans (Kp.same s6)) (hR5.same s6) (at_tup (hR5.dm k) hp6 e6 (.cons (.str _) (.cons (.str _) .nil)))
  | fld o n =>
    have hR0 : Rd' C r H (kFld (o, n) ++ (tS x :: post')) b := hR
    have q' : ∀ v H', Kp [r.1] H H' → Rd' C r H' (tS x :: post') b → At (Nw H H') v (.tuple [.str "field", .str o, .str n]) → Q v H' := q
    unfold kOpd kFld kOwn at hR
    dsimp only at hR
    by_cases h1 : o = "meta"
    · rw [if_pos h1] at hR
      refine r_kind rfl hR ⟨rfl, _, rfl, ?_⟩
      refine ifN (by first | exact kne1 | exact kne2 | exact kne3) ?_
      refine r_kind rfl hR ⟨rfl, _, rfl, ?_⟩
      refine ifN (by first | exact kne1 | exact kne2 | exact kne3) ?_
      exact asfld (o, n) hR0 q' H (Same.refl _)
    · rw [if_neg h1] at hR
      by_cases h2 : o = "packet"
      · rw [if_pos h2] at hR
        refine r_kind rfl hR ⟨rfl, _, rfl, ?_⟩
        refine ifN (by first | exact kne1 | exact kne2 | exact kne3) ?_
        refine r_kind rfl hR ⟨rfl, _, rfl, ?_⟩
        refine ifN (by first | exact kne1 | exact kne2 | exact kne3) ?_
        exact asfld (o, n) hR0 q' H (Same.refl _)
      · rw [if_neg h2] at hR
        obtain ⟨dx, xs, i, p, l, h1, h2, h4, h5⟩ := Rd'.two hR
        refine r_kind rfl hR ⟨rfl, _, rfl, ?_⟩
        refine ifN (by first | exact kne1 | exact kne2 | exact kne3) ?_
        refine r_kind rfl hR ⟨rfl, _, rfl, ?_⟩
        refine ifE rfl ?_
        refine ⟨_, rfl, r.1, C, dx, _, _, rfl, h1, cls.cl, cls.nT, rf_tok, _, rfl, r.1, C, dx, _, _, rfl, h1, cls.cl, cls.nA, rf_at, _, _, rfl, rfl, r.2, xs, _, _, rfl, rfl, SqL.of h2, h4, _, rfl, p, _, rfl, h5, three_cut, fun p3 H3 hp3 s3 e3 => ?_⟩
        refine ⟨by walk_at "le", fun p4 H4 hp4 s4 e4 => ?_⟩
        refine ⟨.tuple [.str "sign", .str "."], .tuple [.str "sign", .str "."], At.dp (.tup (s4 _ _ e3) (.cons (.str _) (.cons (.str _) .nil))), At.dp (.tup e4 (.cons (.str _) (.cons (.str _) .nil))), by decide +kernel, by decide +kernel, _, rfl, ?_⟩
        have e : PyData.eqv (.tuple [.str "sign", .str "."]) (.tuple [.str "sign", .str "."]) = true := by decide +kernel
        rw [e]
        exact asfld (o, n) hR0 q' H4 (s3.trans s4)
end
end WP
namespace WP
open PySem PySem.Spec PyProof.Rows L2 TL
local macro_rules | `(tactic| walk_at "len") => `(tactic| (show _ ≤ sizeLine; rw [sizeLine_eq]; (try simp only [al, lit_len]); (try simp) <;> omega))
local macro_rules | `(tactic| walk_at "lt") => `(tactic| (show _ < sizeLine; rw [sizeLine_eq]; (try simp only [List.length_map, List.length_append, List.length_cons, List.length_nil, List.length_take]); omega))
local macro_rules | `(tactic| walk_at "le") => `(tactic| (show _ ≤ sizeLine; rw [sizeLine_eq]; (try simp only [List.length_map, List.length_append, List.length_cons, List.length_nil, List.length_take]); omega))
local macro_rules | `(tactic| walk_at "now") => `(tactic| first | assumption | (refine (by assumption : Same _ _) _ _ ?_; walk_at "now"))
local macro_rules | `(tactic| walk_at "at") => `(tactic| first | exact at0 | exact at1 | exact at2 | exact at3 | exact at4 | exact at5 | exact at6 | exact at7 | exact at8)
local macro_rules | `(tactic| walk_at "v") => `(tactic| refine ⟨_, rfl, ?_⟩)
local macro_rules | `(tactic| walk_at "ix") => `(tactic| refine ⟨_, _, _, _, rfl, rfl, SqT.of (by walk_at "now"), (by walk_at "at"), ?_⟩)
local macro_rules | `(tactic| walk_at "ixl") => `(tactic| refine ⟨_, _, _, _, rfl, rfl, SqL.of (by walk_at "now"), (by walk_at "at"), ?_⟩)
local macro_rules | `(tactic| walk_at "str") => `(tactic| refine ⟨_, _, rfl, rfl, (by walk_at "len"), ?_⟩)
local macro_rules | `(tactic| walk_at "int") => `(tactic| refine ⟨_, _, rfl, rfl, ?_⟩)
local macro_rules | `(tactic| walk_at "eq") => `(tactic| refine ⟨rfl, _, rfl, ?_⟩)
local macro_rules | `(tactic| walk_at "app") => `(tactic| refine ⟨_, _, _, rfl, rfl, (by walk_at "now"), (by walk_at "lt"), ?_⟩)
local macro_rules | `(tactic| walk_at "ext") => `(tactic| refine ⟨_, _, _, _, rfl, rfl, (by walk_at "now"), (by walk_at "now"), (by walk_at "le"), ?_⟩)
local macro_rules | `(tactic| walk_at "cat") => `(tactic| refine ⟨_, _, _, _, rfl, rfl, (by walk_at "now"), (by walk_at "now"), (by walk_at "le"), ?_⟩)
local macro_rules | `(tactic| walk_at "num") => `(tactic| refine ⟨(by assumption : Nu _), ?_⟩)
local macro_rules | `(tactic| walk_at "ty") => `(tactic| refine ⟨Or.inl ⟨rfl, _, SqL.of (by walk_at "now")⟩, ?_⟩)
local macro_rules | `(tactic| walk_at "un2") => `(tactic| refine ⟨_, _, rfl, SqT.of (by walk_at "now"), rfl, _, _, rfl, _, _, rfl, rfl, ?_⟩)
local macro_rules | `(tactic| walk_at "un3") => `(tactic| refine ⟨_, _, rfl, SqT.of (by walk_at "now"), rfl, _, _, rfl, _, _, rfl, _, _, rfl, rfl, ?_⟩)
local macro_rules | `(tactic| walk_at "un4") => `(tactic| refine ⟨_, _, rfl, SqT.of (by walk_at "now"), rfl, _, _, rfl, _, _, rfl, _, _, rfl, _, _, rfl, rfl, ?_⟩)
local macro_rules | `(tactic| walk_at "un6") => `(tactic| refine ⟨_, _, rfl, SqT.of (by walk_at "now"), rfl, _, _, rfl, _, _, rfl, _, _, rfl, _, _, rfl, _, _, rfl, _, _, rfl, rfl, ?_⟩)
local macro_rules | `(tactic| walk_at "un9") => `(tactic| refine ⟨_, _, rfl, SqT.of (by walk_at "now"), rfl, _, _, rfl, _, _, rfl, _, _, rfl, _, _, rfl, _, _, rfl, _, _, rfl, _, _, rfl, _, _, rfl, _, _, rfl, rfl, ?_⟩)
local macro_rules | `(tactic| walk_at "go") => `(tactic| repeat (first | walk_at "v" | walk_at "eq" | walk_at "ix" | walk_at "str" | walk_at "ty" | walk_at "num"))

/-! ### a list under way -/
structure LB (r : Addr × Addr) (L : Addr) (Hi H : Hp) (ds : List PyData) : Prop where
  fr : Hi L = none
  r1 : Hi r.1 ≠ none
  r2 : Hi r.2 ≠ none
  kp : Kp [r.1] Hi H
  dm : Dm Hi H
  vs : ∃ vs, H L = some (.lst vs) ∧ AtL (Out [L] (Nw Hi H)) vs ds
theorem Rd'.ne1 {C : Addr} {r : Addr × Addr} {H : Hp} {rest : List Tok} {b : Nat} (h : Rd' C r H rest b) : H r.1 ≠ none := fun e => by
  obtain ⟨o, e2⟩ := h.obj
  rw [e2] at e; cases e
theorem Rd'.ne2 {C : Addr} {r : Addr × Addr} {H : Hp} {rest : List Tok} {b : Nat} (h : Rd' C r H rest b) : H r.2 ≠ none := fun e => by
  obtain ⟨dx, xs, tks, i, h1, h2, _⟩ := h
  rw [h2] at e; cases e
section
variable {C : Addr} {r : Addr × Addr} {L : Addr} {Hi H H2 : Hp} {ds : List PyData} {rest : List Tok} {b : Nat} {v : V} {d : PyData} {Q : VK}
theorem LB.start (hR : Rd' C r Hi rest b) (h : Hi L = none) (s : Same Hi H) (e : H L = some (.lst [])) : LB r L Hi H [] :=
  ⟨h, hR.ne1, hR.ne2, Kp.same s, Same.dm s, [], e, .nil⟩
theorem LB.go (h : LB r L Hi H ds) (hR : Rd' C r H2 rest b) (k : Kp [r.1] H H2) : LB r L Hi H2 ds := by
  obtain ⟨vs, e, a⟩ := h.vs
  refine ⟨h.fr, h.r1, h.r2, h.kp.trans k, h.dm.trans (hR.dm k), vs, k _ _ (fun z => ?_) e, AtL.mono (out_mono (nw1 k fun c hc => ?_)) a⟩
  · have : L = r.1 := by simpa using z
    exact h.r1 (this ▸ h.fr)
  · have : c = r.1 := by simpa using hc
    rw [this]; exact h.r1
theorem LB.ap (h : LB r L Hi H ds) (hR : Rd' C r H2 rest b) (k : Kp [r.1] H H2) (hv : At (Nw H H2) v d) (hl : ds.length ≤ 1000000) : ∃ vs, H2 L = some (.lst vs) ∧ vs.length < sizeLine ∧ ∀ H3, Kp [L] H2 H3 → H3 L = some (.lst (vs ++ [v])) → LB r L Hi H3 (ds ++ [d]) ∧ Rd' C r H3 rest b := by
  obtain ⟨vs0, e0, _⟩ := id h.vs
  have h2 := h.go hR k
  obtain ⟨vs, e, a⟩ := id h2.vs
  have n1 : L ≠ r.1 := fun z => h.r1 (z ▸ h.fr)
  have n2 : L ≠ r.2 := fun z => h.r2 (z ▸ h.fr)
  refine ⟨vs, e, szl (by have := a.len; omega), fun H3 k3 e3 => ⟨⟨h.fr, h.r1, h.r2, fun c o n hc => ?_, fun c hc => ?_, _, e3, ?_⟩, ?_⟩⟩
  · refine k3 c o (fun z => ?_) (h2.kp c o n hc)
    have : c = L := by simpa using z
    rw [this, h.fr] at hc; cases hc
  · refine h2.dm c (k3.free hc fun z => ?_)
    have : c = L := by simpa using z
    rw [this, e3] at hc; cases hc
  · have m : Same (Out [L] (Nw Hi H2)) (Out [L] (Nw Hi H3)) := fun c o hc => by
      obtain ⟨n, hc⟩ := out_some hc
      obtain ⟨c1, c2⟩ := nw_some hc
      rw [out_of n]
      exact nw_of c1 (k3 c o n c2)
    have m2 : Same (Nw H H2) (Out [L] (Nw Hi H3)) := fun c o hc => by
      obtain ⟨c1, c2⟩ := nw_some hc
      have n : c ∉ [L] := fun z => by
        have : c = L := by simpa using z
        rw [this, e0] at c1; cases c1
      rw [out_of n]
      exact nw_of (h.dm c c1) (k3 c o n c2)
    exact (AtL.mono m a).snoc (At.mono m2 hv)
  · obtain ⟨dx, xs, tks, i, g1, g2, g3, g4⟩ := hR
    refine ⟨dx, xs, tks, i, k3 _ _ (fun z => n1 (by simpa using Eq.symm (List.mem_singleton.mp z))) g1, k3 _ _ (fun z => n2 (by simpa using Eq.symm (List.mem_singleton.mp z))) g2, Paired.mapP g3 fun _ _ z => ?_, g4⟩
    obtain ⟨p, v, e, hp, q⟩ := z
    refine ⟨p, v, e, k3 _ _ (fun z => ?_) hp, q⟩
    have : p = L := by simpa using z
    obtain ⟨vs, e, _⟩ := h2.vs
    rw [this, e] at hp; cases hp
theorem LB.ty {K : PySem.W.Frag} (h : LB r L Hi H ds) : tyV K "list" (.ref L) H := by
  obtain ⟨vs, e, _⟩ := h.vs
  exact Or.inl ⟨rfl, _, SqL.of e⟩
theorem LB.at (h : LB r L Hi H ds) : At (Nw Hi H) (.ref L) (.list ds) := by
  obtain ⟨vs, e, a⟩ := h.vs
  exact .lst (nw_of h.fr e) (AtL.mono out_le a)
end
/-- a parser's promise, for what is not too long -/
def spW {α : Type} (C : Addr) (tx : α → List Tok) (e : α → PyData) (W : α → Prop) : Sp := fun vs H Q _ => ∃ r x post b, vs = [.ref r.1] ∧ Rd' C r H (tx x ++ post) b ∧ W x ∧
  ∀ v H', Kp [r.1] H H' → Rd' C r H' post b → At (Nw H H') v (e x) → Q v H'
/-! ### tokens -/
def kPar (p : Par) : List Tok := [tN p.1, tS ":", tU p.2]
def kFields (l : List Par) : List Tok := [tS "{"] ++ (l.map fun p => kPar p ++ [tS ";"]).flatten ++ [tS "}"]
def kKey (k : Fld × Kd) : List Tok := kFld k.1 ++ [tW k.2.s, tS ";"]
/-- parts after the first, each behind its comma -/
def kSep (k : α → List Tok) : List α → List Tok
  | [] => []
  | x :: xs => k x ++ (xs.map fun y => tS "," :: k y).flatten
def OPS : List Str := ["+", "-", "&", "|", "^"]
def KDS : List Str := ["exact", "mask", "prefix"]
def Bop.i : Bop → Nat
  | .add => 0 | .sub => 1 | .and => 2 | .or => 3 | .xor => 4
def Kd.i : Kd → Nat
  | .exact => 0 | .mask => 1 | .pfx => 2
theorem Bop.at (o : Bop) : OPS[o.i]? = some o.s := by cases o <;> rfl
theorem Kd.at (o : Kd) : KDS[o.i]? = some o.s := by cases o <;> rfl
theorem Bop.lt {o : Bop} {j : Nat} {x : Str} (h : j < o.i) (e : OPS[j]? = some x) : ¬ o.s = x := by
  cases o <;> (have h' := h; simp only [Bop.i] at h') <;> first | omega | skip
  all_goals (rcases j with _ | _ | _ | _ | _ | j <;> first | omega | (cases e; decide +kernel))
theorem Kd.lt {o : Kd} {j : Nat} {x : Str} (h : j < o.i) (e : KDS[j]? = some x) : ¬ o.s = x := by
  cases o <;> (have h' := h; simp only [Kd.i] at h') <;> first | omega | skip
  all_goals (rcases j with _ | _ | _ | _ | _ | j <;> first | omega | (cases e; decide +kernel))
theorem OPS_semi : ∀ x ∈ OPS, ¬ (";" : Str) = x := by decide +kernel
theorem Bop.ok (o : Bop) : PyData.strOk o.s = true := by cases o <;> decide +kernel
theorem Bop.dot (o : Bop) : o.s ≠ "." := by cases o <;> decide +kernel
section
variable {P : Program} {w : World} {K : PySem.W.Frag} {mg : Str → Option Value} {base : Heap} {C : Addr} {k : Nat}
abbrev s_expression : Stmt := top 27
abbrev n_expression : List Str := ["reader", "first", "operator"]
theorem sc_expression : FnScope n_expression ["reader"] (defScope s_expression) := ⟨rfl, rfl, rfl, by decide +kernel, rfl, by decide +kernel, by decide +kernel⟩
/- slots: 0 reader, 1 first, 2 operator -/
theorem ok_expression (R : RM P w K mg base C k) (W : Wt K mg "OPERATORS" OPS) (h : Has K mg "expression" s_expression ["reader"]) (c1 : Ok P w K mg base k "operand" ["reader"] (spP C kOpd eOpd folD)) : Ok P w K mg base (k + 1) "expression" ["reader"] (spP C kExp eExp folS) := by
  obtain ⟨_, _, G_skip, mt_skip, b_skip⟩ := R.skip.ex
  obtain ⟨_, _, G_need, mt_need, b_need⟩ := R.need.ex
  obtain ⟨_, _, G_take, mt_take, b_take⟩ := R.take.ex
  obtain ⟨_, _, G_kind, mt_kind, b_kind⟩ := R.kind.ex
  obtain ⟨_, _, G_sees, mt_sees, b_sees⟩ := R.sees.ex
  obtain ⟨_, _, G_fail, mt_fail, b_fail⟩ := R.fail.ex
  have c_Reader := R.T.cl
  obtain ⟨a, m_OPERATORS, hW⟩ := W.ex
  obtain ⟨_, _, G_operand, m_operand, k_operand, b_operand⟩ := c1.ex
  refine h.ok sc_expression (fun vs H Q E h => ?_) (fun f0 cdv A outer s H vs Q E hr h => ?_)
  · obtain ⟨_, _, _, _, rfl, _⟩ := h; rfl
  obtain ⟨r, x, post, b, rfl, hR, ⟨post', rfl⟩, q⟩ := h
  refine ⟨_, (pss_cons (ps_set (i := 1) sc_expression.nd rfl (Or.inl rfl) (pe_call G_operand hr (by rfl) m_operand k_operand b_operand .nil pass0 (pa_cons (pv 0) pa_nil)))
    (pss_cons (ps_for PassesOwn.never rfl (pi_tup (pe_glob (v := .ref _) rfl m_OPERATORS rfl)) (pg_name (i := 2) sc_expression.nd rfl (Or.inl rfl)) (pss_one (ps_if (pt_val (pe_meth (pv 0) c_Reader mt_skip G_skip hr b_skip .nil pass0 (pa_cons (pv 2) pa_nil))) (pss_one (ps_ret (pe_tupS (pa_cons (pv 2) (pa_cons (pv 1) (pa_cons (pe_call G_operand hr (by rfl) m_operand k_operand b_operand .nil pass0 (pa_cons (pv 0) pa_nil)) pa_nil)))))) pss_nil)))
    (pss_one (ps_ret (pv 1))))), ?_⟩
  cases x with
  | one o =>
    have hR0 : Rd' C r H (kOpd o ++ (tS ";" :: post')) b := hR
    refine ⟨_, rfl, r, o, tS ";" :: post', b, rfl, hR0, ⟨_, _, rfl, by decide +kernel, by decide +kernel⟩, fun v H1 k1 hR1 h1 => ?_⟩
    refine ⟨_, rfl, ⟨_, hW _⟩, for_tup (K := K) (a := a) (xs := OPS.map V.str) (fun j σ' H' => Kp [r.1] H1 H' ∧ Rd' C r H' (tS ";" :: post') b ∧ ∃ x, σ' = [some (.ref r.1), some v, x]) ⟨Kp.refl, hR1, _, rfl⟩ (fun _ _ _ _ _ => hW _) ?_ ?_⟩
    · rintro j x σ' H2 hx ⟨k2, hR2, y, rfl⟩
      obtain ⟨gj, hgj, hat⟩ := (AtL.strs (H := H2) (ss := OPS)).getM hx
      obtain rfl := hat.str_inv
      refine r_skipV rfl rfl hR2 fun H3 k3 hR3 => ⟨_, rfl, ?_⟩
      rw [seesS, decide_eq_false (OPS_semi gj (List.mem_of_getElem? hgj))] at hR3 ⊢
      exact ⟨k2.trans k3, hR3, _, rfl⟩
    · rintro σ' H2 ⟨k2, hR2, y, rfl⟩
      exact ⟨_, rfl, q _ _ (k1.trans k2) hR2 (h1.mono (nw1 k2 hR.ne))⟩
  | bin op o1 o2 =>
    have hR0 : Rd' C r H (kOpd o1 ++ (tS op.s :: (kOpd o2 ++ (tS ";" :: post')))) b := by simpa only [kExp, List.append_assoc, List.cons_append, List.nil_append] using hR
    refine ⟨_, rfl, r, o1, _, b, rfl, hR0, ⟨_, _, rfl, op.ok, op.dot⟩, fun v H1 k1 hR1 h1 => ?_⟩
    refine ⟨_, rfl, ⟨_, hW _⟩, for_tup (K := K) (a := a) (xs := OPS.map V.str) (fun j σ' H' => j ≤ op.i ∧ Kp [r.1] H1 H' ∧ Rd' C r H' (tS op.s :: (kOpd o2 ++ (tS ";" :: post'))) b ∧ ∃ x, σ' = [some (.ref r.1), some v, x]) ⟨Nat.zero_le _, Kp.refl, hR1, _, rfl⟩ (fun _ _ _ _ _ => hW _) ?_ ?_⟩
    · rintro j x σ' H2 hx ⟨hj, k2, hR2, y, rfl⟩
      obtain ⟨gj, hgj, hat⟩ := (AtL.strs (H := H2) (ss := OPS)).getM hx
      obtain rfl := hat.str_inv
      refine r_skipV rfl rfl hR2 fun H3 k3 hR3 => ⟨_, rfl, ?_⟩
      by_cases hlt : j < op.i
      · rw [seesS, decide_eq_false (Bop.lt hlt hgj)] at hR3 ⊢
        exact ⟨hlt, k2.trans k3, hR3, _, rfl⟩
      · have : j = op.i := by omega
        subst this
        rw [op.at] at hgj
        cases hgj
        rw [seesS, decide_eq_true rfl] at hR3 ⊢
        refine iteT ⟨_, rfl, _, rfl, _, rfl, r, o2, _, b, rfl, hR3, ⟨_, _, rfl, by decide +kernel, by decide +kernel⟩, fun v2 H4 k4 hR4 h4 => ⟨by walk_at "le", fun p H5 hp s5 e5 => ?_⟩⟩
        have k := ((k1.trans k2).trans k3).trans k4
        have i1 := (h1.mono (nw1 ((k2.trans k3).trans k4) hR.ne)).mono (nws s5)
        have i2 := (h4.mono (nw0 (hR3.dm ((k1.trans k2).trans k3)))).mono (nws s5)
        exact q _ _ (k.trans (Kp.same s5)) (hR4.same s5) (at_tup (hR4.dm k) hp e5 (.cons (.str _) (.cons i1 (.cons i2 .nil))))
    · rintro σ' H' ⟨hj, _⟩
      exact absurd hj (by cases op <;> decide)
abbrev s_target : Stmt := top 29
abbrev n_target : List Str := ["reader", "word"]
theorem sc_target : FnScope n_target ["reader"] (defScope s_target) := ⟨rfl, rfl, rfl, by decide +kernel, rfl, by decide +kernel, by decide +kernel⟩
/- slots: 0 reader, 1 word -/
theorem ok_target (R : RM P w K mg base C k) (h : Has K mg "target" s_target ["reader"]) : Ok P w K mg base (k + 1) "target" ["reader"] (spP C kTgt PyData.str folT) := by
  obtain ⟨_, _, G_skip, mt_skip, b_skip⟩ := R.skip.ex
  obtain ⟨_, _, G_need, mt_need, b_need⟩ := R.need.ex
  obtain ⟨_, _, G_take, mt_take, b_take⟩ := R.take.ex
  obtain ⟨_, _, G_kind, mt_kind, b_kind⟩ := R.kind.ex
  obtain ⟨_, _, G_sees, mt_sees, b_sees⟩ := R.sees.ex
  obtain ⟨_, _, G_fail, mt_fail, b_fail⟩ := R.fail.ex
  have c_Reader := R.T.cl
  refine h.ok sc_target (fun vs H Q E h => ?_) (fun f0 cdv A outer s H vs Q E hr h => ?_)
  · obtain ⟨_, _, _, _, rfl, _⟩ := h; rfl
  obtain ⟨r, x, post, b, rfl, hR, _, q⟩ := h
  refine ⟨_, (pss_cons (ps_for PassesOwn.never rfl (pi_tup (pe_tupS (pa_cons pe_str (pa_cons pe_str pa_nil)))) (pg_name (i := 1) sc_target.nd rfl (Or.inl rfl)) (pss_one (ps_if (pt_val (pe_meth (pv 0) c_Reader mt_skip G_skip hr b_skip .nil pass0 (pa_cons (pv 1) pa_nil))) (pss_one (ps_ret (pv 1))) pss_nil)))
    (pss_one (ps_ret (pe_meth (pv 0) c_Reader mt_take G_take hr b_take .nil pass0 (pa_cons pe_str pa_nil))))), ?_⟩
  unfold kTgt at hR
  refine ⟨by walk_at "le", fun p H1 hp s1 e1 => ⟨_, rfl, ⟨_, SqT.of e1⟩, ?_⟩⟩
  have hpr : p ≠ r.1 := fun z => hR.ne1 (z ▸ hp)
  have hR1 := hR.same s1
  have nop : ∀ {H2 : Hp}, Kp [r.1] H1 H2 → H2 p = some (.tup ([("accept" : Str), "reject"].map V.str)) := fun k => k _ _ (fun z => hpr (by simpa using z)) e1
  by_cases h1 : x = "accept"
  · rw [if_pos h1] at hR1
    subst h1
    refine for_tup (K := K) (a := p) (xs := [("accept" : Str), "reject"].map V.str) (fun j σ' H' => j = 0 ∧ Kp [r.1] H1 H' ∧ Rd' C r H' (tW "accept" :: post) b ∧ σ' = [some (.ref r.1), none]) ⟨rfl, Kp.refl, hR1, rfl⟩ (fun _ _ _ _ h => SqT.of (nop h.2.1)) ?_ ?_
    · rintro j x σ' H2 hx ⟨rfl, k2, hR2, rfl⟩
      cases hx
      refine r_skipV rfl rfl hR2 fun H3 k3 hR3 => ⟨_, rfl, ?_⟩
      rw [seesW, decide_eq_true rfl] at hR3 ⊢
      exact iteT ⟨_, rfl, q _ _ (((Kp.same s1).trans k2).trans k3) hR3 (.str _)⟩
    · rintro σ' H' ⟨hj, _⟩
      exact absurd hj (by decide)
  rw [if_neg h1] at hR1
  by_cases h2 : x = "reject"
  · rw [if_pos h2] at hR1
    subst h2
    refine for_tup (K := K) (a := p) (xs := [("accept" : Str), "reject"].map V.str) (fun j σ' H' => j ≤ 1 ∧ Kp [r.1] H1 H' ∧ Rd' C r H' (tW "reject" :: post) b ∧ ∃ x, σ' = [some (.ref r.1), x]) ⟨Nat.zero_le _, Kp.refl, hR1, _, rfl⟩ (fun _ _ _ _ h => SqT.of (nop h.2.1)) ?_ ?_
    · rintro j x σ' H2 hx ⟨hj, k2, hR2, y, rfl⟩
      rcases j with _ | _ | j
      · cases hx
        refine r_skipV rfl rfl hR2 fun H3 k3 hR3 => ⟨_, rfl, ?_⟩
        rw [seesW, decide_eq_false (by decide +kernel)] at hR3 ⊢
        exact ⟨by omega, k2.trans k3, hR3, _, rfl⟩
      · cases hx
        refine r_skipV rfl rfl hR2 fun H3 k3 hR3 => ⟨_, rfl, ?_⟩
        rw [seesW, decide_eq_true rfl] at hR3 ⊢
        exact iteT ⟨_, rfl, q _ _ (((Kp.same s1).trans k2).trans k3) hR3 (.str _)⟩
      · omega
    · rintro σ' H' ⟨hj, _⟩
      exact absurd hj (by decide)
  rw [if_neg h2] at hR1
  refine for_tup (K := K) (a := p) (xs := [("accept" : Str), "reject"].map V.str) (fun j σ' H' => Kp [r.1] H1 H' ∧ Rd' C r H' (tN x :: post) b ∧ ∃ x, σ' = [some (.ref r.1), x]) ⟨Kp.refl, hR1, _, rfl⟩ (fun _ _ _ _ h => SqT.of (nop h.1)) ?_ ?_
  · rintro j x σ' H2 hx ⟨k2, hR2, y, rfl⟩
    obtain ⟨gj, hgj, hat⟩ := (AtL.strs (H := H2) (ss := [("accept" : Str), "reject"])).getM hx
    obtain rfl := hat.str_inv
    refine r_skipV rfl rfl hR2 fun H3 k3 hR3 => ⟨_, rfl, ?_⟩
    rw [seesN] at hR3 ⊢
    exact ⟨k2.trans k3, hR3, _, rfl⟩
  · rintro σ' H2 ⟨k2, hR2, y, rfl⟩
    exact r_take rfl hR2 rfl fun H3 k3 hR3 => q _ _ (((Kp.same s1).trans k2).trans k3) hR3 (.str _)
abbrev s_key : Stmt := top 34
abbrev n_key : List Str := ["reader", "chosen", "kind"]
theorem sc_key : FnScope n_key ["reader"] (defScope s_key) := ⟨rfl, rfl, rfl, by decide +kernel, rfl, by decide +kernel, by decide +kernel⟩
/- slots: 0 reader, 1 chosen, 2 kind -/
theorem ok_key (R : RM P w K mg base C k) (W : Wt K mg "KINDS" KDS) (h : Has K mg "key" s_key ["reader"]) (c1 : Ok P w K mg base k "field" ["reader"] (spP C kFld eFld folT)) : Ok P w K mg base (k + 1) "key" ["reader"] (spP C kKey eKey folT) := by
  obtain ⟨_, _, G_skip, mt_skip, b_skip⟩ := R.skip.ex
  obtain ⟨_, _, G_need, mt_need, b_need⟩ := R.need.ex
  obtain ⟨_, _, G_take, mt_take, b_take⟩ := R.take.ex
  obtain ⟨_, _, G_kind, mt_kind, b_kind⟩ := R.kind.ex
  obtain ⟨_, _, G_sees, mt_sees, b_sees⟩ := R.sees.ex
  obtain ⟨_, _, G_fail, mt_fail, b_fail⟩ := R.fail.ex
  have c_Reader := R.T.cl
  obtain ⟨a, m_KINDS, hW⟩ := W.ex
  obtain ⟨_, _, G_field, m_field, k_field, b_field⟩ := c1.ex
  refine h.ok sc_key (fun vs H Q E h => ?_) (fun f0 cdv A outer s H vs Q E hr h => ?_)
  · obtain ⟨_, _, _, _, rfl, _⟩ := h; rfl
  obtain ⟨r, ⟨f, kd⟩, post, b, rfl, hR, _, q⟩ := h
  refine ⟨_, (pss_cons (ps_set (i := 1) sc_key.nd rfl (Or.inl rfl) (pe_call G_field hr (by rfl) m_field k_field b_field .nil pass0 (pa_cons (pv 0) pa_nil)))
    (pss_cons (ps_for PassesOwn.never rfl (pi_tup (pe_glob (v := .ref _) rfl m_KINDS rfl)) (pg_name (i := 2) sc_key.nd rfl (Or.inl rfl)) (pss_one (ps_if (pt_val (pe_meth (pv 0) c_Reader mt_skip G_skip hr b_skip .nil pass0 (pa_cons (pv 2) pa_nil))) (pss_cons (ps_expr (pe_meth (pv 0) c_Reader mt_need G_need hr b_need .nil pass0 (pa_cons pe_str pa_nil)))
    (pss_one (ps_ret (pe_tupS (pa_cons (pv 1) (pa_cons (pv 2) pa_nil)))))) pss_nil)))
    (pss_one (ps_ret (pe_meth0 (pv 0) c_Reader mt_fail G_fail hr b_fail .nil pass0))))), ?_⟩
  have hR0 : Rd' C r H (kFld f ++ (tW kd.s :: tS ";" :: post)) b := by simpa only [kKey, List.append_assoc, List.cons_append, List.nil_append] using hR
  refine ⟨_, rfl, r, f, _, b, rfl, hR0, trivial, fun v H1 k1 hR1 h1 => ?_⟩
  refine ⟨_, rfl, ⟨_, hW _⟩, for_tup (K := K) (a := a) (xs := KDS.map V.str) (fun j σ' H' => j ≤ kd.i ∧ Kp [r.1] H1 H' ∧ Rd' C r H' (tW kd.s :: tS ";" :: post) b ∧ ∃ x, σ' = [some (.ref r.1), some v, x]) ⟨Nat.zero_le _, Kp.refl, hR1, _, rfl⟩ (fun _ _ _ _ _ => hW _) ?_ ?_⟩
  · rintro j x σ' H2 hx ⟨hj, k2, hR2, y, rfl⟩
    obtain ⟨gj, hgj, hat⟩ := (AtL.strs (H := H2) (ss := KDS)).getM hx
    obtain rfl := hat.str_inv
    refine r_skipV rfl rfl hR2 fun H3 k3 hR3 => ⟨_, rfl, ?_⟩
    by_cases hlt : j < kd.i
    · rw [seesW, decide_eq_false (Kd.lt hlt hgj)] at hR3 ⊢
      exact ⟨hlt, k2.trans k3, hR3, _, rfl⟩
    · have : j = kd.i := by omega
      subst this
      rw [kd.at] at hgj
      cases hgj
      rw [seesW, decide_eq_true rfl] at hR3 ⊢
      refine iteT (r_need rfl hR3 fun H4 k4 hR4 => ⟨_, rfl, _, rfl, by walk_at "le", fun p H5 hp s5 e5 => ?_⟩)
      have k := ((k1.trans k2).trans k3).trans k4
      have i1 := (h1.mono (nw1 ((k2.trans k3).trans k4) hR.ne)).mono (nws s5)
      exact q _ _ (k.trans (Kp.same s5)) (hR4.same s5) (at_tup (hR4.dm k) hp e5 (.cons i1 (.cons (.str _) .nil)))
  · rintro σ' H' ⟨hj, _⟩
    exact absurd hj (by cases kd <;> decide)
abbrev s_fields : Stmt := top 28
abbrev n_fields : List Str := ["reader", "rows", "name"]
theorem sc_fields : FnScope n_fields ["reader"] (defScope s_fields) := ⟨rfl, rfl, rfl, by decide +kernel, rfl, by decide +kernel, by decide +kernel⟩
/- slots: 0 reader, 1 rows, 2 name -/
theorem ok_fields (R : RM P w K mg base C k) (h : Has K mg "fields" s_fields ["reader"]) : Ok P w K mg base (k + 1) "fields" ["reader"] (spW C kFields (fun l => .list (l.map ePar)) (fun l => l.length ≤ 16)) := by
  obtain ⟨_, _, G_skip, mt_skip, b_skip⟩ := R.skip.ex
  obtain ⟨_, _, G_need, mt_need, b_need⟩ := R.need.ex
  obtain ⟨_, _, G_take, mt_take, b_take⟩ := R.take.ex
  obtain ⟨_, _, G_kind, mt_kind, b_kind⟩ := R.kind.ex
  obtain ⟨_, _, G_sees, mt_sees, b_sees⟩ := R.sees.ex
  obtain ⟨_, _, G_fail, mt_fail, b_fail⟩ := R.fail.ex
  have c_Reader := R.T.cl
  refine h.ok sc_fields (fun vs H Q E h => ?_) (fun f0 cdv A outer s H vs Q E hr h => ?_)
  · obtain ⟨_, _, _, _, rfl, _⟩ := h; rfl
  obtain ⟨r, l, post, b, rfl, hR, hl, q⟩ := h
  refine ⟨_, (pss_cons (ps_set (i := 1) sc_fields.nd rfl (Or.inl rfl) (pe_lstS pa_nil))
    (pss_cons (ps_expr (pe_meth (pv 0) c_Reader mt_need G_need hr b_need .nil pass0 (pa_cons pe_str pa_nil)))
    (pss_cons (ps_while PassesOwn.never (pt_not (pt_val (pe_meth (pv 0) c_Reader mt_skip G_skip hr b_skip .nil pass0 (pa_cons pe_str pa_nil)))) (pss_cons (ps_set (i := 2) sc_fields.nd rfl (Or.inl rfl) (pe_meth (pv 0) c_Reader mt_take G_take hr b_take .nil pass0 (pa_cons pe_str pa_nil)))
    (pss_cons (ps_expr (pe_meth (pv 0) c_Reader mt_need G_need hr b_need .nil pass0 (pa_cons pe_str pa_nil)))
    (pss_cons (ps_expr (pe_bm PySem.F.plainAttrs_list PySem.F.slot_list_append PySem.F.type_list_append mt_appendS (pv 1) (pa_cons (pe_tupS (pa_cons (pv 2) (pa_cons (pe_meth (pv 0) c_Reader mt_take G_take hr b_take .nil pass0 (pa_cons pe_str pa_nil)) pa_nil))) pa_nil)))
    (pss_one (ps_expr (pe_meth (pv 0) c_Reader mt_need G_need hr b_need .nil pass0 (pa_cons pe_str pa_nil))))))))
    (pss_one (ps_ret (pv 1)))))), ?_⟩
  have hR0 : Rd' C r H (tS "{" :: ((l.map fun p => kPar p ++ [tS ";"]).flatten ++ (tS "}" :: post))) b := by simpa only [kFields, List.append_assoc, List.cons_append, List.nil_append] using hR
  refine ⟨by walk_at "le", fun L H1 hL s1 e1 => ?_⟩
  have lb1 := LB.start hR0 hL s1 e1
  refine r_need rfl (hR0.same s1) fun H2 k2 hR2 => ?_
  have lb2 := lb1.go hR2 k2
  refine ⟨fun m σ' H' => ∃ done todo, l = done ++ todo ∧ m = todo.length ∧ (∃ x, σ' = [some (.ref r.1), some (.ref L), x]) ∧ LB r L H H' (done.map ePar) ∧ Rd' C r H' ((todo.map fun p => kPar p ++ [tS ";"]).flatten ++ (tS "}" :: post)) b, ⟨_, [], l, rfl, rfl, ⟨_, rfl⟩, lb2, hR2⟩, ?_⟩
  rintro m σ' H3 ⟨done, todo, hdt, rfl, ⟨x, rfl⟩, lb, hR3⟩
  cases todo with
  | nil =>
    refine r_skipY rfl hR3 fun H4 k4 hR4 => ⟨_, rfl, ?_⟩
    have lb4 := lb.go hR4 k4
    refine ⟨_, rfl, q _ _ lb4.kp hR4 ?_⟩
    rw [hdt, List.append_nil]
    exact lb4.at
  | cons p todo =>
    have hR3' : Rd' C r H3 (tN p.1 :: tS ":" :: tU p.2 :: tS ";" :: ((todo.map fun p => kPar p ++ [tS ";"]).flatten ++ (tS "}" :: post))) b := by simpa only [kPar, List.map_cons, List.flatten_cons, List.append_assoc, List.cons_append, List.nil_append] using hR3
    refine r_skipN rfl hR3' fun H4 k4 hR4 => ⟨_, rfl, ?_⟩
    refine ⟨_, fun _ _ h => h, ?_⟩
    refine r_take rfl hR4 rfl fun H5 k5 hR5 => ?_
    refine r_need rfl hR5 fun H6 k6 hR6 => ?_
    refine ⟨_, rfl, (lb.go hR6 ((k4.trans k5).trans k6)).ty, _, rfl, r_take rfl hR6 rfl fun H7 k7 hR7 => ⟨by walk_at "le", fun t H8 ht s8 e8 => ?_⟩⟩
    have k := ((k4.trans k5).trans k6).trans k7
    have hl2 := hl
    rw [hdt] at hl2
    obtain ⟨us, e, hlt, go⟩ := lb.ap (hR7.same s8) (k.trans (Kp.same s8)) (at_tup (hR7.dm k) ht e8 (.cons (.str _) (.cons (.int _) .nil))) (by simp at hl2 ⊢; omega)
    refine ⟨_, _, _, rfl, rfl, e, hlt, fun H9 k9 e9 => ?_⟩
    obtain ⟨lb9, hR9⟩ := go H9 k9 e9
    refine r_need rfl hR9 fun H10 k10 hR10 => ?_
    refine ⟨todo.length, by simp, done ++ [p], todo, by simp [hdt], rfl, ⟨_, rfl⟩, ?_, hR10⟩
    rw [List.map_append]
    exact lb9.go hR10 k10
end
end WP
namespace WP
open PySem PySem.Spec PyProof.Rows L2 TL
local macro_rules | `(tactic| walk_at "len") => `(tactic| (show _ ≤ sizeLine; rw [sizeLine_eq]; (try simp only [al, lit_len]); (try simp) <;> omega))
local macro_rules | `(tactic| walk_at "lt") => `(tactic| (show _ < sizeLine; rw [sizeLine_eq]; (try simp only [List.length_map, List.length_append, List.length_cons, List.length_nil, List.length_take]); omega))
local macro_rules | `(tactic| walk_at "le") => `(tactic| (show _ ≤ sizeLine; rw [sizeLine_eq]; (try simp only [List.length_map, List.length_append, List.length_cons, List.length_nil, List.length_take]); omega))
local macro_rules | `(tactic| walk_at "now") => `(tactic| first | assumption | (refine (by assumption : Same _ _) _ _ ?_; walk_at "now"))
local macro_rules | `(tactic| walk_at "at") => `(tactic| first | exact at0 | exact at1 | exact at2 | exact at3 | exact at4 | exact at5 | exact at6 | exact at7 | exact at8)
local macro_rules | `(tactic| walk_at "v") => `(tactic| refine ⟨_, rfl, ?_⟩)
local macro_rules | `(tactic| walk_at "ix") => `(tactic| refine ⟨_, _, _, _, rfl, rfl, SqT.of (by walk_at "now"), (by walk_at "at"), ?_⟩)
local macro_rules | `(tactic| walk_at "ixl") => `(tactic| refine ⟨_, _, _, _, rfl, rfl, SqL.of (by walk_at "now"), (by walk_at "at"), ?_⟩)
local macro_rules | `(tactic| walk_at "str") => `(tactic| refine ⟨_, _, rfl, rfl, (by walk_at "len"), ?_⟩)
local macro_rules | `(tactic| walk_at "int") => `(tactic| refine ⟨_, _, rfl, rfl, ?_⟩)
local macro_rules | `(tactic| walk_at "eq") => `(tactic| refine ⟨rfl, _, rfl, ?_⟩)
local macro_rules | `(tactic| walk_at "app") => `(tactic| refine ⟨_, _, _, rfl, rfl, (by walk_at "now"), (by walk_at "lt"), ?_⟩)
local macro_rules | `(tactic| walk_at "ext") => `(tactic| refine ⟨_, _, _, _, rfl, rfl, (by walk_at "now"), (by walk_at "now"), (by walk_at "le"), ?_⟩)
local macro_rules | `(tactic| walk_at "cat") => `(tactic| refine ⟨_, _, _, _, rfl, rfl, (by walk_at "now"), (by walk_at "now"), (by walk_at "le"), ?_⟩)
local macro_rules | `(tactic| walk_at "num") => `(tactic| refine ⟨(by assumption : Nu _), ?_⟩)
local macro_rules | `(tactic| walk_at "ty") => `(tactic| refine ⟨Or.inl ⟨rfl, _, SqL.of (by walk_at "now")⟩, ?_⟩)
local macro_rules | `(tactic| walk_at "un2") => `(tactic| refine ⟨_, _, rfl, SqT.of (by walk_at "now"), rfl, _, _, rfl, _, _, rfl, rfl, ?_⟩)
local macro_rules | `(tactic| walk_at "un3") => `(tactic| refine ⟨_, _, rfl, SqT.of (by walk_at "now"), rfl, _, _, rfl, _, _, rfl, _, _, rfl, rfl, ?_⟩)
local macro_rules | `(tactic| walk_at "un4") => `(tactic| refine ⟨_, _, rfl, SqT.of (by walk_at "now"), rfl, _, _, rfl, _, _, rfl, _, _, rfl, _, _, rfl, rfl, ?_⟩)
local macro_rules | `(tactic| walk_at "un6") => `(tactic| refine ⟨_, _, rfl, SqT.of (by walk_at "now"), rfl, _, _, rfl, _, _, rfl, _, _, rfl, _, _, rfl, _, _, rfl, _, _, rfl, rfl, ?_⟩)
local macro_rules | `(tactic| walk_at "un9") => `(tactic| refine ⟨_, _, rfl, SqT.of (by walk_at "now"), rfl, _, _, rfl, _, _, rfl, _, _, rfl, _, _, rfl, _, _, rfl, _, _, rfl, _, _, rfl, _, _, rfl, _, _, rfl, rfl, ?_⟩)
local macro_rules | `(tactic| walk_at "go") => `(tactic| repeat (first | walk_at "v" | walk_at "eq" | walk_at "ix" | walk_at "str" | walk_at "ty" | walk_at "num"))

def kTail {α : Type} (k : α → List Tok) (l : List α) : List Tok := (l.map fun y => tS "," :: k y).flatten
/-- done's followers: a comma ahead of each but the first of all -/
def kRest {α : Type} (k : α → List Tok) (done todo : List α) : List Tok := match done with
  | [] => kSep k todo
  | _ => kTail k todo
def kArgs (l : List Int) : List Tok := [tS "("] ++ kSep (fun n => [tU n]) l ++ [tS ")"]
def kNames (l : List Str) : List Tok := kSep (fun n => [tN n]) l ++ [tS ";"]
def kHdr (h : Hdr) : List Tok := tN h.1 :: kFields h.2
def kVal (v : Int) : Option Int → List Tok
  | none => [tU v]
  | some m => [tU v, tS "&", tU m]
def kRow (r : Row) : List Tok := kVal r.1 r.2.1 ++ [tS "->"] ++ kTgt r.2.2 ++ [tS ";"]
def kSelect (s : Fld × List Row × Str) : List Tok := kFld s.1 ++ [tS "{"] ++ (s.2.1.map kRow).flatten ++ [tW "else", tS "->"] ++ kTgt s.2.2 ++ [tS ";", tS "}"]
def kNxt : Nxt → List Tok
  | .go t => [tW "go"] ++ kTgt t ++ [tS ";"]
  | .sel f rows o => [tW "select"] ++ kSelect (f, rows, o)
def kExt : Option Str → List Tok
  | none => []
  | some h => [tW "extract", tN h, tS ";"]
def kSta (s : Sta) : List Tok := [tN s.name, tS "{"] ++ kExt s.hdr ++ kNxt s.nxt ++ [tS "}"]
def kOpn : Opn → List Tok
  | .set f e => kFld f ++ [tS "="] ++ kExp e ++ [tS ";"]
  | .send e => [tW "send"] ++ kExp e ++ [tS ";"]
  | .drop => [tW "drop", tS ";"]
  | .add h => [tW "add", tN h, tS ";"]
  | .rem h => [tW "remove", tN h, tS ";"]
def kAct (a : Act) : List Tok := [tN a.name, tS "("] ++ kSep kPar a.params ++ [tS ")", tS "{"] ++ (a.ops.map kOpn).flatten ++ [tS "}"]
def kTab (t : Tab) : List Tok := [tN t.name, tS "{"] ++ (t.keys.map fun k => tW "key" :: kKey k).flatten ++ (t.uses.map fun u => [tW "use", tN u, tS ";"]).flatten ++ [tW "default", tN t.dflt] ++ kArgs t.args ++ [tS ";", tW "size", tU t.size, tS ";", tS "}"]
def kTst : Tst → List Tok
  | .nt t => tW "not" :: kTst t
  | .valid h => [tW "valid", tN h]
  | .cmp sg f n => kFld f ++ [tS (cmpS sg), tU n]
def kElse (ls : List Tok) : Bool → List Tok
  | true => [tW "else", tS "{"] ++ ls ++ [tS "}"]
  | false => []
def kB : Blk → List Tok
  | .nil => []
  | .app t r => [tW "apply", tN t, tS ";"] ++ kB r
  | .ifs t a b r => [tW "if"] ++ kTst t ++ [tS "{"] ++ kB a ++ [tS "}"] ++ kElse (kB b) b.some ++ kB r
def kMeta (m : List Par) : List Tok := if m = [] then [] else tW "meta" :: kFields m
def kEmit (e : List Str) : List Tok := if e = [] then [] else tW "emit" :: kNames e
def kRep {α : Type} (w : Str) (k : α → List Tok) (l : List α) : List Tok := (l.map fun x => tW w :: k x).flatten
def kPrg (p : Prg) : List Tok := [tW "program", tN p.name] ++ kRep "header" kHdr p.hdrs ++ kMeta p.meta' ++ [tW "parser", tS "{"] ++ kRep "state" kSta p.stas ++ [tS "}"] ++ kRep "action" kAct p.acts ++ kRep "table" kTab p.tabs ++
  [tW "control", tS "{"] ++ kB p.ctl ++ [tS "}"] ++ kEmit p.emits
theorem kRest_nil {α : Type} {k : α → List Tok} {done : List α} : kRest k done [] = [] := by
  cases done <;> rfl
theorem kRest_cons {α : Type} {k : α → List Tok} {done : List α} {x : α} {todo : List α} : kRest k done (x :: todo) = (if done = [] then [] else [tS ","]) ++ (k x ++ kRest k (done ++ [x]) todo) := by
  cases done with
  | nil => rfl
  | cons d ds => simp [kRest, kTail]
theorem sep_hd {α : Type} {done : List α} {X ks : List Tok} {t0 : Tok} (h : X = t0 :: ks) (h1 : seesB t0 ")" = false) (h2 : TokOk t0) : ∃ t rest, (if done = [] then [] else [tS ","]) ++ X = t :: rest ∧ seesB t ")" = false ∧ TokOk t := by
  by_cases hd : done = []
  · rw [if_pos hd]; exact ⟨_, _, h, h1, h2⟩
  · rw [if_neg hd]; exact ⟨_, _, rfl, by decide +kernel, fun _ => ⟨_, rfl⟩⟩
theorem LB.len {r : Addr × Addr} {L : Addr} {Hi H : Hp} {ds : List PyData} (h : LB r L Hi H ds) : ∃ vs, H L = some (.lst vs) ∧ vs.length = ds.length := by
  obtain ⟨vs, e, a⟩ := h.vs
  exact ⟨vs, e, a.len⟩
section
variable {P : Program} {w : World} {K : PySem.W.Frag} {mg : Str → Option Value} {base : Heap} {C : Addr} {k : Nat}
def oV : Option Int → V
  | none => .non
  | some m => .int m
theorem oV_at {H : Hp} : ∀ (m : Option Int), At H (oV m) (eOI m)
  | none => .non
  | some m => .int m
def kMask : Option Int → List Tok
  | none => []
  | some m => [tS "&", tU m]
theorem kVal_eq (n : Int) (m : Option Int) : kVal n m = tU n :: kMask m := by cases m <;> rfl
theorem r_mask {r : Addr × Addr} {σ : L2.St} {H : Hp} {Q : VK} {post : List Tok} {b jj : Nat} {m : Option Int} (hσ : σ[jj]? = some (some (.ref r.1))) (hR : Rd' C r H (kMask m ++ (tS "->" :: post)) b) (q : ∀ H', Kp [r.1] H H' → Rd' C r H' (tS "->" :: post) b → Q (oV m) H') :
    tIf (tB (tMeth C "skip" (spSkip C) [] E0 (tVar jj) (tCons (tC (.str "&")) tNil))) (tMeth C "take" (spTake C) [] E0 (tVar jj) (tCons (tC (.str "number")) tNil)) (tC .non) σ H Q := by
  cases m with
  | none => exact r_skipN hσ hR (fun H1 k1 hR1 => ⟨_, rfl, q _ k1 hR1⟩)
  | some m => exact r_skipY hσ hR (fun H1 k1 hR1 => ⟨_, rfl, iteT (r_take hσ hR1 rfl fun H2 k2 hR2 => q _ (k1.trans k2) hR2)⟩)
theorem LB.start' {r : Addr × Addr} {L : Addr} {Hi H : Hp} {ds : List PyData} {rest : List Tok} {b : Nat} {vs : List V} (hR : Rd' C r Hi rest b) (h : Hi L = none) (s : Same Hi H) (e : H L = some (.lst vs)) (a : ∀ H, AtL H vs ds) : LB r L Hi H ds :=
  ⟨h, hR.ne1, hR.ne2, Kp.same s, Same.dm s, vs, e, a _⟩
abbrev s_numbers : Stmt := top 35
abbrev n_numbers : List Str := ["reader", "found"]
theorem sc_numbers : FnScope n_numbers ["reader"] (defScope s_numbers) := ⟨rfl, rfl, rfl, by decide +kernel, rfl, by decide +kernel, by decide +kernel⟩
/- slots: 0 reader, 1 found -/
theorem ok_numbers (B : Bt mg) (R : RM P w K mg base C k) (h : Has K mg "numbers" s_numbers ["reader"]) : Ok P w K mg base (k + 1) "numbers" ["reader"] (spW C kArgs (fun l => .list (l.map .int)) (fun l => l.length ≤ 16)) := by
  obtain ⟨_, _, G_skip, mt_skip, b_skip⟩ := R.skip.ex
  obtain ⟨_, _, G_need, mt_need, b_need⟩ := R.need.ex
  obtain ⟨_, _, G_take, mt_take, b_take⟩ := R.take.ex
  obtain ⟨_, _, G_kind, mt_kind, b_kind⟩ := R.kind.ex
  obtain ⟨_, _, G_sees, mt_sees, b_sees⟩ := R.sees.ex
  obtain ⟨_, _, G_fail, mt_fail, b_fail⟩ := R.fail.ex
  have c_Reader := R.T.cl
  refine h.ok sc_numbers (fun vs H Q E h => ?_) (fun f0 cdv A outer s H vs Q E hr h => ?_)
  · obtain ⟨_, _, _, _, rfl, _⟩ := h; rfl
  obtain ⟨r, l, post, b, rfl, hR, hl, q⟩ := h
  refine ⟨_, (pss_cons (ps_set (i := 1) sc_numbers.nd rfl (Or.inl rfl) (pe_lstS pa_nil))
    (pss_cons (ps_expr (pe_meth (pv 0) c_Reader mt_need G_need hr b_need .nil pass0 (pa_cons pe_str pa_nil)))
    (pss_cons (ps_while PassesOwn.never (pt_not (pt_val (pe_meth (pv 0) c_Reader mt_skip G_skip hr b_skip .nil pass0 (pa_cons pe_str pa_nil)))) (Evl.pss_cut (ps_if (pt_cmpR op_gt (pe_callB call_len_seq (by rfl) B.len PySem.boot_len (pa_cons (pv 1) pa_nil)) pe_int (nomark _)) (pss_one (ps_expr (pe_meth (pv 0) c_Reader mt_need G_need hr b_need .nil pass0 (pa_cons pe_str pa_nil)))) pss_nil)
    (pss_one (ps_expr (pe_bm PySem.F.plainAttrs_list PySem.F.slot_list_append PySem.F.type_list_append mt_appendS (pv 1) (pa_cons (pe_meth (pv 0) c_Reader mt_take G_take hr b_take .nil pass0 (pa_cons pe_str pa_nil)) pa_nil))))))
    (pss_one (ps_ret (pv 1)))))), ?_⟩
  have hR0 : Rd' C r H (tS "(" :: (kRest (fun n => [tU n]) [] l ++ (tS ")" :: post))) b := by simpa only [kArgs, kRest, List.append_assoc, List.cons_append, List.nil_append] using hR
  refine ⟨by walk_at "le", fun L H1 hL s1 e1 => ?_⟩
  have lb1 := LB.start hR0 hL s1 e1
  refine r_need rfl (hR0.same s1) fun H2 k2 hR2 => ?_
  have lb2 := lb1.go hR2 k2
  refine ⟨fun m σ' H' => ∃ done todo, l = done ++ todo ∧ m = todo.length ∧ σ' = [some (.ref r.1), some (.ref L)] ∧ LB r L H H' (done.map .int) ∧ Rd' C r H' (kRest (fun n => [tU n]) done todo ++ (tS ")" :: post)) b, ⟨_, [], l, rfl, rfl, rfl, lb2, hR2⟩, ?_⟩
  rintro m σ' H3 ⟨done, todo, hdt, rfl, rfl, lb, hR3⟩
  cases todo with
  | nil =>
    rw [kRest_nil] at hR3
    refine r_skipY rfl hR3 fun H4 k4 hR4 => ⟨_, rfl, ?_⟩
    have lb4 := lb.go hR4 k4
    refine ⟨_, rfl, q _ _ lb4.kp hR4 ?_⟩
    rw [hdt, List.append_nil]
    exact lb4.at
  | cons n todo =>
    rw [kRest_cons] at hR3
    obtain ⟨t, rest, e, hs, ok⟩ := sep_hd (done := done) (X := [tU n] ++ kRest (fun n => [tU n]) (done ++ [n]) todo ++ (tS ")" :: post)) rfl (seesU n ")") (okU n)
    rw [List.append_assoc, e] at hR3
    refine r_skipN rfl hR3 (fun H4 k4 hR4 => ⟨_, rfl, ?_⟩) hs ok
    refine ⟨_, fun _ _ h => h, ?_⟩
    have lb4 := lb.go hR4 k4
    refine ⟨fun σ' H5 => σ' = [some (.ref r.1), some (.ref L)] ∧ LB r L H H5 (done.map .int) ∧ Rd' C r H5 (tU n :: (kRest (fun n => [tU n]) (done ++ [n]) todo ++ (tS ")" :: post))) b, ?_, ?_⟩
    · obtain ⟨us, eu, hus⟩ := lb4.len
      refine ⟨_, rfl, L, us, rfl, .inl (SqL.of eu), _, _, rfl, rfl, _, rfl, ?_⟩
      rw [← e] at hR4
      by_cases hd : done = []
      · rw [if_pos hd] at hR4
        rw [decide_eq_false (by rw [hus, hd]; decide)]
        exact ⟨rfl, lb4, hR4⟩
      · rw [if_neg hd] at hR4
        have : 0 < done.length := List.length_pos_iff.mpr hd
        rw [decide_eq_true (by rw [hus, List.length_map]; omega)]
        refine iteT (r_need rfl hR4 fun H5 k5 hR5 => ⟨rfl, lb4.go hR5 k5, hR5⟩)
    rintro σ' H5 ⟨rfl, lb5, hR5⟩
    refine ⟨_, rfl, lb5.ty, r_take rfl hR5 rfl fun H6 k6 hR6 => ?_⟩
    have hl2 := hl
    rw [hdt] at hl2
    obtain ⟨us, e, hlt, go⟩ := lb5.ap (d := .int n) hR6 k6 (.int n) (by simp at hl2 ⊢; omega)
    refine ⟨_, _, _, rfl, rfl, e, hlt, fun H7 k7 e7 => ?_⟩
    obtain ⟨lb7, hR7⟩ := go H7 k7 e7
    refine ⟨todo.length, by simp, done ++ [n], todo, by simp [hdt], rfl, rfl, ?_, hR7⟩
    rw [List.map_append]
    exact lb7
abbrev s_names : Stmt := top 39
abbrev n_names : List Str := ["reader", "found"]
theorem sc_names : FnScope n_names ["reader"] (defScope s_names) := ⟨rfl, rfl, rfl, by decide +kernel, rfl, by decide +kernel, by decide +kernel⟩
/- slots: 0 reader, 1 found -/
theorem ok_names (R : RM P w K mg base C k) (h : Has K mg "names" s_names ["reader"]) : Ok P w K mg base (k + 1) "names" ["reader"] (spW C kNames (fun l => .list (l.map .str)) (fun l => l.length ≤ 16 ∧ l ≠ [])) := by
  obtain ⟨_, _, G_skip, mt_skip, b_skip⟩ := R.skip.ex
  obtain ⟨_, _, G_need, mt_need, b_need⟩ := R.need.ex
  obtain ⟨_, _, G_take, mt_take, b_take⟩ := R.take.ex
  obtain ⟨_, _, G_kind, mt_kind, b_kind⟩ := R.kind.ex
  obtain ⟨_, _, G_sees, mt_sees, b_sees⟩ := R.sees.ex
  obtain ⟨_, _, G_fail, mt_fail, b_fail⟩ := R.fail.ex
  have c_Reader := R.T.cl
  refine h.ok sc_names (fun vs H Q E h => ?_) (fun f0 cdv A outer s H vs Q E hr h => ?_)
  · obtain ⟨_, _, _, _, rfl, _⟩ := h; rfl
  obtain ⟨r, l, post, b, rfl, hR, ⟨hl, hne⟩, q⟩ := h
  refine ⟨_, (pss_cons (ps_set (i := 1) sc_names.nd rfl (Or.inl rfl) (pe_lstS (pa_cons (pe_meth (pv 0) c_Reader mt_take G_take hr b_take .nil pass0 (pa_cons pe_str pa_nil)) pa_nil)))
    (pss_cons (ps_while PassesOwn.never (pt_val (pe_meth (pv 0) c_Reader mt_skip G_skip hr b_skip .nil pass0 (pa_cons pe_str pa_nil))) (pss_one (ps_expr (pe_bm PySem.F.plainAttrs_list PySem.F.slot_list_append PySem.F.type_list_append mt_appendS (pv 1) (pa_cons (pe_meth (pv 0) c_Reader mt_take G_take hr b_take .nil pass0 (pa_cons pe_str pa_nil)) pa_nil)))))
    (pss_cons (ps_expr (pe_meth (pv 0) c_Reader mt_need G_need hr b_need .nil pass0 (pa_cons pe_str pa_nil)))
    (pss_one (ps_ret (pv 1)))))), ?_⟩
  obtain ⟨x, xs, rfl⟩ : ∃ x xs, l = x :: xs := by
    cases l with
    | nil => exact absurd rfl hne
    | cons x xs => exact ⟨x, xs, rfl⟩
  have hR0 : Rd' C r H (tN x :: (kTail (fun n => [tN n]) xs ++ (tS ";" :: post))) b := by simpa only [kNames, kSep, kTail, List.append_assoc, List.cons_append, List.nil_append] using hR
  refine r_take rfl hR0 rfl fun H0 k0 hR1 => ?_
  refine ⟨by walk_at "le", fun L H1 hL s1 e1 => ?_⟩
  have lb1 := LB.start' (ds := [.str x]) hR1 hL s1 e1 (fun _ => .cons (.str _) .nil)
  refine ⟨fun m σ' H' => ∃ done todo, x :: xs = done ++ todo ∧ m = todo.length ∧ σ' = [some (.ref r.1), some (.ref L)] ∧ LB r L H0 H' (done.map .str) ∧ Rd' C r H' (kTail (fun n => [tN n]) todo ++ (tS ";" :: post)) b, ⟨_, [x], xs, rfl, rfl, rfl, lb1, hR1.same s1⟩, ?_⟩
  rintro m σ' H3 ⟨done, todo, hdt, rfl, rfl, lb, hR3⟩
  cases todo with
  | nil =>
    refine r_skipN rfl hR3 fun H4 k4 hR4 => ⟨_, rfl, ?_⟩
    refine r_need rfl hR4 fun H5 k5 hR5 => ?_
    have lb5 := lb.go hR5 (k4.trans k5)
    refine ⟨_, rfl, q _ _ (k0.trans lb5.kp) hR5 ?_⟩
    rw [hdt, List.append_nil]
    exact lb5.at.mono (nw0 (hR1.dm k0))
  | cons n todo =>
    refine r_skipY rfl hR3 fun H4 k4 hR4 => ⟨_, rfl, ?_⟩
    refine ⟨_, fun _ _ h => h, ?_⟩
    have lb5 := lb.go hR4 k4
    refine ⟨_, rfl, lb5.ty, r_take rfl hR4 rfl fun H6 k6 hR6 => ?_⟩
    rw [hdt] at hl
    obtain ⟨us, e, hlt, go⟩ := lb5.ap (d := .str n) hR6 k6 (.str n) (by simp at hl ⊢; omega)
    refine ⟨_, _, _, rfl, rfl, e, hlt, fun H7 k7 e7 => ?_⟩
    obtain ⟨lb7, hR7⟩ := go H7 k7 e7
    refine ⟨todo.length, by simp, done ++ [n], todo, by simp [hdt], rfl, rfl, ?_, hR7⟩
    rw [List.map_append]
    exact lb7
abbrev s_header : Stmt := top 40
abbrev n_header : List Str := ["reader", "name"]
theorem sc_header : FnScope n_header ["reader"] (defScope s_header) := ⟨rfl, rfl, rfl, by decide +kernel, rfl, by decide +kernel, by decide +kernel⟩
/- slots: 0 reader, 1 name -/
theorem ok_header (R : RM P w K mg base C k) (h : Has K mg "header" s_header ["reader"]) (c1 : Ok P w K mg base k "fields" ["reader"] (spW C kFields (fun l => .list (l.map ePar)) (fun l => l.length ≤ 16))) : Ok P w K mg base (k + 1) "header" ["reader"] (spW C kHdr eHdr wHdr) := by
  obtain ⟨_, _, G_skip, mt_skip, b_skip⟩ := R.skip.ex
  obtain ⟨_, _, G_need, mt_need, b_need⟩ := R.need.ex
  obtain ⟨_, _, G_take, mt_take, b_take⟩ := R.take.ex
  obtain ⟨_, _, G_kind, mt_kind, b_kind⟩ := R.kind.ex
  obtain ⟨_, _, G_sees, mt_sees, b_sees⟩ := R.sees.ex
  obtain ⟨_, _, G_fail, mt_fail, b_fail⟩ := R.fail.ex
  have c_Reader := R.T.cl
  obtain ⟨_, _, G_fields, m_fields, k_fields, b_fields⟩ := c1.ex
  refine h.ok sc_header (fun vs H Q E h => ?_) (fun f0 cdv A outer s H vs Q E hr h => ?_)
  · obtain ⟨_, _, _, _, rfl, _⟩ := h; rfl
  obtain ⟨r, x, post, b, rfl, hR, hl, q⟩ := h
  refine ⟨_, (pss_cons (ps_set (i := 1) sc_header.nd rfl (Or.inl rfl) (pe_meth (pv 0) c_Reader mt_take G_take hr b_take .nil pass0 (pa_cons pe_str pa_nil)))
    (pss_one (ps_ret (pe_tupS (pa_cons pe_str (pa_cons (pv 1) (pa_cons (pe_call G_fields hr (by rfl) m_fields k_fields b_fields .nil pass0 (pa_cons (pv 0) pa_nil)) pa_nil))))))), ?_⟩
  refine r_take rfl hR rfl fun H1 k1 hR1 => ?_
  refine ⟨_, rfl, _, rfl, r, x.2, post, b, rfl, hR1, hl.2.1, fun v H2 k2 hR2 h2 => ⟨by walk_at "le", fun p H3 hp s3 e3 => ?_⟩⟩
  have k := k1.trans k2
  exact q _ _ (k.trans (Kp.same s3)) (hR2.same s3) (at_tup (hR2.dm k) hp e3 (.cons (.str _) (.cons (.str _) (.cons ((h2.mono (nw0 (hR1.dm k1))).mono (nws s3)) .nil))))
abbrev s_selection : Stmt := top 30
abbrev n_selection : List Str := ["reader", "chosen", "rows", "value", "mask", "other"]
theorem sc_selection : FnScope n_selection ["reader"] (defScope s_selection) := ⟨rfl, rfl, rfl, by decide +kernel, rfl, by decide +kernel, by decide +kernel⟩
/- slots: 0 reader, 1 chosen, 2 rows, 3 value, 4 mask, 5 other -/
theorem ok_selection (R : RM P w K mg base C k) (h : Has K mg "selection" s_selection ["reader"]) (c1 : Ok P w K mg base k "field" ["reader"] (spP C kFld eFld folT)) (c2 : Ok P w K mg base k "target" ["reader"] (spP C kTgt PyData.str folT)) : Ok P w K mg base (k + 1) "selection" ["reader"] (spW C kSelect (fun s => eNxt (.sel s.1 s.2.1 s.2.2)) (fun s => s.2.1.length ≤ 16)) := by
  obtain ⟨_, _, G_skip, mt_skip, b_skip⟩ := R.skip.ex
  obtain ⟨_, _, G_need, mt_need, b_need⟩ := R.need.ex
  obtain ⟨_, _, G_take, mt_take, b_take⟩ := R.take.ex
  obtain ⟨_, _, G_kind, mt_kind, b_kind⟩ := R.kind.ex
  obtain ⟨_, _, G_sees, mt_sees, b_sees⟩ := R.sees.ex
  obtain ⟨_, _, G_fail, mt_fail, b_fail⟩ := R.fail.ex
  have c_Reader := R.T.cl
  obtain ⟨_, _, G_field, m_field, k_field, b_field⟩ := c1.ex
  obtain ⟨_, _, G_target, m_target, k_target, b_target⟩ := c2.ex
  refine h.ok sc_selection (fun vs H Q E h => ?_) (fun f0 cdv A outer s H vs Q E hr h => ?_)
  · obtain ⟨_, _, _, _, rfl, _⟩ := h; rfl
  obtain ⟨r, ⟨f, l, o⟩, post, b, rfl, hR, hl, q⟩ := h
  dsimp only at hl
  refine ⟨_, (pss_cons (ps_set (i := 1) sc_selection.nd rfl (Or.inl rfl) (pe_call G_field hr (by rfl) m_field k_field b_field .nil pass0 (pa_cons (pv 0) pa_nil)))
    (pss_cons (ps_set (i := 2) sc_selection.nd rfl (Or.inl rfl) (pe_lstS pa_nil))
    (pss_cons (ps_expr (pe_meth (pv 0) c_Reader mt_need G_need hr b_need .nil pass0 (pa_cons pe_str pa_nil)))
    (pss_cons (ps_while PassesOwn.never (pt_cmpR op_eq (pe_meth0 (pv 0) c_Reader mt_kind G_kind hr b_kind .nil pass0) pe_str (nomark _)) (pss_cons (ps_set (i := 3) sc_selection.nd rfl (Or.inl rfl) (pe_meth (pv 0) c_Reader mt_take G_take hr b_take .nil pass0 (pa_cons pe_str pa_nil)))
    (pss_cons (ps_set (i := 4) sc_selection.nd rfl (Or.inl rfl) (pe_ifExp (pt_val (pe_meth (pv 0) c_Reader mt_skip G_skip hr b_skip .nil pass0 (pa_cons pe_str pa_nil))) (pe_meth (pv 0) c_Reader mt_take G_take hr b_take .nil pass0 (pa_cons pe_str pa_nil)) pe_non))
    (pss_cons (ps_expr (pe_meth (pv 0) c_Reader mt_need G_need hr b_need .nil pass0 (pa_cons pe_str pa_nil)))
    (pss_cons (ps_expr (pe_bm PySem.F.plainAttrs_list PySem.F.slot_list_append PySem.F.type_list_append mt_appendS (pv 2) (pa_cons (pe_tupS (pa_cons (pv 3) (pa_cons (pv 4) (pa_cons (pe_call G_target hr (by rfl) m_target k_target b_target .nil pass0 (pa_cons (pv 0) pa_nil)) pa_nil)))) pa_nil)))
    (pss_one (ps_expr (pe_meth (pv 0) c_Reader mt_need G_need hr b_need .nil pass0 (pa_cons pe_str pa_nil)))))))))
    (pss_cons (ps_expr (pe_meth (pv 0) c_Reader mt_need G_need hr b_need .nil pass0 (pa_cons pe_str pa_nil)))
    (pss_cons (ps_expr (pe_meth (pv 0) c_Reader mt_need G_need hr b_need .nil pass0 (pa_cons pe_str pa_nil)))
    (pss_cons (ps_set (i := 5) sc_selection.nd rfl (Or.inl rfl) (pe_call G_target hr (by rfl) m_target k_target b_target .nil pass0 (pa_cons (pv 0) pa_nil)))
    (pss_cons (ps_expr (pe_meth (pv 0) c_Reader mt_need G_need hr b_need .nil pass0 (pa_cons pe_str pa_nil)))
    (pss_cons (ps_expr (pe_meth (pv 0) c_Reader mt_need G_need hr b_need .nil pass0 (pa_cons pe_str pa_nil)))
    (pss_one (ps_ret (pe_tupS (pa_cons pe_str (pa_cons (pv 1) (pa_cons (pv 2) (pa_cons (pv 5) pa_nil)))))))))))))))), ?_⟩
  have hR0 : Rd' C r H (kFld f ++ (tS "{" :: ((l.map kRow).flatten ++ (tW "else" :: tS "->" :: (kTgt o ++ (tS ";" :: tS "}" :: post)))))) b := by simpa only [kSelect, List.append_assoc, List.cons_append, List.nil_append] using hR
  refine ⟨_, rfl, r, f, _, b, rfl, hR0, trivial, fun v H1 k1 hR1 h1 => ?_⟩
  refine ⟨by walk_at "le", fun L H2 hL s2 e2 => ?_⟩
  have lb2 := LB.start hR1 hL s2 e2
  refine r_need rfl (hR1.same s2) fun H3 k3 hR3 => ?_
  have lb3 := lb2.go hR3 k3
  refine ⟨fun m σ' H' => ∃ done todo, l = done ++ todo ∧ m = todo.length ∧ (∃ x y, σ' = [some (.ref r.1), some v, some (.ref L), x, y, none]) ∧ LB r L H1 H' (done.map eRow) ∧ Rd' C r H' ((todo.map kRow).flatten ++ (tW "else" :: tS "->" :: (kTgt o ++ (tS ";" :: tS "}" :: post)))) b, ⟨_, [], l, rfl, rfl, ⟨_, _, rfl⟩, lb3, hR3⟩, ?_⟩
  rintro m σ' H4 ⟨done, todo, hdt, rfl, ⟨x, y, rfl⟩, lb, hR4⟩
  cases todo with
  | nil =>
    refine r_kind rfl hR4 ⟨rfl, _, rfl, ?_⟩
    refine ifN (by first | exact kne1 | exact kne2 | exact kne3) ?_
    refine r_need rfl hR4 fun H5 k5 hR5 => ?_
    refine r_need rfl hR5 fun H6 k6 hR6 => ?_
    refine ⟨_, rfl, r, o, _, b, rfl, hR6, trivial, fun v2 H7 k7 hR7 h7 => ?_⟩
    obtain rfl := h7.str_inv
    refine r_need rfl hR7 fun H8 k8 hR8 => ?_
    refine r_need rfl hR8 fun H9 k9 hR9 => ?_
    have k59 := (((k5.trans k6).trans k7).trans k8).trans k9
    have lb9 := lb.go hR9 k59
    refine ⟨_, rfl, _, rfl, _, rfl, by walk_at "le", fun p H10 hp s10 e10 => ?_⟩
    have kk := (k1.trans lb9.kp)
    refine q _ _ (kk.trans (Kp.same s10)) (hR9.same s10) (at_tup (hR9.dm kk) hp e10 (.cons (.str _) (.cons ?_ (.cons ?_ (.cons (.str _) .nil)))))
    · exact (h1.mono (nw1 lb9.kp hR.ne)).mono (nws s10)
    · rw [hdt, List.append_nil]
      exact (lb9.at.mono (nw0 (hR1.dm k1))).mono (nws s10)
  | cons p todo =>
    obtain ⟨n, mk, tg⟩ := p
    have hR4' : Rd' C r H4 (kVal n mk ++ (tS "->" :: (kTgt tg ++ (tS ";" :: ((todo.map kRow).flatten ++ (tW "else" :: tS "->" :: (kTgt o ++ (tS ";" :: tS "}" :: post)))))))) b := by simpa only [kRow, List.map_cons, List.flatten_cons, List.append_assoc, List.cons_append, List.nil_append] using hR4
    rw [kVal_eq] at hR4'
    refine r_kind rfl hR4' ⟨rfl, _, rfl, ?_⟩
    refine ifE rfl ?_
    refine ⟨_, fun _ _ h => h, ?_⟩
    refine r_take rfl hR4' rfl fun H5 k5 hR5 => ?_
    refine r_mask (m := mk) rfl hR5 fun H6 k6 hR6 => ?_
    refine r_need rfl hR6 fun H7 k7 hR7 => ?_
    have k47 := (k5.trans k6).trans k7
    refine ⟨_, rfl, (lb.go hR7 k47).ty, _, rfl, _, rfl, _, rfl, r, tg, _, b, rfl, hR7, trivial, fun v2 H8 k8 hR8 h8 => ⟨by walk_at "le", fun t H9 ht s9 e9 => ?_⟩⟩
    obtain rfl := h8.str_inv
    have k := k47.trans k8
    rw [hdt] at hl
    obtain ⟨us, e, hlt, go⟩ := lb.ap (hR8.same s9) (k.trans (Kp.same s9)) (at_tup (hR8.dm k) ht e9 (.cons (.int _) (.cons (oV_at _) (.cons (.str _) .nil)))) (by simp at hl ⊢; omega)
    refine ⟨_, _, _, rfl, rfl, e, hlt, fun H10 k10 e10 => ?_⟩
    obtain ⟨lb10, hR10⟩ := go H10 k10 e10
    refine r_need rfl hR10 fun H11 k11 hR11 => ?_
    refine ⟨todo.length, by simp, done ++ [(n, mk, tg)], todo, by simp [hdt], rfl, ⟨_, _, rfl⟩, ?_, hR11⟩
    rw [List.map_append]
    exact lb10.go hR11 k11
end
end WP
namespace WP
open PySem PySem.Spec PyProof.Rows L2 TL
local macro_rules | `(tactic| walk_at "len") => `(tactic| (show _ ≤ sizeLine; rw [sizeLine_eq]; (try simp only [al, lit_len]); (try simp) <;> omega))
local macro_rules | `(tactic| walk_at "lt") => `(tactic| (show _ < sizeLine; rw [sizeLine_eq]; (try simp only [List.length_map, List.length_append, List.length_cons, List.length_nil, List.length_take]); omega))
local macro_rules | `(tactic| walk_at "le") => `(tactic| (show _ ≤ sizeLine; rw [sizeLine_eq]; (try simp only [List.length_map, List.length_append, List.length_cons, List.length_nil, List.length_take]); omega))
local macro_rules | `(tactic| walk_at "now") => `(tactic| first | assumption | (refine (by assumption : Same _ _) _ _ ?_; walk_at "now"))
local macro_rules | `(tactic| walk_at "at") => `(tactic| first | exact at0 | exact at1 | exact at2 | exact at3 | exact at4 | exact at5 | exact at6 | exact at7 | exact at8)
local macro_rules | `(tactic| walk_at "v") => `(tactic| refine ⟨_, rfl, ?_⟩)
local macro_rules | `(tactic| walk_at "ix") => `(tactic| refine ⟨_, _, _, _, rfl, rfl, SqT.of (by walk_at "now"), (by walk_at "at"), ?_⟩)
local macro_rules | `(tactic| walk_at "ixl") => `(tactic| refine ⟨_, _, _, _, rfl, rfl, SqL.of (by walk_at "now"), (by walk_at "at"), ?_⟩)
local macro_rules | `(tactic| walk_at "str") => `(tactic| refine ⟨_, _, rfl, rfl, (by walk_at "len"), ?_⟩)
local macro_rules | `(tactic| walk_at "int") => `(tactic| refine ⟨_, _, rfl, rfl, ?_⟩)
local macro_rules | `(tactic| walk_at "eq") => `(tactic| refine ⟨rfl, _, rfl, ?_⟩)
local macro_rules | `(tactic| walk_at "app") => `(tactic| refine ⟨_, _, _, rfl, rfl, (by walk_at "now"), (by walk_at "lt"), ?_⟩)
local macro_rules | `(tactic| walk_at "ext") => `(tactic| refine ⟨_, _, _, _, rfl, rfl, (by walk_at "now"), (by walk_at "now"), (by walk_at "le"), ?_⟩)
local macro_rules | `(tactic| walk_at "cat") => `(tactic| refine ⟨_, _, _, _, rfl, rfl, (by walk_at "now"), (by walk_at "now"), (by walk_at "le"), ?_⟩)
local macro_rules | `(tactic| walk_at "num") => `(tactic| refine ⟨(by assumption : Nu _), ?_⟩)
local macro_rules | `(tactic| walk_at "ty") => `(tactic| refine ⟨Or.inl ⟨rfl, _, SqL.of (by walk_at "now")⟩, ?_⟩)
local macro_rules | `(tactic| walk_at "un2") => `(tactic| refine ⟨_, _, rfl, SqT.of (by walk_at "now"), rfl, _, _, rfl, _, _, rfl, rfl, ?_⟩)
local macro_rules | `(tactic| walk_at "un3") => `(tactic| refine ⟨_, _, rfl, SqT.of (by walk_at "now"), rfl, _, _, rfl, _, _, rfl, _, _, rfl, rfl, ?_⟩)
local macro_rules | `(tactic| walk_at "un4") => `(tactic| refine ⟨_, _, rfl, SqT.of (by walk_at "now"), rfl, _, _, rfl, _, _, rfl, _, _, rfl, _, _, rfl, rfl, ?_⟩)
local macro_rules | `(tactic| walk_at "un6") => `(tactic| refine ⟨_, _, rfl, SqT.of (by walk_at "now"), rfl, _, _, rfl, _, _, rfl, _, _, rfl, _, _, rfl, _, _, rfl, _, _, rfl, rfl, ?_⟩)
local macro_rules | `(tactic| walk_at "un9") => `(tactic| refine ⟨_, _, rfl, SqT.of (by walk_at "now"), rfl, _, _, rfl, _, _, rfl, _, _, rfl, _, _, rfl, _, _, rfl, _, _, rfl, _, _, rfl, _, _, rfl, _, _, rfl, rfl, ?_⟩)
local macro_rules | `(tactic| walk_at "go") => `(tactic| repeat (first | walk_at "v" | walk_at "eq" | walk_at "ix" | walk_at "str" | walk_at "ty" | walk_at "num"))

theorem fld_hd (f : Fld) : ∃ t ts, (∀ post, kFld f ++ post = t :: (ts ++ post)) ∧ TokOk t ∧ ∀ s : Str, s ≠ "meta" → s ≠ "packet" → seesB t s = false := by
  unfold kFld kOwn
  by_cases h1 : f.1 = "meta"
  · rw [if_pos h1]
    exact ⟨tW "meta", _, fun _ => rfl, fun _ => ⟨_, rfl⟩, fun s a b => by rw [seesW]; exact decide_eq_false fun z => a z.symm⟩
  · rw [if_neg h1]
    by_cases h2 : f.1 = "packet"
    · rw [if_pos h2]
      exact ⟨tW "packet", _, fun _ => rfl, fun _ => ⟨_, rfl⟩, fun s a b => by rw [seesW]; exact decide_eq_false fun z => b z.symm⟩
    · rw [if_neg h2]
      exact ⟨tN f.1, _, fun _ => rfl, fun _ => ⟨_, rfl⟩, fun s _ _ => seesN _ _⟩
section
variable {P : Program} {w : World} {K : PySem.W.Frag} {mg : Str → Option Value} {base : Heap} {C : Addr} {k : Nat}
abbrev s_operation : Stmt := top 32
abbrev n_operation : List Str := ["reader", "found", "goal"]
theorem sc_operation : FnScope n_operation ["reader"] (defScope s_operation) := ⟨rfl, rfl, rfl, by decide +kernel, rfl, by decide +kernel, by decide +kernel⟩
/- slots: 0 reader, 1 found, 2 goal -/
theorem ok_operation (R : RM P w K mg base C k) (h : Has K mg "operation" s_operation ["reader"]) (c1 : Ok P w K mg base k "field" ["reader"] (spP C kFld eFld folT)) (c2 : Ok P w K mg base k "expression" ["reader"] (spP C kExp eExp folS)) : Ok P w K mg base (k + 1) "operation" ["reader"] (spP C kOpn eOpn folT) := by
  obtain ⟨_, _, G_skip, mt_skip, b_skip⟩ := R.skip.ex
  obtain ⟨_, _, G_need, mt_need, b_need⟩ := R.need.ex
  obtain ⟨_, _, G_take, mt_take, b_take⟩ := R.take.ex
  obtain ⟨_, _, G_kind, mt_kind, b_kind⟩ := R.kind.ex
  obtain ⟨_, _, G_sees, mt_sees, b_sees⟩ := R.sees.ex
  obtain ⟨_, _, G_fail, mt_fail, b_fail⟩ := R.fail.ex
  have c_Reader := R.T.cl
  obtain ⟨_, _, G_field, m_field, k_field, b_field⟩ := c1.ex
  obtain ⟨_, _, G_expression, m_expression, k_expression, b_expression⟩ := c2.ex
  refine h.ok sc_operation (fun vs H Q E h => ?_) (fun f0 cdv A outer s H vs Q E hr h => ?_)
  · obtain ⟨_, _, _, _, rfl, _⟩ := h; rfl
  obtain ⟨r, o, post, b, rfl, hR, _, q⟩ := h
  refine ⟨_, (Evl.pss_cut (ps_if (pt_val (pe_meth (pv 0) c_Reader mt_skip G_skip hr b_skip .nil pass0 (pa_cons pe_str pa_nil))) (pss_one (ps_set (i := 1) sc_operation.nd rfl (Or.inl rfl) (pe_tupS (pa_cons pe_str (pa_cons (pe_call G_expression hr (by rfl) m_expression k_expression b_expression .nil pass0 (pa_cons (pv 0) pa_nil)) pa_nil))))) (pss_one (ps_if (pt_val (pe_meth (pv 0) c_Reader mt_skip G_skip hr b_skip .nil pass0 (pa_cons pe_str pa_nil))) (pss_one (ps_set (i := 1) sc_operation.nd rfl (Or.inl rfl) (pe_tupS (pa_cons pe_str pa_nil)))) (pss_one (ps_if (pt_val (pe_meth (pv 0) c_Reader mt_skip G_skip hr b_skip .nil pass0 (pa_cons pe_str pa_nil))) (pss_one (ps_set (i := 1) sc_operation.nd rfl (Or.inl rfl) (pe_tupS (pa_cons pe_str (pa_cons (pe_meth (pv 0) c_Reader mt_take G_take hr b_take .nil pass0 (pa_cons pe_str pa_nil)) pa_nil))))) (pss_one (ps_if (pt_val (pe_meth (pv 0) c_Reader mt_skip G_skip hr b_skip .nil pass0 (pa_cons pe_str pa_nil))) (pss_one (ps_set (i := 1) sc_operation.nd rfl (Or.inl rfl) (pe_tupS (pa_cons pe_str (pa_cons (pe_meth (pv 0) c_Reader mt_take G_take hr b_take .nil pass0 (pa_cons pe_str pa_nil)) pa_nil))))) (pss_cons (ps_set (i := 2) sc_operation.nd rfl (Or.inl rfl) (pe_call G_field hr (by rfl) m_field k_field b_field .nil pass0 (pa_cons (pv 0) pa_nil)))
    (pss_cons (ps_expr (pe_meth (pv 0) c_Reader mt_need G_need hr b_need .nil pass0 (pa_cons pe_str pa_nil)))
    (pss_one (ps_set (i := 1) sc_operation.nd rfl (Or.inl rfl) (pe_tupS (pa_cons pe_str (pa_cons (pv 2) (pa_cons (pe_call G_expression hr (by rfl) m_expression k_expression b_expression .nil pass0 (pa_cons (pv 0) pa_nil)) pa_nil)))))))))))))))
    (pss_cons (ps_expr (pe_meth (pv 0) c_Reader mt_need G_need hr b_need .nil pass0 (pa_cons pe_str pa_nil)))
    (pss_one (ps_ret (pv 1))))), ?_⟩
  refine ⟨fun σ' H1 => ∃ v x, σ' = [some (.ref r.1), some v, x] ∧ Kp [r.1] H H1 ∧ Rd' C r H1 (tS ";" :: post) b ∧ At (Nw H H1) v (eOpn o), ?_, ?_⟩
  · cases o with
    | send e =>
      have hR' : Rd' C r H (tW "send" :: (kExp e ++ (tS ";" :: post))) b := by simpa only [kOpn, List.append_assoc, List.cons_append, List.nil_append] using hR
      refine r_skipY rfl hR' fun H1 k1 hR1 => ⟨_, rfl, ?_⟩
      refine iteT ⟨_, rfl, r, e, _, b, rfl, hR1, ⟨_, rfl⟩, fun v2 H2 k2 hR2 h2 => ⟨by walk_at "le", fun t H3 ht s3 e3 => ?_⟩⟩
      have k := k1.trans k2
      exact ⟨_, _, rfl, k.trans (Kp.same s3), hR2.same s3, at_tup (hR2.dm k) ht e3 (.cons (.str _) (.cons ((h2.mono (nw0 (hR1.dm k1))).mono (nws s3)) .nil))⟩
    | drop =>
      refine r_skipN rfl hR fun H1 k1 hR1 => ⟨_, rfl, ?_⟩
      refine iteF (r_skipY rfl hR1 fun H2 k2 hR2 => ⟨_, rfl, iteT ⟨by walk_at "le", fun t H3 ht s3 e3 => ?_⟩⟩)
      have k := k1.trans k2
      exact ⟨_, _, rfl, k.trans (Kp.same s3), hR2.same s3, at_tup (hR2.dm k) ht e3 (.cons (.str _) .nil)⟩
    | add n =>
      refine r_skipN rfl hR fun H1 k1 hR1 => ⟨_, rfl, ?_⟩
      refine iteF (r_skipN rfl hR1 fun H2 k2 hR2 => ⟨_, rfl, ?_⟩)
      refine iteF (r_skipY rfl hR2 fun H3 k3 hR3 => ⟨_, rfl, ?_⟩)
      refine iteT (r_take rfl hR3 rfl fun H4 k4 hR4 => ⟨by walk_at "le", fun t H5 ht s5 e5 => ?_⟩)
      have k := ((k1.trans k2).trans k3).trans k4
      exact ⟨_, _, rfl, k.trans (Kp.same s5), hR4.same s5, at_tup (hR4.dm k) ht e5 (.cons (.str _) (.cons (.str _) .nil))⟩
    | rem n =>
      refine r_skipN rfl hR fun H1 k1 hR1 => ⟨_, rfl, ?_⟩
      refine iteF (r_skipN rfl hR1 fun H2 k2 hR2 => ⟨_, rfl, ?_⟩)
      refine iteF (r_skipN rfl hR2 fun H3 k3 hR3 => ⟨_, rfl, ?_⟩)
      refine iteF (r_skipY rfl hR3 fun H4 k4 hR4 => ⟨_, rfl, ?_⟩)
      refine iteT (r_take rfl hR4 rfl fun H5 k5 hR5 => ⟨by walk_at "le", fun t H6 ht s6 e6 => ?_⟩)
      have k := (((k1.trans k2).trans k3).trans k4).trans k5
      exact ⟨_, _, rfl, k.trans (Kp.same s6), hR5.same s6, at_tup (hR5.dm k) ht e6 (.cons (.str _) (.cons (.str _) .nil))⟩
    | set f e =>
      have hR' : Rd' C r H (kFld f ++ (tS "=" :: (kExp e ++ (tS ";" :: post)))) b := by simpa only [kOpn, List.append_assoc, List.cons_append, List.nil_append] using hR
      obtain ⟨t, ts, ef, ok, no⟩ := fld_hd f
      rw [ef] at hR'
      refine r_skipN rfl hR' (fun H1 k1 hR1 => ⟨_, rfl, ?_⟩) (no _ (by decide +kernel) (by decide +kernel)) ok
      refine iteF (r_skipN rfl hR1 (fun H2 k2 hR2 => ⟨_, rfl, ?_⟩) (no _ (by decide +kernel) (by decide +kernel)) ok)
      refine iteF (r_skipN rfl hR2 (fun H3 k3 hR3 => ⟨_, rfl, ?_⟩) (no _ (by decide +kernel) (by decide +kernel)) ok)
      refine iteF (r_skipN rfl hR3 (fun H4 k4 hR4 => ⟨_, rfl, ?_⟩) (no _ (by decide +kernel) (by decide +kernel)) ok)
      rw [← ef] at hR4
      refine iteF ⟨_, rfl, r, f, _, b, rfl, hR4, trivial, fun v5 H5 k5 hR5 h5 => ?_⟩
      refine r_need rfl hR5 fun H6 k6 hR6 => ?_
      refine ⟨_, rfl, _, rfl, r, e, _, b, rfl, hR6, ⟨_, rfl⟩, fun v7 H7 k7 hR7 h7 => ⟨by walk_at "le", fun t H8 ht s8 e8 => ?_⟩⟩
      have k14 := ((k1.trans k2).trans k3).trans k4
      have k16 := (k14.trans k5).trans k6
      have k := k16.trans k7
      refine ⟨_, _, rfl, k.trans (Kp.same s8), hR7.same s8, at_tup (hR7.dm k) ht e8 (.cons (.str _) (.cons ?_ (.cons ?_ .nil)))⟩
      · exact ((h5.mono (nw0 (hR4.dm k14))).mono (nw1 (k6.trans k7) hR.ne)).mono (nws s8)
      · exact (h7.mono (nw0 (hR6.dm k16))).mono (nws s8)
  rintro σ' H1 ⟨v, x, rfl, k1, hR1, h1⟩
  refine r_need rfl hR1 fun H2 k2 hR2 => ?_
  exact ⟨_, rfl, q _ _ (k1.trans k2) hR2 (h1.mono (nw1 k2 hR.ne))⟩
abbrev s_state : Stmt := top 31
abbrev n_state : List Str := ["reader", "name", "header", "following"]
theorem sc_state : FnScope n_state ["reader"] (defScope s_state) := ⟨rfl, rfl, rfl, by decide +kernel, rfl, by decide +kernel, by decide +kernel⟩
/- slots: 0 reader, 1 name, 2 header, 3 following -/
theorem ok_state (R : RM P w K mg base C k) (h : Has K mg "state" s_state ["reader"]) (c1 : Ok P w K mg base k "selection" ["reader"] (spW C kSelect (fun s => eNxt (.sel s.1 s.2.1 s.2.2)) (fun s => s.2.1.length ≤ 16))) (c2 : Ok P w K mg base k "target" ["reader"] (spP C kTgt PyData.str folT)) : Ok P w K mg base (k + 1) "state" ["reader"] (spW C kSta eSta wSta) := by
  obtain ⟨_, _, G_skip, mt_skip, b_skip⟩ := R.skip.ex
  obtain ⟨_, _, G_need, mt_need, b_need⟩ := R.need.ex
  obtain ⟨_, _, G_take, mt_take, b_take⟩ := R.take.ex
  obtain ⟨_, _, G_kind, mt_kind, b_kind⟩ := R.kind.ex
  obtain ⟨_, _, G_sees, mt_sees, b_sees⟩ := R.sees.ex
  obtain ⟨_, _, G_fail, mt_fail, b_fail⟩ := R.fail.ex
  have c_Reader := R.T.cl
  obtain ⟨_, _, G_selection, m_selection, k_selection, b_selection⟩ := c1.ex
  obtain ⟨_, _, G_target, m_target, k_target, b_target⟩ := c2.ex
  refine h.ok sc_state (fun vs H Q E h => ?_) (fun f0 cdv A outer s H vs Q E hr h => ?_)
  · obtain ⟨_, _, _, _, rfl, _⟩ := h; rfl
  obtain ⟨r, ⟨nm, hd, nx⟩, post, b, rfl, hR, hw, q⟩ := h
  refine ⟨_, (pss_cons (ps_set (i := 1) sc_state.nd rfl (Or.inl rfl) (pe_meth (pv 0) c_Reader mt_take G_take hr b_take .nil pass0 (pa_cons pe_str pa_nil)))
    (pss_cons (ps_set (i := 2) sc_state.nd rfl (Or.inl rfl) pe_non)
    (pss_cons (ps_expr (pe_meth (pv 0) c_Reader mt_need G_need hr b_need .nil pass0 (pa_cons pe_str pa_nil)))
    (Evl.pss_cut (ps_if (pt_val (pe_meth (pv 0) c_Reader mt_skip G_skip hr b_skip .nil pass0 (pa_cons pe_str pa_nil))) (pss_cons (ps_set (i := 2) sc_state.nd rfl (Or.inl rfl) (pe_meth (pv 0) c_Reader mt_take G_take hr b_take .nil pass0 (pa_cons pe_str pa_nil)))
    (pss_one (ps_expr (pe_meth (pv 0) c_Reader mt_need G_need hr b_need .nil pass0 (pa_cons pe_str pa_nil))))) pss_nil)
    (Evl.pss_cut (ps_if (pt_val (pe_meth (pv 0) c_Reader mt_skip G_skip hr b_skip .nil pass0 (pa_cons pe_str pa_nil))) (pss_cons (ps_set (i := 3) sc_state.nd rfl (Or.inl rfl) (pe_tupS (pa_cons pe_str (pa_cons (pe_call G_target hr (by rfl) m_target k_target b_target .nil pass0 (pa_cons (pv 0) pa_nil)) pa_nil))))
    (pss_one (ps_expr (pe_meth (pv 0) c_Reader mt_need G_need hr b_need .nil pass0 (pa_cons pe_str pa_nil))))) (pss_cons (ps_expr (pe_meth (pv 0) c_Reader mt_need G_need hr b_need .nil pass0 (pa_cons pe_str pa_nil)))
    (pss_one (ps_set (i := 3) sc_state.nd rfl (Or.inl rfl) (pe_call G_selection hr (by rfl) m_selection k_selection b_selection .nil pass0 (pa_cons (pv 0) pa_nil))))))
    (pss_cons (ps_expr (pe_meth (pv 0) c_Reader mt_need G_need hr b_need .nil pass0 (pa_cons pe_str pa_nil)))
    (pss_one (ps_ret (pe_tupS (pa_cons pe_str (pa_cons (pv 1) (pa_cons (pv 2) (pa_cons (pv 3) pa_nil))))))))))))), ?_⟩
  have hR0 : Rd' C r H (tN nm :: tS "{" :: (kExt hd ++ (kNxt nx ++ (tS "}" :: post)))) b := by simpa only [kSta, List.append_assoc, List.cons_append, List.nil_append] using hR
  refine r_take rfl hR0 rfl fun H1 k1 hR1 => ?_
  refine r_need rfl hR1 fun H2 k2 hR2 => ?_
  refine ⟨fun σ' H3 => ∃ v, σ' = [some (.ref r.1), some (.str nm), some v, none] ∧ Kp [r.1] H H3 ∧ Rd' C r H3 (kNxt nx ++ (tS "}" :: post)) b ∧ (∀ H, At H v (eON hd)), ?_, ?_⟩
  · cases hd with
    | none =>
      obtain ⟨t, rest, e, hs, ok⟩ : ∃ t rest, kNxt nx ++ (tS "}" :: post) = t :: rest ∧ seesB t "extract" = false ∧ TokOk t := by
        cases nx with
        | go t => exact ⟨tW "go", _, rfl, by decide +kernel, fun _ => ⟨_, rfl⟩⟩
        | sel f l o => exact ⟨tW "select", _, rfl, by decide +kernel, fun _ => ⟨_, rfl⟩⟩
      have hR2' : Rd' C r H2 (kNxt nx ++ (tS "}" :: post)) b := hR2
      rw [e] at hR2' ⊢
      refine r_skipN rfl hR2' (fun H3 k3 hR3 => ⟨_, rfl, ?_⟩) hs ok
      exact ⟨_, rfl, (k1.trans k2).trans k3, hR3, fun _ => .non⟩
    | some n =>
      refine r_skipY rfl hR2 fun H3 k3 hR3 => ⟨_, rfl, ?_⟩
      refine iteT (r_take rfl hR3 rfl fun H4 k4 hR4 => ?_)
      refine r_need rfl hR4 fun H5 k5 hR5 => ?_
      exact ⟨_, rfl, (((k1.trans k2).trans k3).trans k4).trans k5, hR5, fun _ => .str _⟩
  rintro σ' H3 ⟨v, rfl, k3, hR3, h3⟩
  refine ⟨fun σ' H4 => ∃ u, σ' = [some (.ref r.1), some (.str nm), some v, some u] ∧ Kp [r.1] H H4 ∧ Rd' C r H4 (tS "}" :: post) b ∧ At (Nw H H4) u (eNxt nx), ?_, ?_⟩
  · cases nx with
    | go tg =>
      have hR3' : Rd' C r H3 (tW "go" :: (kTgt tg ++ (tS ";" :: tS "}" :: post))) b := by simpa only [kNxt, List.append_assoc, List.cons_append, List.nil_append] using hR3
      refine r_skipY rfl hR3' fun H4 k4 hR4 => ⟨_, rfl, ?_⟩
      refine iteT ⟨_, rfl, r, tg, _, b, rfl, hR4, trivial, fun v5 H5 k5 hR5 h5 => ⟨by walk_at "le", fun p H6 hp s6 e6 => ?_⟩⟩
      obtain rfl := h5.str_inv
      have k35 := (k3.trans k4).trans k5
      refine r_need rfl (hR5.same s6) fun H7 k7 hR7 => ?_
      refine ⟨_, rfl, (k35.trans (Kp.same s6)).trans k7, hR7, ?_⟩
      exact (at_tup (hR5.dm k35) hp e6 (.cons (.str _) (.cons (.str _) .nil))).mono (nw1 k7 hR.ne)
    | sel f l o =>
      have hR3' : Rd' C r H3 (tW "select" :: (kSelect (f, l, o) ++ (tS "}" :: post))) b := by simpa only [kNxt, List.append_assoc, List.cons_append, List.nil_append] using hR3
      refine r_skipN rfl hR3' fun H4 k4 hR4 => ⟨_, rfl, ?_⟩
      refine iteF (r_need rfl hR4 fun H5 k5 hR5 => ?_)
      refine ⟨_, rfl, r, (f, l, o), _, b, rfl, hR5, hw.2.2.2.1.1, fun v6 H6 k6 hR6 h6 => ?_⟩
      have k35 := (k3.trans k4).trans k5
      exact ⟨_, rfl, k35.trans k6, hR6, h6.mono (nw0 (hR5.dm k35))⟩
  rintro σ' H4 ⟨u, rfl, k4, hR4, h4⟩
  refine r_need rfl hR4 fun H5 k5 hR5 => ?_
  refine ⟨_, rfl, _, rfl, _, rfl, by walk_at "le", fun p H6 hp s6 e6 => ?_⟩
  have k := k4.trans k5
  exact q _ _ (k.trans (Kp.same s6)) (hR5.same s6) (at_tup (hR5.dm k) hp e6 (.cons (.str _) (.cons (.str _) (.cons (h3 _) (.cons ((h4.mono (nw1 k5 hR.ne)).mono (nws s6)) .nil)))))
end
end WP
namespace WP
open PySem PySem.Spec PyProof.Rows L2 TL
local macro_rules | `(tactic| walk_at "len") => `(tactic| (show _ ≤ sizeLine; rw [sizeLine_eq]; (try simp only [al, lit_len]); (try simp) <;> omega))
local macro_rules | `(tactic| walk_at "lt") => `(tactic| (show _ < sizeLine; rw [sizeLine_eq]; (try simp only [List.length_map, List.length_append, List.length_cons, List.length_nil, List.length_take]); omega))
local macro_rules | `(tactic| walk_at "le") => `(tactic| (show _ ≤ sizeLine; rw [sizeLine_eq]; (try simp only [List.length_map, List.length_append, List.length_cons, List.length_nil, List.length_take]); omega))
local macro_rules | `(tactic| walk_at "now") => `(tactic| first | assumption | (refine (by assumption : Same _ _) _ _ ?_; walk_at "now"))
local macro_rules | `(tactic| walk_at "at") => `(tactic| first | exact at0 | exact at1 | exact at2 | exact at3 | exact at4 | exact at5 | exact at6 | exact at7 | exact at8)
local macro_rules | `(tactic| walk_at "v") => `(tactic| refine ⟨_, rfl, ?_⟩)
local macro_rules | `(tactic| walk_at "ix") => `(tactic| refine ⟨_, _, _, _, rfl, rfl, SqT.of (by walk_at "now"), (by walk_at "at"), ?_⟩)
local macro_rules | `(tactic| walk_at "ixl") => `(tactic| refine ⟨_, _, _, _, rfl, rfl, SqL.of (by walk_at "now"), (by walk_at "at"), ?_⟩)
local macro_rules | `(tactic| walk_at "str") => `(tactic| refine ⟨_, _, rfl, rfl, (by walk_at "len"), ?_⟩)
local macro_rules | `(tactic| walk_at "int") => `(tactic| refine ⟨_, _, rfl, rfl, ?_⟩)
local macro_rules | `(tactic| walk_at "eq") => `(tactic| refine ⟨rfl, _, rfl, ?_⟩)
local macro_rules | `(tactic| walk_at "app") => `(tactic| refine ⟨_, _, _, rfl, rfl, (by walk_at "now"), (by walk_at "lt"), ?_⟩)
local macro_rules | `(tactic| walk_at "ext") => `(tactic| refine ⟨_, _, _, _, rfl, rfl, (by walk_at "now"), (by walk_at "now"), (by walk_at "le"), ?_⟩)
local macro_rules | `(tactic| walk_at "cat") => `(tactic| refine ⟨_, _, _, _, rfl, rfl, (by walk_at "now"), (by walk_at "now"), (by walk_at "le"), ?_⟩)
local macro_rules | `(tactic| walk_at "num") => `(tactic| refine ⟨(by assumption : Nu _), ?_⟩)
local macro_rules | `(tactic| walk_at "ty") => `(tactic| refine ⟨Or.inl ⟨rfl, _, SqL.of (by walk_at "now")⟩, ?_⟩)
local macro_rules | `(tactic| walk_at "un2") => `(tactic| refine ⟨_, _, rfl, SqT.of (by walk_at "now"), rfl, _, _, rfl, _, _, rfl, rfl, ?_⟩)
local macro_rules | `(tactic| walk_at "un3") => `(tactic| refine ⟨_, _, rfl, SqT.of (by walk_at "now"), rfl, _, _, rfl, _, _, rfl, _, _, rfl, rfl, ?_⟩)
local macro_rules | `(tactic| walk_at "un4") => `(tactic| refine ⟨_, _, rfl, SqT.of (by walk_at "now"), rfl, _, _, rfl, _, _, rfl, _, _, rfl, _, _, rfl, rfl, ?_⟩)
local macro_rules | `(tactic| walk_at "un6") => `(tactic| refine ⟨_, _, rfl, SqT.of (by walk_at "now"), rfl, _, _, rfl, _, _, rfl, _, _, rfl, _, _, rfl, _, _, rfl, _, _, rfl, rfl, ?_⟩)
local macro_rules | `(tactic| walk_at "un9") => `(tactic| refine ⟨_, _, rfl, SqT.of (by walk_at "now"), rfl, _, _, rfl, _, _, rfl, _, _, rfl, _, _, rfl, _, _, rfl, _, _, rfl, _, _, rfl, _, _, rfl, _, _, rfl, rfl, ?_⟩)
local macro_rules | `(tactic| walk_at "go") => `(tactic| repeat (first | walk_at "v" | walk_at "eq" | walk_at "ix" | walk_at "str" | walk_at "ty" | walk_at "num"))

def nts : Nat → Tst → Tst
  | 0, t => t
  | i + 1, t => nts i (.nt t)
def Tst.dep : Tst → Nat
  | .nt t => t.dep + 1
  | _ => 0
def Tst.flat : Tst → Prop
  | .nt _ => False
  | _ => True
theorem nts_succ : ∀ (i : Nat) (t : Tst), nts (i + 1) t = .nt (nts i t)
  | 0, _ => rfl
  | i + 1, t => nts_succ i (.nt t)
theorem cmpS_see (sg : Bool) : seesB (tS (cmpS sg)) "==" = sg := by cases sg <;> decide +kernel
theorem cmpS_if (sg : Bool) : (if sg = true then ("==" : Str) else "<") = cmpS sg := by cases sg <;> rfl
theorem r_needV {C : Addr} {r : Addr × Addr} {σ : L2.St} {H : Hp} {Q : VK} {t : Tok} {rest : List Tok} {b : Nat} {s : Str} {i jj : Nat} (hσ : σ[jj]? = some (some (.ref r.1))) (hi : σ[i]? = some (some (.str s))) (hR : Rd' C r H (t :: rest) b) (k : ∀ H', Kp [r.1] H H' → Rd' C r H' rest b → Q .non H') (hs : seesB t s = true) (ok : TokOk t := by first | exact fun _ => ⟨_, rfl⟩ | exact okU _) :
    tMeth C "need" (spNeed C) [] E0 (tVar jj) (tCons (tVar i) tNil) σ H Q := by
  obtain ⟨dx, xs, tks, j, h1, _⟩ := id hR
  exact ⟨_, hσ, r.1, dx, _, rfl, h1, rno _ (by decide +kernel), _, hi, r, t, rest, b, s, rfl, hR, ok, hs, k⟩
section
variable {P : Program} {w : World} {K : PySem.W.Frag} {mg : Str → Option Value} {base : Heap} {C : Addr} {k : Nat}
abbrev s_test : Stmt := top 37
abbrev n_test : List Str := ["reader", "nots", "found", "chosen", "sign", "_"]
theorem sc_test : FnScope n_test ["reader"] (defScope s_test) := ⟨rfl, rfl, rfl, by decide +kernel, rfl, by decide +kernel, by decide +kernel⟩
/- slots: 0 reader, 1 nots, 2 found, 3 chosen, 4 sign, 5 _ -/
theorem ok_test (B : Bt mg) (hM : ∃ t, mg "MOST_NOTS" = some (.int 8 t)) (R : RM P w K mg base C k) (h : Has K mg "test" s_test ["reader"]) (c1 : Ok P w K mg base k "field" ["reader"] (spP C kFld eFld folT)) : Ok P w K mg base (k + 1) "test" ["reader"] (spW C kTst eTst (wTst 8)) := by
  obtain ⟨_, _, G_skip, mt_skip, b_skip⟩ := R.skip.ex
  obtain ⟨_, _, G_need, mt_need, b_need⟩ := R.need.ex
  obtain ⟨_, _, G_take, mt_take, b_take⟩ := R.take.ex
  obtain ⟨_, _, G_kind, mt_kind, b_kind⟩ := R.kind.ex
  obtain ⟨_, _, G_sees, mt_sees, b_sees⟩ := R.sees.ex
  obtain ⟨_, _, G_fail, mt_fail, b_fail⟩ := R.fail.ex
  have c_Reader := R.T.cl
  obtain ⟨_, m_MOST_NOTS⟩ := hM
  obtain ⟨_, _, G_field, m_field, k_field, b_field⟩ := c1.ex
  refine h.ok sc_test (fun vs H Q E h => ?_) (fun f0 cdv A outer s H vs Q E hr h => ?_)
  · obtain ⟨_, _, _, _, rfl, _⟩ := h; rfl
  obtain ⟨r, t, post, b, rfl, hR, hw, q⟩ := h
  refine ⟨_, (pss_cons (ps_set (i := 1) sc_test.nd rfl (Or.inl rfl) pe_int)
    (pss_cons (ps_while PassesOwn.never (pt_val (pe_meth (pv 0) c_Reader mt_sees G_sees hr b_sees .nil pass0 (pa_cons pe_str pa_nil))) (Evl.pss_cut (ps_if (pt_cmpR op_eq (pv 1) (pe_glob (v := .int _) rfl m_MOST_NOTS ⟨_, rfl⟩) (nomark _)) (pss_one (ps_expr (pe_meth0 (pv 0) c_Reader mt_fail G_fail hr b_fail .nil pass0))) pss_nil)
    (pss_cons (ps_expr (pe_meth (pv 0) c_Reader mt_need G_need hr b_need .nil pass0 (pa_cons pe_str pa_nil)))
    (pss_one (ps_set (i := 1) sc_test.nd rfl (Or.inl rfl) (pe_op op_add (pv 1) pe_int))))))
    (Evl.pss_cut (ps_if (pt_val (pe_meth (pv 0) c_Reader mt_skip G_skip hr b_skip .nil pass0 (pa_cons pe_str pa_nil))) (pss_one (ps_set (i := 2) sc_test.nd rfl (Or.inl rfl) (pe_tupS (pa_cons pe_str (pa_cons (pe_meth (pv 0) c_Reader mt_take G_take hr b_take .nil pass0 (pa_cons pe_str pa_nil)) pa_nil))))) (pss_cons (ps_set (i := 3) sc_test.nd rfl (Or.inl rfl) (pe_call G_field hr (by rfl) m_field k_field b_field .nil pass0 (pa_cons (pv 0) pa_nil)))
    (pss_cons (ps_set (i := 4) sc_test.nd rfl (Or.inl rfl) (pe_ifExp (pt_val (pe_meth (pv 0) c_Reader mt_sees G_sees hr b_sees .nil pass0 (pa_cons pe_str pa_nil))) pe_str pe_str))
    (pss_cons (ps_expr (pe_meth (pv 0) c_Reader mt_need G_need hr b_need .nil pass0 (pa_cons (pv 4) pa_nil)))
    (pss_one (ps_set (i := 2) sc_test.nd rfl (Or.inl rfl) (pe_tupS (pa_cons (pv 4) (pa_cons (pv 3) (pa_cons (pe_meth (pv 0) c_Reader mt_take G_take hr b_take .nil pass0 (pa_cons pe_str pa_nil)) pa_nil))))))))))
    (pss_cons (ps_for PassesOwn.never rfl (pi_range1 (by rfl) B.range (pa_cons (pv 1) pa_nil)) (pg_name (i := 5) sc_test.nd rfl (Or.inl rfl)) (pss_one (ps_set (i := 2) sc_test.nd rfl (Or.inl rfl) (pe_tupS (pa_cons pe_str (pa_cons (pv 2) pa_nil))))))
    (pss_one (ps_ret (pv 2))))))), ?_⟩
  refine ⟨fun m σ' H1 => ∃ (i : Nat) (u : Tst), t = nts i u ∧ m = u.dep ∧ i ≤ 8 ∧ wTst (8 - i) u ∧ σ' = [some (.ref r.1), some (.int (i : Int)), none, none, none, none] ∧ Kp [r.1] H H1 ∧ Rd' C r H1 (kTst u ++ post) b, ⟨_, 0, t, rfl, rfl, by omega, hw, rfl, Kp.refl, hR⟩, ?_⟩
  rintro m σ' H1 ⟨i, u, rfl, rfl, hi, hwu, rfl, k1, hR1⟩
  have fin : ∀ (x y : Option V) (v : V) (H2 : Hp), Kp [r.1] H H2 → Rd' C r H2 post b → At (Nw H H2) v (eTst u) →
      tSeq (tFor (iRng1 (tCons (tVar 1) tNil)) (gName 5) (tAsg (tTupS (tCons (tC (.str "not")) (tCons (tVar 2) tNil))) (gName 2))) (tRet (tVar 2)) { nx := fun _ H' => Q .non H', rt := Q } [some (.ref r.1), some (.int (i : Int)), some v, x, y, none] H2 := by
    intro x y v H2 k2 hR2 h2
    refine ⟨_, rfl, _, rfl, by omega, by omega, ?_⟩
    rw [Int.toNat_natCast]
    refine for_range (fun j σ' H3 => ∃ v z, σ' = [some (.ref r.1), some (.int (i : Int)), some v, x, y, z] ∧ Same H2 H3 ∧ At (Nw H H3) v (eTst (nts j u))) ⟨_, _, rfl, Same.refl _, h2⟩ ?_ ?_
    · rintro j σ' H3 hj ⟨v, z, rfl, s3, h3⟩
      refine ⟨_, rfl, by walk_at "le", fun p H4 hp s4 e4 => ?_⟩
      refine ⟨_, _, rfl, Same.trans s3 s4, ?_⟩
      rw [nts_succ]
      exact at_tup ((hR2.dm k2).trans (Same.dm s3)) hp e4 (.cons (.str _) (.cons (h3.mono (nws s4)) .nil))
    · rintro σ' H3 ⟨v, z, rfl, s3, h3⟩
      exact ⟨_, rfl, q _ _ (k2.trans (Kp.same s3)) (hR2.same s3) h3⟩
  cases u with
  | nt u =>
    have hR1' : Rd' C r H1 (tW "not" :: (kTst u ++ post)) b := hR1
    have hs : seesB (tW "not") "not" = true := by decide +kernel
    obtain ⟨m, hm, hwu⟩ := hwu
    refine r_sees rfl hR1' fun H2 s2 => ⟨_, rfl, ?_⟩
    rw [hs]
    refine ⟨_, fun _ _ h => h, ?_⟩
    refine ⟨fun σ' H3 => σ' = [some (.ref r.1), some (.int (i : Int)), none, none, none, none] ∧ H3 = H2, ?_, ?_⟩
    · refine ⟨_, rfl, rfl, _, rfl, ?_⟩
      exact ifN (fun z => by have := V.int.inj z; omega) ⟨rfl, rfl⟩
    rintro σ' H3 ⟨rfl, rfl⟩
    refine r_need rfl (hR1'.same s2) fun H4 k4 hR4 => ?_
    refine ⟨_, rfl, _, _, rfl, rfl, ?_⟩
    exact ⟨u.dep, Nat.lt_succ_self _, i + 1, u, rfl, rfl, by omega, by rw [show 8 - (i + 1) = m from by omega]; exact hwu, rfl, (k1.trans (Kp.same s2)).trans k4, hR4⟩
  | valid n =>
    have hR1' : Rd' C r H1 (tW "valid" :: tN n :: post) b := hR1
    have hs : seesB (tW "valid") "not" = false := by decide +kernel
    refine r_sees rfl hR1' fun H2 s2 => ⟨_, rfl, ?_⟩
    rw [hs]
    refine ⟨fun σ' H2 => ∃ x y v, σ' = [some (.ref r.1), some (.int (i : Int)), some v, x, y, none] ∧ Kp [r.1] H H2 ∧ Rd' C r H2 post b ∧ At (Nw H H2) v (eTst (.valid n)), ?_, ?_⟩
    · refine r_skipY rfl (hR1'.same s2) fun H3 k3 hR3 => ⟨_, rfl, ?_⟩
      refine iteT (r_take rfl hR3 rfl fun H4 k4 hR4 => ⟨by walk_at "le", fun p H5 hp s5 e5 => ?_⟩)
      have k := ((k1.trans (Kp.same s2)).trans k3).trans k4
      exact ⟨_, _, _, rfl, k.trans (Kp.same s5), hR4.same s5, at_tup (hR4.dm k) hp e5 (.cons (.str _) (.cons (.str _) .nil))⟩
    rintro σ' H3 ⟨x, y, v, rfl, k3, hR3, h3⟩
    exact fin x y v H3 k3 hR3 h3
  | cmp sg f n =>
    have hR1' : Rd' C r H1 (kFld f ++ (tS (cmpS sg) :: tU n :: post)) b := by simpa only [kTst, List.append_assoc, List.cons_append, List.nil_append] using hR1
    obtain ⟨t, ts, ef, ok, no⟩ := fld_hd f
    rw [ef] at hR1'
    have hs : seesB t "not" = false := no _ (by decide +kernel) (by decide +kernel)
    refine r_sees rfl hR1' (fun H2 s2 => ⟨_, rfl, ?_⟩) ok
    rw [hs]
    refine ⟨fun σ' H2 => ∃ x y v, σ' = [some (.ref r.1), some (.int (i : Int)), some v, x, y, none] ∧ Kp [r.1] H H2 ∧ Rd' C r H2 post b ∧ At (Nw H H2) v (eTst (.cmp sg f n)), ?_, ?_⟩
    · refine r_skipN rfl (hR1'.same s2) (fun H3 k3 hR3 => ⟨_, rfl, ?_⟩) (no _ (by decide +kernel) (by decide +kernel)) ok
      rw [← ef] at hR3
      refine iteF ⟨_, rfl, r, f, _, b, rfl, hR3, trivial, fun v4 H4 k4 hR4 h4 => ?_⟩
      refine r_sees rfl hR4 fun H5 s5 => ⟨_, rfl, ?_⟩
      rw [cmpS_see]
      have k15 := (((k1.trans (Kp.same s2)).trans k3).trans k4).trans (Kp.same s5)
      have k13 := (k1.trans (Kp.same s2)).trans k3
      have last : ∀ sx : Str, cmpS sg = sx → ∀ D : Ends, (∀ H7 v7, Kp [r.1] H H7 → Rd' C r H7 post b → At (Nw H H7) v7 (eTst (.cmp sg f n)) → D.nx [some (.ref r.1), some (.int (i : Int)), some v7, some v4, some (.str sx), none] H7) →
          tSeq (tDrop (tMeth C "need" (spNeed C) [] E0 (tVar 0) (tCons (tVar 4) tNil))) (tAsg (tTupS (tCons (tVar 4) (tCons (tVar 3) (tCons (tMeth C "take" (spTake C) [] E0 (tVar 0) (tCons (tC (.str "number")) tNil)) tNil)))) (gName 2)) D [some (.ref r.1), some (.int (i : Int)), none, some v4, some (.str sx), none] H5 := by
        intro sx hsx D hD
        subst hsx
        refine r_needV rfl rfl (hR4.same s5) (fun H6 k6 hR6 => ?_) (by rw [seesS]; exact decide_eq_true rfl)
        refine ⟨_, rfl, _, rfl, r_take rfl hR6 rfl fun H7 k7 hR7 => ⟨by walk_at "le", fun p H8 hp s8 e8 => ?_⟩⟩
        have k := (k15.trans k6).trans k7
        refine hD _ _ (k.trans (Kp.same s8)) (hR7.same s8) (at_tup (hR7.dm k) hp e8 (.cons (.str _) (.cons ?_ (.cons (.int _) .nil))))
        exact (((h4.mono (nw0 (hR3.dm k13))).mono (nws s5)).mono (nw1 (k6.trans k7) hR.ne)).mono (nws s8)
      cases sg with
      | true => exact iteT (last _ rfl _ fun H7 v7 k7 hR7 h7 => ⟨_, _, _, rfl, k7, hR7, h7⟩)
      | false => exact iteF (last _ rfl _ fun H7 v7 k7 hR7 h7 => ⟨_, _, _, rfl, k7, hR7, h7⟩)
    rintro σ' H3 ⟨x, y, v, rfl, k3, hR3, h3⟩
    exact fin x y v H3 k3 hR3 h3
end
end WP
namespace WP
open PySem PySem.Spec PyProof.Rows L2 TL
local macro_rules | `(tactic| walk_at "len") => `(tactic| (show _ ≤ sizeLine; rw [sizeLine_eq]; (try simp only [al, lit_len]); (try simp) <;> omega))
local macro_rules | `(tactic| walk_at "lt") => `(tactic| (show _ < sizeLine; rw [sizeLine_eq]; (try simp only [List.length_map, List.length_append, List.length_cons, List.length_nil, List.length_take]); omega))
local macro_rules | `(tactic| walk_at "le") => `(tactic| (show _ ≤ sizeLine; rw [sizeLine_eq]; (try simp only [List.length_map, List.length_append, List.length_cons, List.length_nil, List.length_take]); omega))
local macro_rules | `(tactic| walk_at "now") => `(tactic| first | assumption | (refine (by assumption : Same _ _) _ _ ?_; walk_at "now"))
local macro_rules | `(tactic| walk_at "at") => `(tactic| first | exact at0 | exact at1 | exact at2 | exact at3 | exact at4 | exact at5 | exact at6 | exact at7 | exact at8)
local macro_rules | `(tactic| walk_at "v") => `(tactic| refine ⟨_, rfl, ?_⟩)
local macro_rules | `(tactic| walk_at "ix") => `(tactic| refine ⟨_, _, _, _, rfl, rfl, SqT.of (by walk_at "now"), (by walk_at "at"), ?_⟩)
local macro_rules | `(tactic| walk_at "ixl") => `(tactic| refine ⟨_, _, _, _, rfl, rfl, SqL.of (by walk_at "now"), (by walk_at "at"), ?_⟩)
local macro_rules | `(tactic| walk_at "str") => `(tactic| refine ⟨_, _, rfl, rfl, (by walk_at "len"), ?_⟩)
local macro_rules | `(tactic| walk_at "int") => `(tactic| refine ⟨_, _, rfl, rfl, ?_⟩)
local macro_rules | `(tactic| walk_at "eq") => `(tactic| refine ⟨rfl, _, rfl, ?_⟩)
local macro_rules | `(tactic| walk_at "app") => `(tactic| refine ⟨_, _, _, rfl, rfl, (by walk_at "now"), (by walk_at "lt"), ?_⟩)
local macro_rules | `(tactic| walk_at "ext") => `(tactic| refine ⟨_, _, _, _, rfl, rfl, (by walk_at "now"), (by walk_at "now"), (by walk_at "le"), ?_⟩)
local macro_rules | `(tactic| walk_at "cat") => `(tactic| refine ⟨_, _, _, _, rfl, rfl, (by walk_at "now"), (by walk_at "now"), (by walk_at "le"), ?_⟩)
local macro_rules | `(tactic| walk_at "num") => `(tactic| refine ⟨(by assumption : Nu _), ?_⟩)
local macro_rules | `(tactic| walk_at "ty") => `(tactic| refine ⟨Or.inl ⟨rfl, _, SqL.of (by walk_at "now")⟩, ?_⟩)
local macro_rules | `(tactic| walk_at "un2") => `(tactic| refine ⟨_, _, rfl, SqT.of (by walk_at "now"), rfl, _, _, rfl, _, _, rfl, rfl, ?_⟩)
local macro_rules | `(tactic| walk_at "un3") => `(tactic| refine ⟨_, _, rfl, SqT.of (by walk_at "now"), rfl, _, _, rfl, _, _, rfl, _, _, rfl, rfl, ?_⟩)
local macro_rules | `(tactic| walk_at "un4") => `(tactic| refine ⟨_, _, rfl, SqT.of (by walk_at "now"), rfl, _, _, rfl, _, _, rfl, _, _, rfl, _, _, rfl, rfl, ?_⟩)
local macro_rules | `(tactic| walk_at "un6") => `(tactic| refine ⟨_, _, rfl, SqT.of (by walk_at "now"), rfl, _, _, rfl, _, _, rfl, _, _, rfl, _, _, rfl, _, _, rfl, _, _, rfl, rfl, ?_⟩)
local macro_rules | `(tactic| walk_at "un9") => `(tactic| refine ⟨_, _, rfl, SqT.of (by walk_at "now"), rfl, _, _, rfl, _, _, rfl, _, _, rfl, _, _, rfl, _, _, rfl, _, _, rfl, _, _, rfl, _, _, rfl, _, _, rfl, rfl, ?_⟩)
local macro_rules | `(tactic| walk_at "go") => `(tactic| repeat (first | walk_at "v" | walk_at "eq" | walk_at "ix" | walk_at "str" | walk_at "ty" | walk_at "num"))

theorem LB.from {C : Addr} {r : Addr × Addr} {L : Addr} {H : Hp} {rest : List Tok} {b : Nat} (hR : Rd' C r H rest b) (e : H L = some (.lst [])) (n : r.2 ≠ L) : LB r L (Out [L] H) H [] := by
  have n1 : r.1 ≠ L := fun z => by
    obtain ⟨dx, xs, tks, i, g1, _⟩ := hR
    rw [z, e] at g1; cases g1
  refine ⟨out_none (by simp), ?_, ?_, Kp.same out_le, Same.dm out_le, [], e, .nil⟩
  · rw [out_of (by simpa using n1)]; exact hR.ne1
  · rw [out_of (by simpa using n)]; exact hR.ne2
theorem opn_hd (o : Opn) : ∃ t ts, (∀ post, kOpn o ++ post = t :: (ts ++ post)) ∧ TokOk t ∧ seesB t "}" = false := by
  cases o with
  | set f e =>
    obtain ⟨t, ts, ef, ok, no⟩ := fld_hd f
    refine ⟨t, ts ++ ([tS "="] ++ kExp e ++ [tS ";"]), fun post => ?_, ok, no _ (by decide +kernel) (by decide +kernel)⟩
    have := ef ([tS "="] ++ kExp e ++ [tS ";"] ++ post)
    simpa only [kOpn, List.append_assoc, List.cons_append, List.nil_append] using this
  | send e => exact ⟨tW "send", _, fun _ => rfl, fun _ => ⟨_, rfl⟩, by decide +kernel⟩
  | drop => exact ⟨tW "drop", _, fun _ => rfl, fun _ => ⟨_, rfl⟩, by decide +kernel⟩
  | add h => exact ⟨tW "add", _, fun _ => rfl, fun _ => ⟨_, rfl⟩, by decide +kernel⟩
  | rem h => exact ⟨tW "remove", _, fun _ => rfl, fun _ => ⟨_, rfl⟩, by decide +kernel⟩
section
variable {P : Program} {w : World} {K : PySem.W.Frag} {mg : Str → Option Value} {base : Heap} {C : Addr} {k : Nat}
abbrev s_action : Stmt := top 33
abbrev n_action : List Str := ["reader", "name", "params", "param", "ops"]
theorem sc_action : FnScope n_action ["reader"] (defScope s_action) := ⟨rfl, rfl, rfl, by decide +kernel, rfl, by decide +kernel, by decide +kernel⟩
/- slots: 0 reader, 1 name, 2 params, 3 param, 4 ops -/
theorem ok_action (B : Bt mg) (R : RM P w K mg base C k) (h : Has K mg "action" s_action ["reader"]) (c1 : Ok P w K mg base k "operation" ["reader"] (spP C kOpn eOpn folT)) : Ok P w K mg base (k + 1) "action" ["reader"] (spW C kAct eAct wAct) := by
  obtain ⟨_, _, G_skip, mt_skip, b_skip⟩ := R.skip.ex
  obtain ⟨_, _, G_need, mt_need, b_need⟩ := R.need.ex
  obtain ⟨_, _, G_take, mt_take, b_take⟩ := R.take.ex
  obtain ⟨_, _, G_kind, mt_kind, b_kind⟩ := R.kind.ex
  obtain ⟨_, _, G_sees, mt_sees, b_sees⟩ := R.sees.ex
  obtain ⟨_, _, G_fail, mt_fail, b_fail⟩ := R.fail.ex
  have c_Reader := R.T.cl
  obtain ⟨_, _, G_operation, m_operation, k_operation, b_operation⟩ := c1.ex
  refine h.ok sc_action (fun vs H Q E h => ?_) (fun f0 cdv A outer s H vs Q E hr h => ?_)
  · obtain ⟨_, _, _, _, rfl, _⟩ := h; rfl
  obtain ⟨r, ⟨nm, l, ops⟩, post, b, rfl, hR, ⟨_, ⟨hl, _⟩, ⟨ho, _⟩⟩, q⟩ := h
  dsimp only at hl ho
  refine ⟨_, (pss_cons (ps_set (i := 1) sc_action.nd rfl (Or.inl rfl) (pe_meth (pv 0) c_Reader mt_take G_take hr b_take .nil pass0 (pa_cons pe_str pa_nil)))
    (pss_cons (ps_set (i := 2) sc_action.nd rfl (Or.inl rfl) (pe_lstS pa_nil))
    (pss_cons (ps_expr (pe_meth (pv 0) c_Reader mt_need G_need hr b_need .nil pass0 (pa_cons pe_str pa_nil)))
    (pss_cons (ps_while PassesOwn.never (pt_not (pt_val (pe_meth (pv 0) c_Reader mt_skip G_skip hr b_skip .nil pass0 (pa_cons pe_str pa_nil)))) (Evl.pss_cut (ps_if (pt_cmpR op_gt (pe_callB call_len_seq (by rfl) B.len PySem.boot_len (pa_cons (pv 2) pa_nil)) pe_int (nomark _)) (pss_one (ps_expr (pe_meth (pv 0) c_Reader mt_need G_need hr b_need .nil pass0 (pa_cons pe_str pa_nil)))) pss_nil)
    (pss_cons (ps_set (i := 3) sc_action.nd rfl (Or.inl rfl) (pe_meth (pv 0) c_Reader mt_take G_take hr b_take .nil pass0 (pa_cons pe_str pa_nil)))
    (pss_cons (ps_expr (pe_meth (pv 0) c_Reader mt_need G_need hr b_need .nil pass0 (pa_cons pe_str pa_nil)))
    (pss_one (ps_expr (pe_bm PySem.F.plainAttrs_list PySem.F.slot_list_append PySem.F.type_list_append mt_appendS (pv 2) (pa_cons (pe_tupS (pa_cons (pv 3) (pa_cons (pe_meth (pv 0) c_Reader mt_take G_take hr b_take .nil pass0 (pa_cons pe_str pa_nil)) pa_nil))) pa_nil))))))))
    (pss_cons (ps_expr (pe_meth (pv 0) c_Reader mt_need G_need hr b_need .nil pass0 (pa_cons pe_str pa_nil)))
    (pss_cons (ps_set (i := 4) sc_action.nd rfl (Or.inl rfl) (pe_lstS pa_nil))
    (pss_cons (ps_while PassesOwn.never (pt_not (pt_val (pe_meth (pv 0) c_Reader mt_skip G_skip hr b_skip .nil pass0 (pa_cons pe_str pa_nil)))) (pss_one (ps_expr (pe_bm PySem.F.plainAttrs_list PySem.F.slot_list_append PySem.F.type_list_append mt_appendS (pv 4) (pa_cons (pe_call G_operation hr (by rfl) m_operation k_operation b_operation .nil pass0 (pa_cons (pv 0) pa_nil)) pa_nil)))))
    (pss_one (ps_ret (pe_tupS (pa_cons pe_str (pa_cons (pv 1) (pa_cons (pv 2) (pa_cons (pv 4) pa_nil)))))))))))))), ?_⟩
  have hR0 : Rd' C r H (tN nm :: tS "(" :: (kRest kPar [] l ++ (tS ")" :: (tS "{" :: ((ops.map kOpn).flatten ++ (tS "}" :: post)))))) b := by simpa only [kAct, kRest, List.append_assoc, List.cons_append, List.nil_append] using hR
  generalize hpo : (tS "{" :: ((ops.map kOpn).flatten ++ (tS "}" :: post))) = post1 at hR0
  refine r_take rfl hR0 rfl fun H1 k1 hR1 => ?_
  refine ⟨by walk_at "le", fun L H2 hL s2 e2 => ?_⟩
  have lb2 := LB.start hR1 hL s2 e2
  refine r_need rfl (hR1.same s2) fun H3 k3 hR3 => ?_
  have lb3 := lb2.go hR3 k3
  refine ⟨fun m σ' H' => ∃ done todo, l = done ++ todo ∧ m = todo.length ∧ (∃ x, σ' = [some (.ref r.1), some (.str nm), some (.ref L), x, none]) ∧ LB r L H1 H' (done.map ePar) ∧ Rd' C r H' (kRest kPar done todo ++ (tS ")" :: post1)) b, ⟨_, [], l, rfl, rfl, ⟨_, rfl⟩, lb3, hR3⟩, ?_⟩
  rintro m σ' H4 ⟨done, todo, hdt, rfl, ⟨x, rfl⟩, lb, hR4⟩
  cases todo with
  | nil =>
    rw [kRest_nil] at hR4
    refine r_skipY rfl hR4 fun H5 k5 hR5 => ⟨_, rfl, ?_⟩
    have lb5 := lb.go hR5 k5
    clear lb2 lb3 k3 hR3 lb
    rw [← hpo] at hR5
    refine r_need rfl hR5 fun H6 k6 hR6 => ?_
    have lb6 := lb5.go hR6 k6
    refine ⟨by walk_at "le", fun M H7 hM s7 e7 => ?_⟩
    have mb7 := LB.start hR6 hM s7 e7
    refine ⟨fun m σ' H' => ∃ done' todo, ops = done' ++ todo ∧ m = todo.length ∧ σ' = [some (.ref r.1), some (.str nm), some (.ref L), x, some (.ref M)] ∧ LB r M H6 H' (done'.map eOpn) ∧ Rd' C r H' ((todo.map kOpn).flatten ++ (tS "}" :: post)) b, ⟨_, [], ops, rfl, rfl, rfl, mb7, hR6.same s7⟩, ?_⟩
    rintro m σ' H8 ⟨done', todo, hdt', rfl, rfl, mb, hR8⟩
    cases todo with
    | nil =>
      refine r_skipY rfl hR8 fun H9 k9 hR9 => ⟨_, rfl, ?_⟩
      have mb9 := mb.go hR9 k9
      refine ⟨_, rfl, _, rfl, _, rfl, by walk_at "le", fun p H10 hp s10 e10 => ?_⟩
      have k16 := k1.trans lb6.kp
      have k := k16.trans mb9.kp
      refine q _ _ (k.trans (Kp.same s10)) (hR9.same s10) (at_tup (hR9.dm k) hp e10 (.cons (.str _) (.cons (.str _) (.cons ?_ (.cons ?_ .nil)))))
      · rw [hdt, List.append_nil]
        exact ((lb6.at.mono (nw0 (hR1.dm k1))).mono (nw1 mb9.kp hR.ne)).mono (nws s10)
      · rw [hdt', List.append_nil]
        exact (mb9.at.mono (nw0 (hR6.dm k16))).mono (nws s10)
    | cons o todo =>
      have hR8' : Rd' C r H8 (kOpn o ++ ((todo.map kOpn).flatten ++ (tS "}" :: post))) b := by simpa only [List.map_cons, List.flatten_cons, List.append_assoc] using hR8
      obtain ⟨t, ts, ef, ok, no⟩ := opn_hd o
      rw [ef] at hR8'
      refine r_skipN rfl hR8' (fun H9 k9 hR9 => ⟨_, rfl, ?_⟩) no ok
      rw [← ef] at hR9
      refine ⟨_, fun _ _ h => h, ?_⟩
      refine ⟨_, rfl, (mb.go hR9 k9).ty, _, rfl, r, o, _, b, rfl, hR9, trivial, fun v H10 k10 hR10 h10 => ?_⟩
      rw [hdt'] at ho
      obtain ⟨us, e, hlt, go⟩ := mb.ap hR10 (k9.trans k10) (h10.mono (nw0 (hR9.dm k9))) (by simp at ho ⊢; omega)
      refine ⟨_, _, _, rfl, rfl, e, hlt, fun H11 k11 e11 => ?_⟩
      obtain ⟨lb11, hR11⟩ := go H11 k11 e11
      refine ⟨todo.length, by simp, done' ++ [o], todo, by simp [hdt'], rfl, rfl, ?_, hR11⟩
      rw [List.map_append]
      exact lb11
  | cons n todo =>
    rw [kRest_cons] at hR4
    obtain ⟨t, rest, e, hs, ok⟩ := sep_hd (done := done) (X := kPar n ++ kRest kPar (done ++ [n]) todo ++ (tS ")" :: post1)) rfl (seesN n.1 ")") (fun _ => ⟨_, rfl⟩)
    rw [List.append_assoc, e] at hR4
    refine r_skipN rfl hR4 (fun H5 k5 hR5 => ⟨_, rfl, ?_⟩) hs ok
    refine ⟨_, fun _ _ h => h, ?_⟩
    have lb5 := lb.go hR5 k5
    refine ⟨fun σ' H6 => σ' = [some (.ref r.1), some (.str nm), some (.ref L), x, none] ∧ LB r L H1 H6 (done.map ePar) ∧ Rd' C r H6 (tN n.1 :: tS ":" :: tU n.2 :: (kRest kPar (done ++ [n]) todo ++ (tS ")" :: post1))) b, ?_, ?_⟩
    · obtain ⟨us, eu, hus⟩ := lb5.len
      refine ⟨_, rfl, L, us, rfl, .inl (SqL.of eu), _, _, rfl, rfl, _, rfl, ?_⟩
      rw [← e] at hR5
      by_cases hd : done = []
      · rw [if_pos hd] at hR5
        rw [decide_eq_false (by rw [hus, hd]; decide)]
        exact ⟨rfl, lb5, hR5⟩
      · rw [if_neg hd] at hR5
        have : 0 < done.length := List.length_pos_iff.mpr hd
        rw [decide_eq_true (by rw [hus, List.length_map]; omega)]
        refine iteT (r_need rfl hR5 fun H6 k6 hR6 => ⟨rfl, lb5.go hR6 k6, hR6⟩)
    rintro σ' H6 ⟨rfl, lb6, hR6⟩
    refine r_take rfl hR6 rfl fun H7 k7 hR7 => ?_
    refine r_need rfl hR7 fun H8 k8 hR8 => ?_
    refine ⟨_, rfl, (lb6.go hR8 (k7.trans k8)).ty, _, rfl, r_take rfl hR8 rfl fun H9 k9 hR9 => ⟨by walk_at "le", fun p H10 hp s10 e10 => ?_⟩⟩
    have k := (k7.trans k8).trans k9
    have hl2 := hl
    rw [hdt] at hl2
    obtain ⟨us, e, hlt, go⟩ := lb6.ap (hR9.same s10) (k.trans (Kp.same s10)) (at_tup (hR9.dm k) hp e10 (.cons (.str _) (.cons (.int _) .nil))) (by simp at hl2 ⊢; omega)
    refine ⟨_, _, _, rfl, rfl, e, hlt, fun H11 k11 e11 => ?_⟩
    obtain ⟨lb11, hR11⟩ := go H11 k11 e11
    refine ⟨todo.length, by simp, done ++ [n], todo, by simp [hdt], rfl, ⟨_, rfl⟩, ?_, hR11⟩
    rw [List.map_append]
    exact lb11
abbrev s_table : Stmt := top 36
abbrev n_table : List Str := ["reader", "name", "keys", "uses", "first", "default", "size"]
theorem sc_table : FnScope n_table ["reader"] (defScope s_table) := ⟨rfl, rfl, rfl, by decide +kernel, rfl, by decide +kernel, by decide +kernel⟩
/- slots: 0 reader, 1 name, 2 keys, 3 uses, 4 first, 5 default, 6 size -/
theorem ok_table (R : RM P w K mg base C k) (h : Has K mg "table" s_table ["reader"]) (c1 : Ok P w K mg base k "key" ["reader"] (spP C kKey eKey folT)) (c2 : Ok P w K mg base k "numbers" ["reader"] (spW C kArgs (fun l => .list (l.map .int)) (fun l => l.length ≤ 16))) : Ok P w K mg base (k + 1) "table" ["reader"] (spW C kTab eTab wTab) := by
  obtain ⟨_, _, G_skip, mt_skip, b_skip⟩ := R.skip.ex
  obtain ⟨_, _, G_need, mt_need, b_need⟩ := R.need.ex
  obtain ⟨_, _, G_take, mt_take, b_take⟩ := R.take.ex
  obtain ⟨_, _, G_kind, mt_kind, b_kind⟩ := R.kind.ex
  obtain ⟨_, _, G_sees, mt_sees, b_sees⟩ := R.sees.ex
  obtain ⟨_, _, G_fail, mt_fail, b_fail⟩ := R.fail.ex
  have c_Reader := R.T.cl
  obtain ⟨_, _, G_key, m_key, k_key, b_key⟩ := c1.ex
  obtain ⟨_, _, G_numbers, m_numbers, k_numbers, b_numbers⟩ := c2.ex
  refine h.ok sc_table (fun vs H Q E h => ?_) (fun f0 cdv A outer s H vs Q E hr h => ?_)
  · obtain ⟨_, _, _, _, rfl, _⟩ := h; rfl
  obtain ⟨r, ⟨nm, ks, us, df, as, sz'⟩, post, b, rfl, hR, ⟨_, ⟨hk, _⟩, ⟨hu, _⟩, _, ⟨ha, _⟩, _⟩, q⟩ := h
  dsimp only at hk hu ha
  refine ⟨_, (pss_cons (ps_set (i := 1) sc_table.nd rfl (Or.inl rfl) (pe_meth (pv 0) c_Reader mt_take G_take hr b_take .nil pass0 (pa_cons pe_str pa_nil)))
    (pss_cons (ps_set (i := 2) sc_table.nd rfl (Or.inl rfl) (pe_lstS pa_nil))
    (pss_cons (ps_set (i := 3) sc_table.nd rfl (Or.inl rfl) (pe_lstS pa_nil))
    (pss_cons (ps_expr (pe_meth (pv 0) c_Reader mt_need G_need hr b_need .nil pass0 (pa_cons pe_str pa_nil)))
    (pss_cons (ps_while PassesOwn.never (pt_val (pe_meth (pv 0) c_Reader mt_skip G_skip hr b_skip .nil pass0 (pa_cons pe_str pa_nil))) (pss_one (ps_expr (pe_bm PySem.F.plainAttrs_list PySem.F.slot_list_append PySem.F.type_list_append mt_appendS (pv 2) (pa_cons (pe_call G_key hr (by rfl) m_key k_key b_key .nil pass0 (pa_cons (pv 0) pa_nil)) pa_nil)))))
    (pss_cons (ps_while PassesOwn.never (pt_val (pe_meth (pv 0) c_Reader mt_skip G_skip hr b_skip .nil pass0 (pa_cons pe_str pa_nil))) (pss_cons (ps_expr (pe_bm PySem.F.plainAttrs_list PySem.F.slot_list_append PySem.F.type_list_append mt_appendS (pv 3) (pa_cons (pe_meth (pv 0) c_Reader mt_take G_take hr b_take .nil pass0 (pa_cons pe_str pa_nil)) pa_nil)))
    (pss_one (ps_expr (pe_meth (pv 0) c_Reader mt_need G_need hr b_need .nil pass0 (pa_cons pe_str pa_nil))))))
    (pss_cons (ps_expr (pe_meth (pv 0) c_Reader mt_need G_need hr b_need .nil pass0 (pa_cons pe_str pa_nil)))
    (pss_cons (ps_set (i := 4) sc_table.nd rfl (Or.inl rfl) (pe_meth (pv 0) c_Reader mt_take G_take hr b_take .nil pass0 (pa_cons pe_str pa_nil)))
    (pss_cons (ps_set (i := 5) sc_table.nd rfl (Or.inl rfl) (pe_tupS (pa_cons (pv 4) (pa_cons (pe_call G_numbers hr (by rfl) m_numbers k_numbers b_numbers .nil pass0 (pa_cons (pv 0) pa_nil)) pa_nil))))
    (pss_cons (ps_expr (pe_meth (pv 0) c_Reader mt_need G_need hr b_need .nil pass0 (pa_cons pe_str pa_nil)))
    (pss_cons (ps_expr (pe_meth (pv 0) c_Reader mt_need G_need hr b_need .nil pass0 (pa_cons pe_str pa_nil)))
    (pss_cons (ps_set (i := 6) sc_table.nd rfl (Or.inl rfl) (pe_meth (pv 0) c_Reader mt_take G_take hr b_take .nil pass0 (pa_cons pe_str pa_nil)))
    (pss_cons (ps_expr (pe_meth (pv 0) c_Reader mt_need G_need hr b_need .nil pass0 (pa_cons pe_str pa_nil)))
    (pss_cons (ps_expr (pe_meth (pv 0) c_Reader mt_need G_need hr b_need .nil pass0 (pa_cons pe_str pa_nil)))
    (pss_one (ps_ret (pe_tupS (pa_cons pe_str (pa_cons (pv 1) (pa_cons (pv 2) (pa_cons (pv 3) (pa_cons (pv 5) (pa_cons (pv 6) pa_nil))))))))))))))))))))))), ?_⟩
  have hR0 : Rd' C r H (tN nm :: tS "{" :: ((ks.map fun k => tW "key" :: kKey k).flatten ++ ((us.map fun u => [tW "use", tN u, tS ";"]).flatten ++ (tW "default" :: tN df :: (kArgs as ++ (tS ";" :: tW "size" :: tU sz' :: tS ";" :: tS "}" :: post)))))) b := by simpa only [kTab, List.append_assoc, List.cons_append, List.nil_append] using hR
  generalize hpo : (tW "default" :: tN df :: (kArgs as ++ (tS ";" :: tW "size" :: tU sz' :: tS ";" :: tS "}" :: post))) = post1 at hR0
  refine r_take rfl hR0 rfl fun H1 k1 hR1 => ?_
  refine ⟨by walk_at "le", fun L H2 hL s2 e2 => ?_⟩
  have hR2 := hR1.same s2
  refine ⟨by walk_at "le", fun M H3 hM s3 e3 => ?_⟩
  have hR3 := hR2.same s3
  have hLM : M ≠ L := fun z => by rw [z, e2] at hM; cases hM
  have lb3 := LB.from hR3 (s3 _ _ e2) (fun z => hR1.ne2 (z ▸ hL))
  have nM : r.2 ≠ M := fun z => hR2.ne2 (z ▸ hM)
  have hM3 : Out [L] H3 M = some (.lst []) := by rw [out_of (by simpa using hLM)]; exact e3
  have nM1 : M ≠ r.1 := fun z => hR2.ne1 (z ▸ hM)
  have dL : Dm H (Out [L] H3) := fun c hc => by
    by_cases hcL : c = L
    · rw [hcL]; exact hR1.dm k1 L hL
    · rw [out_of (by simpa using hcL)] at hc
      exact hR1.dm k1 c (Same.dm s2 c (Same.dm s3 c hc))
  refine r_need rfl hR3 fun H4 k4 hR4 => ?_
  have lb4 := lb3.go hR4 k4
  refine ⟨fun m σ' H' => ∃ done todo, ks = done ++ todo ∧ m = todo.length ∧ σ' = [some (.ref r.1), some (.str nm), some (.ref L), some (.ref M), none, none, none] ∧ LB r L (Out [L] H3) H' (done.map eKey) ∧ Rd' C r H' ((todo.map fun k => tW "key" :: kKey k).flatten ++ ((us.map fun u => [tW "use", tN u, tS ";"]).flatten ++ post1)) b, ⟨_, [], ks, rfl, rfl, rfl, lb4, hR4⟩, ?_⟩
  rintro m σ' H5 ⟨done, todo, hdt, rfl, rfl, lb, hR5⟩
  cases todo with
  | cons x todo =>
    have hR5' : Rd' C r H5 (tW "key" :: (kKey x ++ ((todo.map fun k => tW "key" :: kKey k).flatten ++ ((us.map fun u => [tW "use", tN u, tS ";"]).flatten ++ post1)))) b := by simpa only [List.map_cons, List.flatten_cons, List.append_assoc, List.cons_append] using hR5
    refine r_skipY rfl hR5' fun H6 k6 hR6 => ⟨_, rfl, ?_⟩
    refine ⟨_, fun _ _ h => h, ?_⟩
    refine ⟨_, rfl, (lb.go hR6 k6).ty, _, rfl, r, x, _, b, rfl, hR6, trivial, fun v H7 k7 hR7 h7 => ?_⟩
    rw [hdt] at hk
    obtain ⟨us', e, hlt, go⟩ := lb.ap hR7 (k6.trans k7) (h7.mono (nw0 (hR6.dm k6))) (by simp at hk ⊢; omega)
    refine ⟨_, _, _, rfl, rfl, e, hlt, fun H8 k8 e8 => ?_⟩
    obtain ⟨lb8, hR8⟩ := go H8 k8 e8
    refine ⟨todo.length, by simp, done ++ [x], todo, by simp [hdt], rfl, rfl, ?_, hR8⟩
    rw [List.map_append]
    exact lb8
  | nil =>
    have hR5' : Rd' C r H5 ((us.map fun u => [tW "use", tN u, tS ";"]).flatten ++ post1) b := hR5
    obtain ⟨t, rest, e, hs, ok⟩ : ∃ t rest, (us.map fun u => [tW "use", tN u, tS ";"]).flatten ++ post1 = t :: rest ∧ seesB t "key" = false ∧ TokOk t := by
      cases us with
      | nil => rw [← hpo]; exact ⟨tW "default", _, rfl, by decide +kernel, fun _ => ⟨_, rfl⟩⟩
      | cons u us => exact ⟨tW "use", _, rfl, by decide +kernel, fun _ => ⟨_, rfl⟩⟩
    rw [e] at hR5'
    refine r_skipN rfl hR5' (fun H6 k6 hR6 => ⟨_, rfl, ?_⟩) hs ok
    rw [← e] at hR6
    have lb6 := lb.go hR6 k6
    have hM6 : H6 M = some (.lst []) := lb6.kp M _ (by simpa using nM1) hM3
    have mb6 := LB.from hR6 hM6 nM
    have dM : Dm H (Out [M] H6) := fun c hc => by
      by_cases hcM : c = M
      · rw [hcM]; exact hR1.dm k1 M (Same.dm s2 M hM)
      · rw [out_of (by simpa using hcM)] at hc
        exact dL c (lb6.dm c hc)
    have hat := lb6.at
    rw [hdt, List.append_nil] at hk
    rw [List.append_nil] at hdt
    subst hdt
    clear lb lb4 lb3 hR5 hR5' k6 e
    refine ⟨fun m σ' H' => ∃ done todo, us = done ++ todo ∧ m = todo.length ∧ σ' = [some (.ref r.1), some (.str nm), some (.ref L), some (.ref M), none, none, none] ∧ LB r M (Out [M] H6) H' (done.map .str) ∧ Rd' C r H' ((todo.map fun u => [tW "use", tN u, tS ";"]).flatten ++ post1) b, ⟨_, [], us, rfl, rfl, rfl, mb6, hR6⟩, ?_⟩
    rintro m σ' H7 ⟨done, todo, hdt, rfl, rfl, mb, hR7⟩
    cases todo with
    | cons x todo =>
      refine r_skipY rfl hR7 fun H8 k8 hR8 => ⟨_, rfl, ?_⟩
      refine ⟨_, fun _ _ h => h, ?_⟩
      refine ⟨_, rfl, (mb.go hR8 k8).ty, r_take rfl hR8 rfl fun H9 k9 hR9 => ?_⟩
      rw [hdt] at hu
      obtain ⟨us', e, hlt, go⟩ := mb.ap (d := .str x) hR9 (k8.trans k9) (.str x) (by simp at hu ⊢; omega)
      refine ⟨_, _, _, rfl, rfl, e, hlt, fun H10 k10 e10 => ?_⟩
      obtain ⟨lb10, hR10⟩ := go H10 k10 e10
      refine r_need rfl hR10 fun H11 k11 hR11 => ?_
      refine ⟨todo.length, by simp, done ++ [x], todo, by simp [hdt], rfl, rfl, ?_, hR11⟩
      rw [List.map_append]
      exact lb10.go hR11 k11
    | nil =>
      have hR7' : Rd' C r H7 post1 b := hR7
      rw [← hpo] at hR7'
      refine r_skipN rfl hR7' fun H8 k8 hR8 => ⟨_, rfl, ?_⟩
      refine r_need rfl hR8 fun H9 k9 hR9 => ?_
      refine r_take rfl hR9 rfl fun H10 k10 hR10 => ?_
      refine ⟨_, rfl, _, rfl, r, as, _, b, rfl, hR10, ha, fun v H11 k11 hR11 h11 => ⟨by walk_at "le", fun p H12 hp s12 e12 => ?_⟩⟩
      have k711 := ((k8.trans k9).trans k10).trans k11
      have mb11 := mb.go hR11 k711
      refine r_need rfl (hR11.same s12) fun H13 k13 hR13 => ?_
      refine r_need rfl hR13 fun H14 k14 hR14 => ?_
      refine r_take rfl hR14 rfl fun H15 k15 hR15 => ?_
      refine r_need rfl hR15 fun H16 k16 hR16 => ?_
      refine r_need rfl hR16 fun H17 k17 hR17 => ?_
      refine ⟨_, rfl, _, rfl, _, rfl, _, rfl, _, rfl, by walk_at "le", fun z H18 hz s18 e18 => ?_⟩
      have k1217 := (((k13.trans k14).trans k15).trans k16).trans k17
      have k1117 := (Kp.same s12).trans k1217
      have mb17 := mb11.go hR17 k1117
      have khi : ∀ {H'}, Kp [r.1] (Out [M] H6) H' → Kp [r.1] H H' := fun kk c o hc hcc => kk c o hc (by
        have h3 : Out [L] H3 c = some o := by
          rw [out_of (fun z => by
            have : c = L := by simpa using z
            rw [this, hR1.dm k1 L hL] at hcc; cases hcc)]
          exact s3 _ _ (s2 _ _ (k1 c o hc hcc))
        rw [out_of (fun z => by
            have : c = M := by simpa using z
            rw [this, hR1.dm k1 M (Same.dm s2 M hM)] at hcc; cases hcc)]
        exact lb6.kp c o hc h3)
      have k := khi mb17.kp
      refine q _ _ (k.trans (Kp.same s18)) (hR17.same s18) (at_tup (hR17.dm k) hz e18 (.cons (.str _) (.cons (.str _) (.cons ?_ (.cons ?_ (.cons ?_ (.cons (.int _) .nil)))))))
      · have m : Same (Nw (Out [L] H3) H6) (Nw (Out [L] H3) H17) := fun c o hc => by
          obtain ⟨h1, h2⟩ := nw_some hc
          refine nw_of h1 (mb17.kp c o (fun z => ?_) ?_)
          · have : c = r.1 := by simpa using z
            exact lb6.r1 (this ▸ h1)
          · rw [out_of (fun z => by
              have : c = M := by simpa using z
              rw [this, hM3] at h1; cases h1)]
            exact h2
        exact ((hat.mono m).mono (nw0 dL)).mono (nws s18)
      · rw [hdt, List.append_nil]
        exact (mb17.at.mono (nw0 dM)).mono (nws s18)
      · have k10' := khi ((((mb.go hR8 k8).go hR9 k9).go hR10 k10)).kp
        have d10 := hR10.dm k10'
        exact ((at_tup (hR11.dm (k10'.trans k11)) hp e12 (.cons (.str _) (.cons ((h11.mono (nw0 d10)).mono (nws s12)) .nil))).mono (nw1 k1217 hR.ne)).mono (nws s18)
end
end WP
namespace WP
open PySem PySem.Spec PyProof.Rows L2 TL
local macro_rules | `(tactic| walk_at "len") => `(tactic| (show _ ≤ sizeLine; rw [sizeLine_eq]; (try simp only [al, lit_len]); (try simp) <;> omega))
local macro_rules | `(tactic| walk_at "lt") => `(tactic| (show _ < sizeLine; rw [sizeLine_eq]; (try simp only [List.length_map, List.length_append, List.length_cons, List.length_nil, List.length_take]); omega))
local macro_rules | `(tactic| walk_at "le") => `(tactic| (show _ ≤ sizeLine; rw [sizeLine_eq]; (try simp only [List.length_map, List.length_append, List.length_cons, List.length_nil, List.length_take]); omega))
local macro_rules | `(tactic| walk_at "now") => `(tactic| first | assumption | (refine (by assumption : Same _ _) _ _ ?_; walk_at "now"))
local macro_rules | `(tactic| walk_at "at") => `(tactic| first | exact at0 | exact at1 | exact at2 | exact at3 | exact at4 | exact at5 | exact at6 | exact at7 | exact at8)
local macro_rules | `(tactic| walk_at "v") => `(tactic| refine ⟨_, rfl, ?_⟩)
local macro_rules | `(tactic| walk_at "ix") => `(tactic| refine ⟨_, _, _, _, rfl, rfl, SqT.of (by walk_at "now"), (by walk_at "at"), ?_⟩)
local macro_rules | `(tactic| walk_at "ixl") => `(tactic| refine ⟨_, _, _, _, rfl, rfl, SqL.of (by walk_at "now"), (by walk_at "at"), ?_⟩)
local macro_rules | `(tactic| walk_at "str") => `(tactic| refine ⟨_, _, rfl, rfl, (by walk_at "len"), ?_⟩)
local macro_rules | `(tactic| walk_at "int") => `(tactic| refine ⟨_, _, rfl, rfl, ?_⟩)
local macro_rules | `(tactic| walk_at "eq") => `(tactic| refine ⟨rfl, _, rfl, ?_⟩)
local macro_rules | `(tactic| walk_at "app") => `(tactic| refine ⟨_, _, _, rfl, rfl, (by walk_at "now"), (by walk_at "lt"), ?_⟩)
local macro_rules | `(tactic| walk_at "ext") => `(tactic| refine ⟨_, _, _, _, rfl, rfl, (by walk_at "now"), (by walk_at "now"), (by walk_at "le"), ?_⟩)
local macro_rules | `(tactic| walk_at "cat") => `(tactic| refine ⟨_, _, _, _, rfl, rfl, (by walk_at "now"), (by walk_at "now"), (by walk_at "le"), ?_⟩)
local macro_rules | `(tactic| walk_at "num") => `(tactic| refine ⟨(by assumption : Nu _), ?_⟩)
local macro_rules | `(tactic| walk_at "ty") => `(tactic| refine ⟨Or.inl ⟨rfl, _, SqL.of (by walk_at "now")⟩, ?_⟩)
local macro_rules | `(tactic| walk_at "un2") => `(tactic| refine ⟨_, _, rfl, SqT.of (by walk_at "now"), rfl, _, _, rfl, _, _, rfl, rfl, ?_⟩)
local macro_rules | `(tactic| walk_at "un3") => `(tactic| refine ⟨_, _, rfl, SqT.of (by walk_at "now"), rfl, _, _, rfl, _, _, rfl, _, _, rfl, rfl, ?_⟩)
local macro_rules | `(tactic| walk_at "un4") => `(tactic| refine ⟨_, _, rfl, SqT.of (by walk_at "now"), rfl, _, _, rfl, _, _, rfl, _, _, rfl, _, _, rfl, rfl, ?_⟩)
local macro_rules | `(tactic| walk_at "un6") => `(tactic| refine ⟨_, _, rfl, SqT.of (by walk_at "now"), rfl, _, _, rfl, _, _, rfl, _, _, rfl, _, _, rfl, _, _, rfl, _, _, rfl, rfl, ?_⟩)
local macro_rules | `(tactic| walk_at "un9") => `(tactic| refine ⟨_, _, rfl, SqT.of (by walk_at "now"), rfl, _, _, rfl, _, _, rfl, _, _, rfl, _, _, rfl, _, _, rfl, _, _, rfl, _, _, rfl, _, _, rfl, _, _, rfl, rfl, ?_⟩)
local macro_rules | `(tactic| walk_at "go") => `(tactic| repeat (first | walk_at "v" | walk_at "eq" | walk_at "ix" | walk_at "str" | walk_at "ty" | walk_at "num"))

def spBlk (C : Addr) : Nat → Sp
  | 0 => fun _ _ _ _ => False
  | n + 1 => fun vs H Q _ => ∃ r x post b, vs = [.ref r.1] ∧ Rd' C r H (tS "{" :: (kB x ++ (tS "}" :: post))) b ∧ wB n x ∧ b + n ≤ 7 ∧ x.count ≤ 16 ∧ ∀ v H', Kp [r.1] H H' → Rd' C r H' post b → At (Nw H H') v (.list (eB x)) → Q v H'
def spRep (P : Program) (w : World) (K : PySem.W.Frag) (mg : Str → Option Value) (base : Heap) (C : Addr) (k : Nat) : Sp := fun vs H Q _ => ∃ (α : Type) (tx : α → List Tok) (e : α → PyData) (W : α → Prop) (f : Addr) (fd : FuncData) (r : Addr × Addr) (wd : Str) (l : List α) (t : Tok) (post : List Tok) (b : Nat),
  FnOk P w K mg base CX0 k f fd ["reader"] (spW C tx e W) ∧ PySem.W.keepIn K (.ref f) = true ∧ Binds K fd ["reader"] [] ∧ vs = [.ref r.1, .str wd, .ref f] ∧ Rd' C r H (kRep wd tx l ++ (t :: post)) b ∧ seesB t wd = false ∧ TokOk t ∧ (∀ x ∈ l, W x) ∧ l.length ≤ 16 ∧
  ∀ v H', Kp [r.1] H H' → Rd' C r H' (t :: post) b → At (Nw H H') v (.list (l.map e)) → Q v H'
def spInit (C : Addr) : Sp := fun vs H Q _ => ∃ x dx z ts, vs = [.ref x, .str z] ∧ H x = some (.ins C dx []) ∧ Lex (tl z) ts ∧ z.length ≤ 14000000 ∧ ∀ L H', Kp [x] H H' → Rd' C (x, L) H' (ts ++ [tE]) 0 → Q .non H'
def spParse : Sp := fun vs H Q _ => ∃ z p, vs = [.str z] ∧ Lex (tl z) (kPrg p) ∧ z.length ≤ 14000000 ∧ wPrg p ∧ ∀ v H', Same H H' → At H' v (ePrg p) → Q v H'
section
variable {P : Program} {w : World} {K : PySem.W.Frag} {mg : Str → Option Value} {base : Heap} {C : Addr} {k : Nat}
abbrev s_repeated : Stmt := top 41
abbrev n_repeated : List Str := ["reader", "word", "parse", "found"]
theorem sc_repeated : FnScope n_repeated ["reader", "word", "parse"] (defScope s_repeated) := ⟨rfl, rfl, rfl, by decide +kernel, rfl, by decide +kernel, by decide +kernel⟩
/- slots: 0 reader, 1 word, 2 parse, 3 found -/
theorem ok_repeated (R : RM P w K mg base C k) (h : Has K mg "repeated" s_repeated ["reader", "word", "parse"]) : Ok P w K mg base (k + 1) "repeated" ["reader", "word", "parse"] (spRep P w K mg base C k) := by
  obtain ⟨_, _, G_skip, mt_skip, b_skip⟩ := R.skip.ex
  obtain ⟨_, _, G_need, mt_need, b_need⟩ := R.need.ex
  obtain ⟨_, _, G_take, mt_take, b_take⟩ := R.take.ex
  obtain ⟨_, _, G_kind, mt_kind, b_kind⟩ := R.kind.ex
  obtain ⟨_, _, G_sees, mt_sees, b_sees⟩ := R.sees.ex
  obtain ⟨_, _, G_fail, mt_fail, b_fail⟩ := R.fail.ex
  have c_Reader := R.T.cl
  refine h.ok sc_repeated (fun vs H Q E h => ?_) (fun f0 cdv A outer s H vs Q E hr h => ?_)
  · obtain ⟨_, _, _, _, _, _, _, _, _, _, _, _, _, _, _, rfl, _⟩ := h; rfl
  obtain ⟨α, tx, e, W, f, fd, r, wd, l, t, post, b, F_parse, k_parse, b_parse, rfl, hR, hno, hok, hW, hl, q⟩ := h
  refine ⟨_, (pss_cons (ps_set (i := 3) sc_repeated.nd rfl (Or.inl rfl) (pe_lstS pa_nil))
    (pss_cons (ps_while PassesOwn.never (pt_val (pe_meth (pv 0) c_Reader mt_skip G_skip hr b_skip .nil pass0 (pa_cons (pv 1) pa_nil))) (pss_one (ps_expr (pe_bm PySem.F.plainAttrs_list PySem.F.slot_list_append PySem.F.type_list_append mt_appendS (pv 3) (pa_cons (pe_callL (i := 2) F_parse hr rfl (Or.inl rfl) k_parse b_parse .nil pass0 (pa_cons (pv 0) pa_nil)) pa_nil)))))
    (pss_one (ps_ret (pv 3))))), ?_⟩
  refine ⟨by walk_at "le", fun L H1 hL s1 e1 => ?_⟩
  have lb1 := LB.start hR hL s1 e1
  refine ⟨fun m σ' H' => ∃ done todo, l = done ++ todo ∧ m = todo.length ∧ σ' = [some (.ref r.1), some (.str wd), some (.ref f), some (.ref L)] ∧ LB r L H H' (done.map e) ∧ Rd' C r H' (kRep wd tx todo ++ (t :: post)) b, ⟨_, [], l, rfl, rfl, rfl, lb1, hR.same s1⟩, ?_⟩
  rintro m σ' H3 ⟨done, todo, hdt, rfl, rfl, lb, hR3⟩
  cases todo with
  | nil =>
    have hR3' : Rd' C r H3 (t :: post) b := hR3
    refine r_skipV rfl rfl hR3' (fun H4 k4 hR4 => ⟨_, rfl, ?_⟩) hok
    rw [hno] at hR4 ⊢
    have lb4 := lb.go hR4 k4
    refine ⟨_, rfl, q _ _ lb4.kp hR4 ?_⟩
    rw [hdt, List.append_nil]
    exact lb4.at
  | cons x todo =>
    have hR3' : Rd' C r H3 (tW wd :: (tx x ++ (kRep wd tx todo ++ (t :: post)))) b := by simpa only [kRep, List.map_cons, List.flatten_cons, List.append_assoc, List.cons_append] using hR3
    refine r_skipV rfl rfl hR3' fun H4 k4 hR4 => ⟨_, rfl, ?_⟩
    rw [seesW, decide_eq_true rfl] at hR4 ⊢
    refine ⟨_, fun _ _ h => h, ?_⟩
    refine ⟨_, rfl, (lb.go hR4 k4).ty, rfl, _, rfl, r, x, _, b, rfl, hR4, hW x (by rw [hdt]; simp), fun v H5 k5 hR5 h5 => ?_⟩
    rw [hdt] at hl
    obtain ⟨us, eu, hlt, go⟩ := lb.ap hR5 (k4.trans k5) (h5.mono (nw0 (hR4.dm k4))) (by simp at hl ⊢; omega)
    refine ⟨_, _, _, rfl, rfl, eu, hlt, fun H6 k6 e6 => ?_⟩
    obtain ⟨lb6, hR6⟩ := go H6 k6 e6
    refine ⟨todo.length, by simp, done ++ [x], todo, by simp [hdt], rfl, rfl, ?_, hR6⟩
    rw [List.map_append]
    exact lb6
abbrev s_block : Stmt := top 38
abbrev n_block : List Str := ["reader", "statements", "found", "then", "other"]
theorem sc_block : FnScope n_block ["reader"] (defScope s_block) := ⟨rfl, rfl, rfl, by decide +kernel, rfl, by decide +kernel, by decide +kernel⟩
/- slots: 0 reader, 1 statements, 2 found, 3 then, 4 other -/
theorem ok_block (hM : ∃ t, mg "MOST_BLOCKS" = some (.int 8 t)) (R : RM P w K mg base C k) (h : Has K mg "block" s_block ["reader"]) (c1 : Ok P w K mg base k "test" ["reader"] (spW C kTst eTst (wTst 8))) (n : Nat) (c2 : Ok P w K mg base k "block" ["reader"] (spBlk C n)) : Ok P w K mg base (k + 1) "block" ["reader"] (spBlk C (n + 1)) := by
  obtain ⟨_, _, G_skip, mt_skip, b_skip⟩ := R.skip.ex
  obtain ⟨_, _, G_need, mt_need, b_need⟩ := R.need.ex
  obtain ⟨_, _, G_take, mt_take, b_take⟩ := R.take.ex
  obtain ⟨_, _, G_kind, mt_kind, b_kind⟩ := R.kind.ex
  obtain ⟨_, _, G_sees, mt_sees, b_sees⟩ := R.sees.ex
  obtain ⟨_, _, G_fail, mt_fail, b_fail⟩ := R.fail.ex
  have c_Reader := R.T.cl
  have cls := R.T
  obtain ⟨_, m_MOST_BLOCKS⟩ := hM
  obtain ⟨_, _, G_test, m_test, k_test, b_test⟩ := c1.ex
  obtain ⟨_, _, G_block, m_block, k_block, b_block⟩ := c2.ex
  refine h.ok sc_block (fun vs H Q E h => ?_) (fun f0 cdv A outer s H vs Q E hr h => ?_)
  · obtain ⟨_, _, _, _, rfl, _⟩ := h; rfl
  obtain ⟨r, x, post, b, rfl, hR, hw, hb, hc, q⟩ := h
  refine ⟨_, (Evl.pss_cut (ps_if (PW.pt (pw_and (pt_val (pe_meth (pv 0) c_Reader mt_sees G_sees hr b_sees .nil pass0 (pa_cons pe_str pa_nil))) (pw_and1 (pt_cmpR op_eq (pe_fld (pv 0) rfl) (pe_glob (v := .int _) rfl m_MOST_BLOCKS ⟨_, rfl⟩) (nomark _))))) (pss_one (ps_expr (pe_meth0 (pv 0) c_Reader mt_fail G_fail hr b_fail .nil pass0))) pss_nil)
    (pss_cons (ps_expr (pe_meth (pv 0) c_Reader mt_need G_need hr b_need .nil pass0 (pa_cons pe_str pa_nil)))
    (pss_cons (ps_fld (pv 0) (pe_op op_add (pe_fld (pv 0) rfl) pe_int) rfl)
    (pss_cons (ps_set (i := 1) sc_block.nd rfl (Or.inl rfl) (pe_lstS pa_nil))
    (pss_cons (ps_while PassesOwn.never (pt_not (pt_val (pe_meth (pv 0) c_Reader mt_skip G_skip hr b_skip .nil pass0 (pa_cons pe_str pa_nil)))) (pss_one (ps_if (pt_val (pe_meth (pv 0) c_Reader mt_skip G_skip hr b_skip .nil pass0 (pa_cons pe_str pa_nil))) (pss_cons (ps_expr (pe_bm PySem.F.plainAttrs_list PySem.F.slot_list_append PySem.F.type_list_append mt_appendS (pv 1) (pa_cons (pe_tupS (pa_cons pe_str (pa_cons (pe_meth (pv 0) c_Reader mt_take G_take hr b_take .nil pass0 (pa_cons pe_str pa_nil)) pa_nil))) pa_nil)))
    (pss_one (ps_expr (pe_meth (pv 0) c_Reader mt_need G_need hr b_need .nil pass0 (pa_cons pe_str pa_nil))))) (pss_cons (ps_expr (pe_meth (pv 0) c_Reader mt_need G_need hr b_need .nil pass0 (pa_cons pe_str pa_nil)))
    (pss_cons (ps_set (i := 2) sc_block.nd rfl (Or.inl rfl) (pe_call G_test hr (by rfl) m_test k_test b_test .nil pass0 (pa_cons (pv 0) pa_nil)))
    (pss_cons (ps_set (i := 3) sc_block.nd rfl (Or.inl rfl) (pe_call G_block hr (by rfl) m_block k_block b_block .nil pass0 (pa_cons (pv 0) pa_nil)))
    (pss_cons (ps_set (i := 4) sc_block.nd rfl (Or.inl rfl) (pe_ifExp (pt_val (pe_meth (pv 0) c_Reader mt_skip G_skip hr b_skip .nil pass0 (pa_cons pe_str pa_nil))) (pe_call G_block hr (by rfl) m_block k_block b_block .nil pass0 (pa_cons (pv 0) pa_nil)) (pe_lstS pa_nil)))
    (pss_one (ps_expr (pe_bm PySem.F.plainAttrs_list PySem.F.slot_list_append PySem.F.type_list_append mt_appendS (pv 1) (pa_cons (pe_tupS (pa_cons pe_str (pa_cons (pv 2) (pa_cons (pv 3) (pa_cons (pv 4) pa_nil))))) pa_nil)))))))))))
    (pss_cons (ps_fld (pv 0) (pe_op op_sub (pe_fld (pv 0) rfl) pe_int) rfl)
    (pss_one (ps_ret (pv 1))))))))), ?_⟩
  refine ⟨fun σ' H1 => σ' = [some (.ref r.1), none, none, none, none] ∧ Same H H1, ?_, ?_⟩
  · refine r_sees rfl hR fun H1 s1 => ⟨_, rfl, ?_⟩
    have hs : seesB (tS "{") "{" = true := by decide +kernel
    rw [hs]
    obtain ⟨dx, xs, tks, i, g1, g2, g3, g4⟩ := hR.same s1
    refine ⟨_, rfl, r.1, C, dx, _, _, rfl, g1, cls.cl, cls.nB, rf_blk, ?_⟩
    refine ⟨rfl, _, rfl, ?_⟩
    exact ifN (fun z => by have := V.int.inj z; omega) ⟨rfl, s1⟩
  rintro σ' H1 ⟨rfl, s1⟩
  refine r_need rfl (hR.same s1) fun H2 k2 hR2 => ?_
  obtain ⟨dx, xs, tks, i, g1, g2, g3, g4⟩ := hR2
  refine ⟨_, rfl, r.1, C, dx, _, _, rfl, g1, cls.cl, cls.nB, rf_blk, _, _, rfl, rfl, _, rfl, r.1, C, dx, _, rfl, g1, cls.cl, cls.nB, by show 3 < 1000; decide, ?_⟩
  rw [rf_put_blk]
  have k3 : Kp [r.1] H2 (upd H2 r.1 (.ins C dx (rf r.2 (i : Int) ((b : Int) + 1)))) := Kp.wr (by simp)
  have hR3 : Rd' C r (upd H2 r.1 (.ins C dx (rf r.2 (i : Int) ((b : Int) + 1)))) (kB x ++ (tS "}" :: post)) (b + 1) := Rd'.put (j := i) (c := b + 1) g1 g2 g3 k3 upd_same g4
  generalize (upd H2 r.1 (.ins C dx (rf r.2 (i : Int) ((b : Int) + 1)))) = H3 at k3 hR3
  have k13 := ((Kp.same s1).trans k2).trans k3
  refine ⟨by walk_at "le", fun L H4 hL s4 e4 => ?_⟩
  have lb4 := LB.start hR3 hL s4 e4
  refine ⟨fun m σ' H' => ∃ (u : Blk) (ds : List PyData), eB x = ds ++ eB u ∧ ds.length + u.count ≤ 16 ∧ wB n u ∧ m = u.count ∧ (∃ y z t, σ' = [some (.ref r.1), some (.ref L), y, z, t]) ∧ LB r L H3 H' ds ∧ Rd' C r H' (kB u ++ (tS "}" :: post)) (b + 1), ⟨_, x, [], rfl, by simpa using hc, hw, rfl, ⟨_, _, _, rfl⟩, lb4, hR3.same s4⟩, ?_⟩
  rintro m σ' H5 ⟨u, ds, heq, hlen, hwu, rfl, ⟨y, z, t, rfl⟩, lb, hR5⟩
  cases u with
  | nil =>
    refine r_skipY rfl hR5 fun H6 k6 hR6 => ⟨_, rfl, ?_⟩
    have lb6 := lb.go hR6 k6
    obtain ⟨dx, xs, tks, i, g1, g2, g3, g4⟩ := hR6
    refine ⟨_, rfl, r.1, C, dx, _, _, rfl, g1, cls.cl, cls.nB, rf_blk, _, _, rfl, rfl, _, rfl, r.1, C, dx, _, rfl, g1, cls.cl, cls.nB, by show 3 < 1000; decide, ?_⟩
    rw [rf_put_blk, show (((b + 1 : Nat) : Int) - 1) = (b : Int) from by omega]
    have k7 : Kp [r.1] H6 (upd H6 r.1 (.ins C dx (rf r.2 (i : Int) (b : Int)))) := Kp.wr (by simp)
    have hR7 : Rd' C r (upd H6 r.1 (.ins C dx (rf r.2 (i : Int) (b : Int)))) post b := Rd'.put (j := i) (c := b) g1 g2 g3 k7 upd_same g4
    have lb7 := lb6.go hR7 k7
    refine ⟨_, rfl, q _ _ (k13.trans lb7.kp) hR7 ?_⟩
    rw [heq]
    show At _ _ (.list (ds ++ []))
    rw [List.append_nil]
    exact lb7.at.mono (nw0 (hR3.dm k13))
  | app tb u =>
    have hR5' : Rd' C r H5 (tW "apply" :: tN tb :: tS ";" :: (kB u ++ (tS "}" :: post))) (b + 1) := by simpa only [kB, List.append_assoc, List.cons_append, List.nil_append] using hR5
    refine r_skipN rfl hR5' fun H6 k6 hR6 => ⟨_, rfl, ?_⟩
    refine ⟨_, fun _ _ h => h, ?_⟩
    refine r_skipY rfl hR6 fun H7 k7 hR7 => ⟨_, rfl, ?_⟩
    refine iteT ?_
    refine ⟨_, rfl, (lb.go hR7 (k6.trans k7)).ty, r_take rfl hR7 rfl fun H8 k8 hR8 => ⟨by walk_at "le", fun p H9 hp s9 e9 => ?_⟩⟩
    have k := (k6.trans k7).trans k8
    simp only [Blk.count] at hlen
    obtain ⟨us, eu, hlt, go⟩ := lb.ap (hR8.same s9) (k.trans (Kp.same s9)) (at_tup (hR8.dm k) hp e9 (.cons (.str _) (.cons (.str _) .nil))) (by omega)
    refine ⟨_, _, _, rfl, rfl, eu, hlt, fun H10 k10 e10 => ?_⟩
    obtain ⟨lb10, hR10⟩ := go H10 k10 e10
    refine r_need rfl hR10 fun H11 k11 hR11 => ?_
    exact ⟨u.count, by simp only [Blk.count]; omega, u, _, by rw [heq, List.append_assoc]; rfl, by simp; omega, hwu.2, rfl, ⟨_, _, _, rfl⟩, lb10.go hR11 k11, hR11⟩
  | ifs tt a1 b1 u =>
    have hR5' : Rd' C r H5 (tW "if" :: (kTst tt ++ (tS "{" :: (kB a1 ++ (tS "}" :: (kElse (kB b1) b1.some ++ (kB u ++ (tS "}" :: post)))))))) (b + 1) := by simpa only [kB, List.append_assoc, List.cons_append, List.nil_append] using hR5
    obtain ⟨hwt, ⟨n', rfl, hwa, hwb⟩, hwu'⟩ := hwu
    simp only [Blk.count] at hlen
    refine r_skipN rfl hR5' fun H6 k6 hR6 => ⟨_, rfl, ?_⟩
    refine ⟨_, fun _ _ h => h, ?_⟩
    refine r_skipN rfl hR6 fun H7 k7 hR7 => ⟨_, rfl, ?_⟩
    refine iteF (r_need rfl hR7 fun H8 k8 hR8 => ?_)
    refine ⟨_, rfl, r, tt, _, _, rfl, hR8, hwt, fun v9 H9 k9 hR9 h9 => ?_⟩
    refine ⟨_, rfl, r, a1, _, _, rfl, hR9, hwa, by omega, by omega, fun v10 H10 k10 hR10 h10 => ?_⟩
    have k58 := (k6.trans k7).trans k8
    have k59 := k58.trans k9
    have k510 := k59.trans k10
    have last : ∀ (v : V) (H11 : Hp), Kp [r.1] H10 H11 → Rd' C r H11 (kB u ++ (tS "}" :: post)) (b + 1) → At (Nw H10 H11) v (.list (eB b1)) → ∀ D : Ends, (∀ H12, LB r L H3 H12 (ds ++ [.tuple [.str "if", eTst tt, .list (eB a1), .list (eB b1)]]) → Rd' C r H12 (kB u ++ (tS "}" :: post)) (b + 1) → D.nx [some (.ref r.1), some (.ref L), some v9, some v10, some v] H12) →
        tDrop (tBM K "list" rAppendS (tVar 1) (tCons (tTupS (tCons (tC (.str "if")) (tCons (tVar 2) (tCons (tVar 3) (tCons (tVar 4) tNil))))) tNil)) D [some (.ref r.1), some (.ref L), some v9, some v10, some v] H11 := by
      intro v H11 k11 hR11 h11 D hD
      have k511 := k510.trans k11
      refine ⟨_, rfl, (lb.go hR11 k511).ty, _, rfl, _, rfl, _, rfl, by walk_at "le", fun p H12 hp s12 e12 => ?_⟩
      have i9 := ((h9.mono (nw0 (hR8.dm k58))).mono (nw1 (k10.trans k11) hR5.ne)).mono (nws s12)
      have i10 := ((h10.mono (nw0 (hR9.dm k59))).mono (nw1 k11 hR5.ne)).mono (nws s12)
      have i11 := (h11.mono (nw0 (hR10.dm k510))).mono (nws s12)
      obtain ⟨us, eu, hlt, go⟩ := lb.ap (hR11.same s12) (k511.trans (Kp.same s12)) (at_tup (hR11.dm k511) hp e12 (.cons (.str _) (.cons i9 (.cons i10 (.cons i11 .nil))))) (by omega)
      refine ⟨_, _, _, rfl, rfl, eu, hlt, fun H13 k13 e13 => ?_⟩
      obtain ⟨lb13, hR13⟩ := go H13 k13 e13
      exact hD _ lb13 hR13
    have hend : ∀ H12, LB r L H3 H12 (ds ++ [.tuple [.str "if", eTst tt, .list (eB a1), .list (eB b1)]]) → Rd' C r H12 (kB u ++ (tS "}" :: post)) (b + 1) → ∀ y z t, ∃ m', m' < (Blk.ifs tt a1 b1 u).count ∧ (∃ (u : Blk) (ds : List PyData), eB x = ds ++ eB u ∧ ds.length + u.count ≤ 16 ∧ wB (n' + 1) u ∧ m' = u.count ∧ (∃ y' z' t', ([some (.ref r.1), some (.ref L), y, z, t] : L2.St) = [some (.ref r.1), some (.ref L), y', z', t']) ∧ LB r L H3 H12 ds ∧ Rd' C r H12 (kB u ++ (tS "}" :: post)) (b + 1)) := by
      intro H12 lb12 hR12 y z t
      exact ⟨u.count, by simp only [Blk.count]; omega, u, _, by rw [heq, List.append_assoc]; rfl, by simp; omega, hwu', rfl, ⟨_, _, _, rfl⟩, lb12, hR12⟩
    cases hb1 : b1.some with
    | false =>
      have e0 : b1 = .nil := by cases b1 <;> first | rfl | cases hb1
      subst e0
      obtain ⟨t0, rest, et, hs, ok⟩ : ∃ t rest, kB u ++ (tS "}" :: post) = t :: rest ∧ seesB t "else" = false ∧ TokOk t := by
        cases u with
        | nil => exact ⟨tS "}", _, rfl, by decide +kernel, fun _ => ⟨_, rfl⟩⟩
        | app => exact ⟨tW "apply", _, rfl, by decide +kernel, fun _ => ⟨_, rfl⟩⟩
        | ifs => exact ⟨tW "if", _, rfl, by decide +kernel, fun _ => ⟨_, rfl⟩⟩
      have hR10' : Rd' C r H10 (kB u ++ (tS "}" :: post)) (b + 1) := hR10
      rw [et] at hR10'
      refine r_skipN rfl hR10' (fun H11 k11 hR11 => ⟨_, rfl, ?_⟩) hs ok
      rw [← et] at hR11
      refine iteF ⟨by walk_at "le", fun p H12 hp s12 e12 => ?_⟩
      exact last (.ref p) H12 (k11.trans (Kp.same s12)) (hR11.same s12) (.lst (nw_of (hR11.dm k11 p hp) e12) .nil) _ fun H13 lb13 hR13 => hend H13 lb13 hR13 _ _ _
    | true =>
      rw [hb1] at hR10
      have hR10' : Rd' C r H10 (tW "else" :: tS "{" :: (kB b1 ++ (tS "}" :: (kB u ++ (tS "}" :: post))))) (b + 1) := by simpa only [kElse, List.append_assoc, List.cons_append, List.nil_append] using hR10
      refine r_skipY rfl hR10' fun H11 k11 hR11 => ⟨_, rfl, ?_⟩
      refine iteT ⟨_, rfl, r, b1, _, _, rfl, hR11, hwb, by omega, by omega, fun v12 H12 k12 hR12 h12 => ?_⟩
      exact last v12 H12 (k11.trans k12) hR12 (h12.mono (nw0 (hR11.dm k11))) _ fun H13 lb13 hR13 => hend H13 lb13 hR13 _ _ _
theorem ok_block_all (hM : ∃ t, mg "MOST_BLOCKS" = some (.int 8 t)) (R : RM P w K mg base C k) (h : Has K mg "block" s_block ["reader"]) (c1 : Ok P w K mg base k "test" ["reader"] (spW C kTst eTst (wTst 8))) : ∀ n : Nat, Ok P w K mg base (k + n) "block" ["reader"] (spBlk C n)
  | 0 => (h.none fun _ _ _ _ => id).mono (Nat.zero_le _)
  | n + 1 => ok_block hM (R.mono (Nat.le_add_right _ _)) h (c1.mono (Nat.le_add_right _ _)) n (ok_block_all hM R h c1 n)
end
end WP
namespace WP
open PySem PySem.Spec PyProof.Rows L2 TL
local macro_rules | `(tactic| walk_at "len") => `(tactic| (show _ ≤ sizeLine; rw [sizeLine_eq]; (try simp only [al, lit_len]); (try simp) <;> omega))
local macro_rules | `(tactic| walk_at "lt") => `(tactic| (show _ < sizeLine; rw [sizeLine_eq]; (try simp only [List.length_map, List.length_append, List.length_cons, List.length_nil, List.length_take]); omega))
local macro_rules | `(tactic| walk_at "le") => `(tactic| (show _ ≤ sizeLine; rw [sizeLine_eq]; (try simp only [List.length_map, List.length_append, List.length_cons, List.length_nil, List.length_take]); omega))
local macro_rules | `(tactic| walk_at "now") => `(tactic| first | assumption | (refine (by assumption : Same _ _) _ _ ?_; walk_at "now"))
local macro_rules | `(tactic| walk_at "at") => `(tactic| first | exact at0 | exact at1 | exact at2 | exact at3 | exact at4 | exact at5 | exact at6 | exact at7 | exact at8)
local macro_rules | `(tactic| walk_at "v") => `(tactic| refine ⟨_, rfl, ?_⟩)
local macro_rules | `(tactic| walk_at "ix") => `(tactic| refine ⟨_, _, _, _, rfl, rfl, SqT.of (by walk_at "now"), (by walk_at "at"), ?_⟩)
local macro_rules | `(tactic| walk_at "ixl") => `(tactic| refine ⟨_, _, _, _, rfl, rfl, SqL.of (by walk_at "now"), (by walk_at "at"), ?_⟩)
local macro_rules | `(tactic| walk_at "str") => `(tactic| refine ⟨_, _, rfl, rfl, (by walk_at "len"), ?_⟩)
local macro_rules | `(tactic| walk_at "int") => `(tactic| refine ⟨_, _, rfl, rfl, ?_⟩)
local macro_rules | `(tactic| walk_at "eq") => `(tactic| refine ⟨rfl, _, rfl, ?_⟩)
local macro_rules | `(tactic| walk_at "app") => `(tactic| refine ⟨_, _, _, rfl, rfl, (by walk_at "now"), (by walk_at "lt"), ?_⟩)
local macro_rules | `(tactic| walk_at "ext") => `(tactic| refine ⟨_, _, _, _, rfl, rfl, (by walk_at "now"), (by walk_at "now"), (by walk_at "le"), ?_⟩)
local macro_rules | `(tactic| walk_at "cat") => `(tactic| refine ⟨_, _, _, _, rfl, rfl, (by walk_at "now"), (by walk_at "now"), (by walk_at "le"), ?_⟩)
local macro_rules | `(tactic| walk_at "num") => `(tactic| refine ⟨(by assumption : Nu _), ?_⟩)
local macro_rules | `(tactic| walk_at "ty") => `(tactic| refine ⟨Or.inl ⟨rfl, _, SqL.of (by walk_at "now")⟩, ?_⟩)
local macro_rules | `(tactic| walk_at "un2") => `(tactic| refine ⟨_, _, rfl, SqT.of (by walk_at "now"), rfl, _, _, rfl, _, _, rfl, rfl, ?_⟩)
local macro_rules | `(tactic| walk_at "un3") => `(tactic| refine ⟨_, _, rfl, SqT.of (by walk_at "now"), rfl, _, _, rfl, _, _, rfl, _, _, rfl, rfl, ?_⟩)
local macro_rules | `(tactic| walk_at "un4") => `(tactic| refine ⟨_, _, rfl, SqT.of (by walk_at "now"), rfl, _, _, rfl, _, _, rfl, _, _, rfl, _, _, rfl, rfl, ?_⟩)
local macro_rules | `(tactic| walk_at "un6") => `(tactic| refine ⟨_, _, rfl, SqT.of (by walk_at "now"), rfl, _, _, rfl, _, _, rfl, _, _, rfl, _, _, rfl, _, _, rfl, _, _, rfl, rfl, ?_⟩)
local macro_rules | `(tactic| walk_at "un9") => `(tactic| refine ⟨_, _, rfl, SqT.of (by walk_at "now"), rfl, _, _, rfl, _, _, rfl, _, _, rfl, _, _, rfl, _, _, rfl, _, _, rfl, _, _, rfl, _, _, rfl, _, _, rfl, rfl, ?_⟩)
local macro_rules | `(tactic| walk_at "go") => `(tactic| repeat (first | walk_at "v" | walk_at "eq" | walk_at "ix" | walk_at "str" | walk_at "ty" | walk_at "num"))

def kP9 (p : Prg) : List Tok := kB p.ctl ++ (tS "}" :: (kEmit p.emits ++ [tE]))
def kP8 (p : Prg) : List Tok := kRep "table" kTab p.tabs ++ (tW "control" :: tS "{" :: kP9 p)
def kP7 (p : Prg) : List Tok := kRep "action" kAct p.acts ++ kP8 p
def kP6 (p : Prg) : List Tok := kRep "state" kSta p.stas ++ (tS "}" :: kP7 p)
def kP5 (p : Prg) : List Tok := kMeta p.meta' ++ (tW "parser" :: tS "{" :: kP6 p)
theorem r_meta {C : Addr} {r : Addr × Addr} {σ : L2.St} {H : Hp} {Q : VK} {post : List Tok} {b jj : Nat} {l : List Par} (hσ : σ[jj]? = some (some (.ref r.1))) (hR : Rd' C r H (kMeta l ++ (tW "parser" :: post)) b) (hl : l.length ≤ 16)
    (q : ∀ v H', Kp [r.1] H H' → Rd' C r H' (tW "parser" :: post) b → At (Nw H H') v (.list (l.map ePar)) → Q v H') :
    tIf (tB (tMeth C "skip" (spSkip C) [] E0 (tVar jj) (tCons (tC (.str "meta")) tNil))) (tCall (spW C kFields (fun l => .list (l.map ePar)) (fun l => l.length ≤ 16)) [] E0 (tCons (tVar jj) tNil)) (tLstS tNil) σ H Q := by
  unfold kMeta at hR
  by_cases hm : l = []
  · rw [if_pos hm] at hR
    subst hm
    refine r_skipN hσ hR (fun H1 k1 hR1 => ⟨_, rfl, iteF ⟨by walk_at "le", fun p H2 hp s2 e2 => ?_⟩⟩)
    exact q _ _ (k1.trans (Kp.same s2)) (hR1.same s2) (.lst (nw_of (hR1.dm k1 p hp) e2) .nil)
  · rw [if_neg hm] at hR
    refine r_skipY hσ hR (fun H1 k1 hR1 => ⟨_, rfl, iteT ⟨_, hσ, r, l, _, b, rfl, hR1, hl, fun v H2 k2 hR2 h2 => ?_⟩⟩)
    exact q _ _ (k1.trans k2) hR2 (h2.mono (nw0 (hR1.dm k1)))
theorem r_emit {C : Addr} {r : Addr × Addr} {σ : L2.St} {H : Hp} {Q : VK} {b jj : Nat} {l : List Str} (hσ : σ[jj]? = some (some (.ref r.1))) (hR : Rd' C r H (kEmit l ++ [tE]) b) (hl : l.length ≤ 16)
    (q : ∀ v H', Kp [r.1] H H' → Rd' C r H' [tE] b → At (Nw H H') v (.list (l.map .str)) → Q v H') :
    tIf (tB (tMeth C "skip" (spSkip C) [] E0 (tVar jj) (tCons (tC (.str "emit")) tNil))) (tCall (spW C kNames (fun l => .list (l.map .str)) (fun l => l.length ≤ 16 ∧ l ≠ [])) [] E0 (tCons (tVar jj) tNil)) (tLstS tNil) σ H Q := by
  unfold kEmit at hR
  by_cases hm : l = []
  · rw [if_pos hm] at hR
    subst hm
    refine r_skipN hσ hR (fun H1 k1 hR1 => ⟨_, rfl, iteF ⟨by walk_at "le", fun p H2 hp s2 e2 => ?_⟩⟩)
    exact q _ _ (k1.trans (Kp.same s2)) (hR1.same s2) (.lst (nw_of (hR1.dm k1 p hp) e2) .nil)
  · rw [if_neg hm] at hR
    refine r_skipY hσ hR (fun H1 k1 hR1 => ⟨_, rfl, iteT ⟨_, hσ, r, l, _, b, rfl, hR1, ⟨hl, hm⟩, fun v H2 k2 hR2 h2 => ?_⟩⟩)
    exact q _ _ (k1.trans k2) hR2 (h2.mono (nw0 (hR1.dm k1)))
theorem putF_tok {L : Addr} : putF "tokens" (.ref L) [] = [(Str.ofString "tokens", V.ref L)] := rfl
theorem putF_at {L : Addr} {i : Int} : putF "at" (.int i) [(Str.ofString "tokens", V.ref L)] = [(Str.ofString "tokens", V.ref L), (Str.ofString "at", V.int i)] := by
  have h1 : ¬ (Str.ofString "tokens") = (Str.ofString "at") := by decide +kernel
  show (if (Str.ofString "tokens") = (Str.ofString "at") then _ else _ :: _) = _
  rw [if_neg h1]; rfl
theorem putF_blk {L : Addr} {i b : Int} : putF "blocks" (.int b) [(Str.ofString "tokens", V.ref L), (Str.ofString "at", V.int i)] = rf L i b := by
  rw [← putF_at, ← putF_tok]
  exact rf_init
section
variable {P : Program} {w : World} {K : PySem.W.Frag} {mg : Str → Option Value} {base : Heap} {C : Addr} {k : Nat}
abbrev s_Reader___init__ : Stmt := inClass (top 24) 0
abbrev n_Reader___init__ : List Str := ["self", "text"]
theorem sc_Reader___init__ : FnScope n_Reader___init__ ["self", "text"] (defScope s_Reader___init__) := ⟨rfl, rfl, rfl, by decide +kernel, rfl, by decide +kernel, by decide +kernel⟩
/- slots: 0 self, 1 text -/
theorem ok_init (T : Rdr K mg C) (h : HasM K C "__init__" "Reader.__init__" s_Reader___init__ ["self", "text"]) (c1 : Ok P w K mg base k "tokenize" ["text"] spTokenize) : OkM P w K mg base C (k + 1) "__init__" ["self", "text"] (spInit C) := by
  obtain ⟨_, _, G_tokenize, m_tokenize, k_tokenize, b_tokenize⟩ := c1.ex
  refine h.ok sc_Reader___init__ (fun vs H Q E h => ?_) (fun f0 cdv A outer s H vs Q E hr h => ?_)
  · obtain ⟨_, _, _, _, rfl, _⟩ := h; rfl
  obtain ⟨x, dx, z, ts, rfl, hx, hlex, hz, q⟩ := h
  refine ⟨_, (pss_cons (ps_fld (pv 0) (pe_call G_tokenize hr (by rfl) m_tokenize k_tokenize b_tokenize .nil pass0 (pa_cons (pv 1) pa_nil)) rfl)
    (pss_cons (ps_fld (pv 0) pe_int rfl)
    (pss_one (ps_fld (pv 0) pe_int rfl)))), ?_⟩
  refine ⟨_, rfl, z, ts, rfl, hz, hlex, fun L H1 xs tks s1 hL e1 ht hts => ?_⟩
  have hx1 := s1 _ _ hx
  have hLx : L ≠ x := fun e => by rw [e, hx1] at e1; cases e1
  refine ⟨_, rfl, x, C, dx, _, rfl, hx1, T.cl, T.nT, by show 0 < 1000; decide, ?_⟩
  rw [putF_tok]
  refine ⟨_, rfl, x, C, dx, _, rfl, upd_same, T.cl, T.nA, by show 1 < 1000; decide, ?_⟩
  rw [putF_at]
  refine ⟨_, rfl, x, C, dx, _, rfl, upd_same, T.cl, T.nB, by show 2 < 1000; decide, ?_⟩
  rw [putF_blk]
  have k2 : ∀ {H : Hp} {o : HO}, Kp [x] H (upd H x o) := Kp.wr (by simp)
  have kk := ((k2 (H := H1) (o := .ins C dx [(Str.ofString "tokens", V.ref L)])).trans (k2 (o := .ins C dx [(Str.ofString "tokens", V.ref L), (Str.ofString "at", V.int 0)]))).trans (k2 (o := .ins C dx (rf L 0 0)))
  refine q L _ ((Kp.same s1).trans kk) ⟨dx, xs, tks, 0, upd_same, kk _ _ (by simpa using hLx) e1, Paired.mapP ht fun _ _ z => z.kp' hx1 kk, hts⟩
abbrev s_parse_program : Stmt := top 42
abbrev n_parse_program : List Str := ["text", "reader", "name", "headers", "meta", "states", "actions", "tables", "control", "emits"]
theorem sc_parse_program : FnScope n_parse_program ["text"] (defScope s_parse_program) := ⟨rfl, rfl, rfl, by decide +kernel, rfl, by decide +kernel, by decide +kernel⟩
/- slots: 0 text, 1 reader, 2 name, 3 headers, 4 meta, 5 states, 6 actions, 7 tables, 8 control, 9 emits -/
theorem ok_parse_program (hMk : ∀ f, Meth K C "__init__" f → Mk K C f) (R : RM P w K mg base C (k + 1)) (h : Has K mg "parse_program" s_parse_program ["text"]) (c0 : OkM P w K mg base C k "__init__" ["self", "text"] (spInit C))
    (c1 : Ok P w K mg base (k + 1) "repeated" ["reader", "word", "parse"] (spRep P w K mg base C k)) (c2 : Ok P w K mg base k "header" ["reader"] (spW C kHdr eHdr wHdr)) (c3 : Ok P w K mg base (k + 1) "fields" ["reader"] (spW C kFields (fun l => .list (l.map ePar)) (fun l => l.length ≤ 16)))
    (c4 : Ok P w K mg base k "state" ["reader"] (spW C kSta eSta wSta)) (c5 : Ok P w K mg base k "action" ["reader"] (spW C kAct eAct wAct)) (c6 : Ok P w K mg base k "table" ["reader"] (spW C kTab eTab wTab)) (c7 : Ok P w K mg base (k + 1) "block" ["reader"] (spBlk C 8))
    (c8 : Ok P w K mg base (k + 1) "names" ["reader"] (spW C kNames (fun l => .list (l.map .str)) (fun l => l.length ≤ 16 ∧ l ≠ []))) : Ok P w K mg base (k + 1 + 1) "parse_program" ["text"] spParse := by
  obtain ⟨_, _, G_skip, mt_skip, b_skip⟩ := R.skip.ex
  obtain ⟨_, _, G_need, mt_need, b_need⟩ := R.need.ex
  obtain ⟨_, _, G_take, mt_take, b_take⟩ := R.take.ex
  obtain ⟨_, _, G_kind, mt_kind, b_kind⟩ := R.kind.ex
  obtain ⟨_, _, G_sees, mt_sees, b_sees⟩ := R.sees.ex
  obtain ⟨_, _, G_fail, mt_fail, b_fail⟩ := R.fail.ex
  have c_Reader := R.T.cl
  have m_Reader := R.T.mgC
  obtain ⟨_, _, G___init__, mt___init__, b___init__⟩ := c0.ex
  have M := hMk _ mt___init__
  obtain ⟨_, _, G_repeated, m_repeated, k_repeated, b_repeated⟩ := c1.ex
  obtain ⟨_, _, G_header, m_header, k_header, b_header⟩ := c2.ex
  obtain ⟨_, _, G_fields, m_fields, k_fields, b_fields⟩ := c3.ex
  obtain ⟨_, _, G_state, m_state, k_state, b_state⟩ := c4.ex
  obtain ⟨_, _, G_action, m_action, k_action, b_action⟩ := c5.ex
  obtain ⟨_, _, G_table, m_table, k_table, b_table⟩ := c6.ex
  obtain ⟨_, _, G_block, m_block, k_block, b_block⟩ := c7.ex
  obtain ⟨_, _, G_names, m_names, k_names, b_names⟩ := c8.ex
  refine h.ok sc_parse_program (fun vs H Q E h => ?_) (fun f0 cdv A outer s H vs Q E hr h => ?_)
  · obtain ⟨_, _, rfl, _⟩ := h; rfl
  obtain ⟨z, p, rfl, hlex, hz, hw, q⟩ := h
  refine ⟨_, (pss_cons (ps_set (i := 1) sc_parse_program.nd rfl (Or.inl rfl) (pe_make M G___init__ hr rfl m_Reader b___init__ .nil pass0 (pa_cons (pv 0) pa_nil)))
    (pss_cons (ps_expr (pe_meth (pv 1) c_Reader mt_need G_need hr b_need .nil pass0 (pa_cons pe_str pa_nil)))
    (pss_cons (ps_set (i := 2) sc_parse_program.nd rfl (Or.inl rfl) (pe_meth (pv 1) c_Reader mt_take G_take hr b_take .nil pass0 (pa_cons pe_str pa_nil)))
    (pss_cons (ps_set (i := 3) sc_parse_program.nd rfl (Or.inl rfl) (pe_call G_repeated hr (by rfl) m_repeated k_repeated b_repeated .nil pass0 (pa_cons (pv 1) (pa_cons pe_str (pa_cons (pe_glob (v := .ref _) rfl m_header rfl) pa_nil)))))
    (pss_cons (ps_set (i := 4) sc_parse_program.nd rfl (Or.inl rfl) (pe_ifExp (pt_val (pe_meth (pv 1) c_Reader mt_skip G_skip hr b_skip .nil pass0 (pa_cons pe_str pa_nil))) (pe_call G_fields hr (by rfl) m_fields k_fields b_fields .nil pass0 (pa_cons (pv 1) pa_nil)) (pe_lstS pa_nil)))
    (pss_cons (ps_expr (pe_meth (pv 1) c_Reader mt_need G_need hr b_need .nil pass0 (pa_cons pe_str pa_nil)))
    (pss_cons (ps_expr (pe_meth (pv 1) c_Reader mt_need G_need hr b_need .nil pass0 (pa_cons pe_str pa_nil)))
    (pss_cons (ps_set (i := 5) sc_parse_program.nd rfl (Or.inl rfl) (pe_call G_repeated hr (by rfl) m_repeated k_repeated b_repeated .nil pass0 (pa_cons (pv 1) (pa_cons pe_str (pa_cons (pe_glob (v := .ref _) rfl m_state rfl) pa_nil)))))
    (pss_cons (ps_expr (pe_meth (pv 1) c_Reader mt_need G_need hr b_need .nil pass0 (pa_cons pe_str pa_nil)))
    (pss_cons (ps_set (i := 6) sc_parse_program.nd rfl (Or.inl rfl) (pe_call G_repeated hr (by rfl) m_repeated k_repeated b_repeated .nil pass0 (pa_cons (pv 1) (pa_cons pe_str (pa_cons (pe_glob (v := .ref _) rfl m_action rfl) pa_nil)))))
    (pss_cons (ps_set (i := 7) sc_parse_program.nd rfl (Or.inl rfl) (pe_call G_repeated hr (by rfl) m_repeated k_repeated b_repeated .nil pass0 (pa_cons (pv 1) (pa_cons pe_str (pa_cons (pe_glob (v := .ref _) rfl m_table rfl) pa_nil)))))
    (pss_cons (ps_expr (pe_meth (pv 1) c_Reader mt_need G_need hr b_need .nil pass0 (pa_cons pe_str pa_nil)))
    (pss_cons (ps_set (i := 8) sc_parse_program.nd rfl (Or.inl rfl) (pe_call G_block hr (by rfl) m_block k_block b_block .nil pass0 (pa_cons (pv 1) pa_nil)))
    (pss_cons (ps_set (i := 9) sc_parse_program.nd rfl (Or.inl rfl) (pe_ifExp (pt_val (pe_meth (pv 1) c_Reader mt_skip G_skip hr b_skip .nil pass0 (pa_cons pe_str pa_nil))) (pe_call G_names hr (by rfl) m_names k_names b_names .nil pass0 (pa_cons (pv 1) pa_nil)) (pe_lstS pa_nil)))
    (Evl.pss_cut (ps_if (pt_cmpR op_ne (pe_meth0 (pv 1) c_Reader mt_kind G_kind hr b_kind .nil pass0) pe_str (nomark _)) (pss_one (ps_expr (pe_meth0 (pv 1) c_Reader mt_fail G_fail hr b_fail .nil pass0))) pss_nil)
    (pss_one (ps_ret (pe_tupS (pa_cons pe_str (pa_cons (pv 2) (pa_cons (pv 3) (pa_cons (pv 4) (pa_cons (pv 5) (pa_cons (pv 6) (pa_cons (pv 7) (pa_cons (pv 8) (pa_cons (pv 9) pa_nil))))))))))))))))))))))))))), ?_⟩
  refine ⟨_, rfl, fun x dx hx hdx hne => ?_⟩
  refine ⟨x, dx, z, kPrg p, rfl, upd_same, hlex, hz, fun L H1 k1 hR1 => ⟨rfl, ?_⟩⟩
  have hR1' : Rd' C (x, L) H1 (tW "program" :: tN p.name :: (kRep "header" kHdr p.hdrs ++ kP5 p)) 0 := by simpa only [kPrg, kP5, kP6, kP7, kP8, kP9, List.append_assoc, List.cons_append, List.nil_append] using hR1
  have sH : Same H (upd (upd H dx (.own x)) x (.ins C dx [])) := Same.trans (Same.new hdx) (Same.new (by rw [upd_ne hne.symm]; exact hx))
  have hxx : ∀ {b : Addr} {o : HO}, H b = some o → b ∉ [x] := fun e z => by
    have h1 := List.mem_singleton.mp z
    rw [h1, hx] at e; cases e
  have sfin : ∀ {H'}, Kp [x] H1 H' → Same H H' := fun k b o e => (k1.trans k) b o (hxx e) (sH b o e)
  clear hR1
  generalize hr1 : ((x, L) : Addr × Addr) = r at hR1'
  have ex : x = r.1 := by rw [← hr1]
  subst ex
  refine r_need rfl hR1' fun H2 k2 hR2 => ?_
  refine r_take rfl hR2 rfl fun H3 k3 hR3 => ?_
  have k13 := k2.trans k3
  obtain ⟨t4, p4, e4, hs4, ok4⟩ : ∃ t post, kP5 p = t :: post ∧ seesB t "header" = false ∧ TokOk t := by
    unfold kP5 kMeta
    by_cases hm : p.meta' = []
    · rw [if_pos hm]; exact ⟨tW "parser", _, rfl, by decide +kernel, fun _ => ⟨_, rfl⟩⟩
    · rw [if_neg hm]; exact ⟨tW "meta", _, rfl, by decide +kernel, fun _ => ⟨_, rfl⟩⟩
  rw [e4] at hR3
  refine ⟨_, rfl, Hdr, kHdr, eHdr, wHdr, _, _, r, "header", p.hdrs, t4, p4, 0, G_header, k_header, b_header, rfl, hR3, hs4, ok4, hw.hdrs.2, hw.hdrs.1, fun v4 H4 k4 hR4 h4 => ?_⟩
  rw [← e4] at hR4
  have h4 := h4.mono (nw0 (hR3.dm k13))
  have k14 := k13.trans k4
  clear e4 hs4 ok4 hR3 hR2
  refine r_meta (l := p.meta') rfl hR4 hw.meta'.1 fun v5 H5 k5 hR5 h5 => ?_
  have h5 := h5.mono (nw0 (hR4.dm k14))
  have k15 := k14.trans k5
  refine r_need rfl hR5 fun H6 k6 hR6 => ?_
  refine r_need rfl hR6 fun H7 k7 hR7 => ?_
  have k17 := (k15.trans k6).trans k7
  refine ⟨_, rfl, Sta, kSta, eSta, wSta, _, _, r, "state", p.stas, tS "}", kP7 p, 0, G_state, k_state, b_state, rfl, hR7, by decide +kernel, fun _ => ⟨_, rfl⟩, hw.stas.2, hw.stas.1, fun v8 H8 k8 hR8 h8 => ?_⟩
  have h8 := h8.mono (nw0 (hR7.dm k17))
  have k18 := k17.trans k8
  refine r_need rfl hR8 fun H9 k9 hR9 => ?_
  have k19 := k18.trans k9
  obtain ⟨t10, p10, e10, hs10, ok10⟩ : ∃ t post, kP8 p = t :: post ∧ seesB t "action" = false ∧ TokOk t := by
    unfold kP8
    cases p.tabs with
    | nil => exact ⟨tW "control", _, rfl, by decide +kernel, fun _ => ⟨_, rfl⟩⟩
    | cons => exact ⟨tW "table", _, rfl, by decide +kernel, fun _ => ⟨_, rfl⟩⟩
  unfold kP7 at hR9
  rw [e10] at hR9
  refine ⟨_, rfl, Act, kAct, eAct, wAct, _, _, r, "action", p.acts, t10, p10, 0, G_action, k_action, b_action, rfl, hR9, hs10, ok10, hw.acts.2, hw.acts.1, fun v10 H10 k10 hR10 h10 => ?_⟩
  rw [← e10] at hR10
  have h10 := h10.mono (nw0 (hR9.dm k19))
  have k110 := k19.trans k10
  clear e10 hs10 ok10
  refine ⟨_, rfl, Tab, kTab, eTab, wTab, _, _, r, "table", p.tabs, tW "control", tS "{" :: kP9 p, 0, G_table, k_table, b_table, rfl, hR10, by decide +kernel, fun _ => ⟨_, rfl⟩, hw.tabs.2, hw.tabs.1, fun v11 H11 k11 hR11 h11 => ?_⟩
  have h11 := h11.mono (nw0 (hR10.dm k110))
  have k111 := k110.trans k11
  refine r_need rfl hR11 fun H12 k12 hR12 => ?_
  have k112 := k111.trans k12
  refine ⟨_, rfl, r, p.ctl, _, 0, rfl, hR12, hw.ctl, Nat.le_refl 7, hw.cnt, fun v13 H13 k13' hR13 h13 => ?_⟩
  have h13 := h13.mono (nw0 (hR12.dm k112))
  have k113 := k112.trans k13'
  refine r_emit (l := p.emits) rfl hR13 hw.emits.1 fun v14 H14 k14' hR14 h14 => ?_
  have h14 := h14.mono (nw0 (hR13.dm k113))
  have k114 := k113.trans k14'
  refine ⟨fun σ' H15 => σ' = [some (.str z), some (.ref r.1), some (.str p.name), some v4, some v5, some v8, some v10, some v11, some v13, some v14] ∧ H15 = H14, ?_, ?_⟩
  · refine r_kind rfl hR14 ⟨rfl, _, rfl, ?_⟩
    exact iteNE rfl ⟨rfl, rfl⟩
  rintro σ' H15 ⟨rfl, rfl⟩
  refine ⟨_, rfl, _, rfl, _, rfl, _, rfl, _, rfl, _, rfl, _, rfl, _, rfl, by walk_at "le", fun a H16 ha s16 e16 => ?_⟩
  have M : ∀ {Hi v d}, At (Nw H1 Hi) v d → Kp [r.1] Hi H15 → At (Nw H1 H16) v d := fun h k => (h.mono (nw1 k hR1'.ne)).mono (nws s16)
  have k1314 := k14'
  have k1214 := k13'.trans k1314
  have k1114 := k12.trans k1214
  have k1014 := k11.trans k1114
  have k814 := (k9.trans k10).trans k1014
  have k514 := ((k6.trans k7).trans k8).trans k814
  refine q _ _ (Same.trans (sfin k114) s16) ((at_tup (hR14.dm k114) ha e16 ?_).mono nw_le)
  exact .cons (.str _) (.cons (.str _) (.cons (M h4 (k5.trans k514)) (.cons (M h5 k514) (.cons (M h8 k814) (.cons (M h10 k1014) (.cons (M h11 k1114) (.cons (M h13 k14') (.cons (M h14 Kp.refl) .nil))))))))
end
end WP
namespace WP
open PySem PySem.Spec PyProof.Rows L2 TL
/-! ### pieces of a text -/
def brk : List Nat → Bool
  | [] => true
  | c :: _ => !isRun c && c != 62 && c != 61
def Cl (a : List Nat) (ts : List Tok) : Prop := ∀ s us, Lex s us → Lex (a ++ s) (ts ++ us)
def Sg (a : List Nat) (ts : List Tok) : Prop := ∀ s us, brk s = true → Lex s us → Lex (a ++ s) (ts ++ us)
/-- begins with what ends all before it -/
def bgn : List Nat → Bool
  | [] => false
  | c :: _ => !isRun c && c != 62 && c != 61
theorem bgn_brk {b s : List Nat} (h : bgn b = true) : brk (b ++ s) = true := by
  cases b with
  | nil => cases h
  | cons c r => exact h
theorem brk_nr {s : List Nat} (h : brk s = true) : NR s := fun c r e => by
  subst e
  simp only [brk, Bool.and_eq_true, Bool.not_eq_true'] at h
  exact h.1.1
section
variable {a b : List Nat} {t u : List Tok}
theorem Cl.nil : Cl [] [] := fun s us h => h
theorem Cl.sg (h : Cl a t) : Sg a t := fun s us _ k => h s us k
theorem Cl.cl (h : Cl a t) (k : Cl b u) : Cl (a ++ b) (t ++ u) := fun s us l => by
  rw [List.append_assoc, List.append_assoc]; exact h _ _ (k _ _ l)
theorem Cl.then (h : Cl a t) (k : Sg b u) : Sg (a ++ b) (t ++ u) := fun s us e l => by
  rw [List.append_assoc, List.append_assoc]; exact h _ _ (k _ _ e l)
theorem Sg.cl (h : Sg a t) (k : Cl b u) (e : bgn b = true) : Cl (a ++ b) (t ++ u) := fun s us l => by
  rw [List.append_assoc, List.append_assoc]; exact h _ _ (bgn_brk e) (k _ _ l)
theorem Sg.then (h : Sg a t) (k : Sg b u) (e : bgn b = true) : Sg (a ++ b) (t ++ u) := fun s us e' l => by
  rw [List.append_assoc, List.append_assoc]; exact h _ _ (bgn_brk e) (k _ _ e' l)
theorem Sg.lex (h : Sg a t) : Lex a t := by
  have := h [] [] rfl .nil
  rwa [List.append_nil, List.append_nil] at this
end
/-! ### signs -/
theorem SGN_heads : ∀ (i j : Nat) (g x : Str), j < i → SGN[i]? = some g → SGN[j]? = some x → (tl x).head? ≠ (tl g).head? ∨ (tl x = [45, 62] ∧ tl g = [45]) ∨ (tl x = [61, 61] ∧ tl g = [61]) := by
  intro i j g x hij hi hj
  have h : ((List.range 17).all fun i => (List.range i).all fun j => match SGN[i]?, SGN[j]? with
    | some g, some x => decide ((tl x).head? ≠ (tl g).head? ∨ (tl x = [45, 62] ∧ tl g = [45]) ∨ (tl x = [61, 61] ∧ tl g = [61]))
    | _, _ => true) = true := by decide +kernel
  have hi17 : i < 17 := (List.getElem?_eq_some_iff.mp hi).1
  have h1 := List.all_eq_true.mp (List.all_eq_true.mp h i (List.mem_range.mpr hi17)) j (List.mem_range.mpr hij)
  rw [hi, hj] at h1
  simpa using h1
theorem pre_hd {x l : List Nat} (hx : x ≠ []) (h : x.head? ≠ l.head?) : pre x l = false := by
  unfold pre
  rw [beq_eq_false_iff_ne]
  intro e
  cases x with
  | nil => exact hx rfl
  | cons a r =>
    cases l with
    | nil => cases e
    | cons b s =>
      simp only [List.length_cons, List.take_succ_cons, List.cons.injEq] at e
      exact h (by simp [e.1])
theorem sign_any {g : Str} {s : List Nat} (hg : g ∈ SGN) (hs : ∀ c r, s = c :: r → (c ≠ 62 ∧ c ≠ 61) ∨ (tl g ≠ [45] ∧ tl g ≠ [61])) (hs0 : s = [] → True) : SignOk g s := by
  obtain ⟨i, hi⟩ := List.mem_iff_getElem?.mp hg
  refine ⟨i, hi, fun j x hj hx => ?_⟩
  have hx2 := SGN_ne x (List.mem_of_getElem? hx)
  have hg2 := SGN_ne g hg
  have hhd : (tl g ++ s).head? = (tl g).head? := by
    cases e : tl g with
    | nil => exact absurd e hg2.2.1
    | cons c r => rfl
  rcases SGN_heads i j g x hj hi hx with h | ⟨h1, h2⟩ | ⟨h1, h2⟩
  · exact pre_hd hx2.2.1 (by rw [hhd]; exact h)
  · rw [h1, h2]
    cases s with
    | nil => decide
    | cons c r =>
      rcases hs c r rfl with ⟨h3, _⟩ | ⟨h3, _⟩
      · unfold pre
        rw [beq_eq_false_iff_ne]
        intro e
        simp at e
        exact h3 e
      · exact absurd h2 h3
  · rw [h1, h2]
    cases s with
    | nil => decide
    | cons c r =>
      rcases hs c r rfl with ⟨_, h3⟩ | ⟨_, h3⟩
      · unfold pre
        rw [beq_eq_false_iff_ne]
        intro e
        simp at e
        exact h3 e
      · exact absurd h2 h3
theorem brk_ne {s : List Nat} (h : brk s = true) : ∀ c r, s = c :: r → c ≠ 62 ∧ c ≠ 61 := fun c r e => by
  subst e
  simp only [brk, Bool.and_eq_true, bne_iff_ne] at h
  exact ⟨h.1.2, h.2⟩
theorem Sg.sign {g : Str} (hg : g ∈ SGN) : Sg (tl g) [tS g] := fun s us e l => .sign g (sign_any hg (fun c r h => .inl (brk_ne e c r h)) fun _ => trivial) l
theorem Cl.sign {g : Str} (hg : g ∈ SGN) (h1 : tl g ≠ [45]) (h2 : tl g ≠ [61]) : Cl (tl g) [tS g] := fun s us l => .sign g (sign_any hg (fun c r h => .inr ⟨h1, h2⟩) fun _ => trivial) l
theorem Sg.run {w : List Nat} {t : Tok} (h : RunTok w t) : Sg w [t] := fun s us e l => .run w t h (brk_nr e) l
/-! ### constant texts -/
def lexC : Nat → List Nat → Option (List (Bool × Str))
  | 0, _ => none
  | _ + 1, [] => some []
  | n + 1, c :: r => if c = 32 then lexC n r
    else if isRun c = true then (if bgn ((c :: r).dropWhile isRun) = true ∧ mk ((c :: r).takeWhile isRun) ∈ RES then (lexC n ((c :: r).dropWhile isRun)).map ((true, mk ((c :: r).takeWhile isRun)) :: ·) else none)
    else match SGN.find? fun g => pre (tl g) (c :: r) with
      | none => none
      | some g => if bgn ((c :: r).drop (tl g).length) = true ∨ (tl g ≠ [45] ∧ tl g ≠ [61]) then (lexC n ((c :: r).drop (tl g).length)).map ((false, g) :: ·) else none
def tk (x : Bool × Str) : Tok := if x.1 = true then tW x.2 else tS x.2
theorem lexC_cl : ∀ (n : Nat) (a : List Nat) (ts : List (Bool × Str)), lexC n a = some ts → Cl a (ts.map tk)
  | 0, _, _, h => by cases h
  | _ + 1, [], _, h => by cases h; exact Cl.nil
  | n + 1, c :: r, ts, h => by
    unfold lexC at h
    by_cases h1 : c = 32
    · rw [if_pos h1] at h
      subst h1
      intro s us l
      exact .sp (lexC_cl n r ts h s us l)
    · rw [if_neg h1] at h
      by_cases h2 : isRun c = true
      · rw [if_pos h2] at h
        split at h
        · rename_i h3
          obtain ⟨h3, h4⟩ := h3
          obtain ⟨ts', h5, rfl⟩ := Option.map_eq_some_iff.mp h
          have ih := lexC_cl n _ ts' h5
          have := Sg.cl (Sg.run (RunTok.word _ h4)) ih h3
          show Cl (c :: r) _
          rw [show tl (mk ((c :: r).takeWhile isRun)) = (c :: r).takeWhile isRun from rfl, List.takeWhile_append_dropWhile] at this
          exact this
        · cases h
      · rw [if_neg h2] at h
        split at h
        · cases h
        · rename_i g hg
          have hm := List.mem_of_find?_eq_some hg
          have hp := List.find?_some hg
          split at h
          · rename_i h3
            obtain ⟨ts', h5, rfl⟩ := Option.map_eq_some_iff.mp h
            have ih := lexC_cl n _ ts' h5
            unfold pre at hp
            have hq := eq_of_beq hp
            have e : (c :: r).take (tl g).length ++ (c :: r).drop (tl g).length = c :: r := List.take_append_drop _ _
            rw [hq] at e
            show Cl (c :: r) _
            rw [← e]
            rcases h3 with h3 | ⟨h3, h4⟩
            · exact Sg.cl (Sg.sign hm) ih h3
            · exact Cl.cl (Cl.sign hm h3 h4) ih
          · cases h
theorem cl (s : String) {ts : List (Bool × Str)} (h : lexC 60 (tl s) = some ts) : Cl (tl s) (ts.map tk) := lexC_cl _ _ _ h
end WP
namespace WP
open PySem PySem.Spec PyProof.Rows L2 TL
section
variable {a b : Str} {t u : List Tok}
theorem cscs (h : Cl (tl a) t) (k : Cl (tl b) u) : Cl (tl (a ++ b)) (t ++ u) := by rw [tl_append]; exact h.cl k
theorem csss (h : Cl (tl a) t) (k : Sg (tl b) u) : Sg (tl (a ++ b)) (t ++ u) := by rw [tl_append]; exact h.then k
theorem sscs (h : Sg (tl a) t) (k : Cl (tl b) u) (e : bgn (tl b) = true := by decide +kernel) : Cl (tl (a ++ b)) (t ++ u) := by rw [tl_append]; exact h.cl k e
theorem ssss (h : Sg (tl a) t) (k : Sg (tl b) u) (e : bgn (tl b) = true := by decide +kernel) : Sg (tl (a ++ b)) (t ++ u) := by rw [tl_append]; exact h.then k e
end
theorem nm_ss {s : Str} (h : Nm s) : Sg (tl s) [tN s] := Sg.run (.name s h)
theorem wd_ss {s : Str} (h : s ∈ RES) : Sg (tl s) [tW s] := Sg.run (.word s h)
theorem nu_ss {n : Int} (h : Nu n) : Sg (tl (sI n)) [tU n] := by
  obtain ⟨h0, h1⟩ := h
  obtain ⟨k, rfl⟩ := Int.eq_ofNat_of_zero_le h0
  have : tl (sI ((k : Nat) : Int)) = numL k := tl_num k
  rw [this]
  exact Sg.run (.num k (by omega))
theorem nm_res {s : Str} (h : Nm s) : s ≠ "meta" ∧ s ≠ "packet" ∧ s ≠ "accept" ∧ s ≠ "reject" := by
  have := h.res
  refine ⟨?_, ?_, ?_, ?_⟩ <;> (intro e; rw [e] at this; exact this (by decide +kernel))
theorem own_ss {o : Str} (h : Own o) : Sg (tl o) (kOwn o) := by
  unfold kOwn
  rcases h with rfl | rfl | h
  · rw [if_pos rfl]; exact wd_ss (by decide +kernel)
  · rw [if_neg (by decide +kernel), if_pos rfl]; exact wd_ss (by decide +kernel)
  · have := nm_res h
    rw [if_neg this.1, if_neg this.2.1]; exact nm_ss h
theorem tgt_ss {o : Str} (h : Tgt o) : Sg (tl o) (kTgt o) := by
  unfold kTgt
  rcases h with rfl | rfl | h
  · rw [if_pos rfl]; exact wd_ss (by decide +kernel)
  · rw [if_neg (by decide +kernel), if_pos rfl]; exact wd_ss (by decide +kernel)
  · have := nm_res h
    rw [if_neg this.2.2.1, if_neg this.2.2.2]; exact nm_ss h
theorem Bop.ss (o : Bop) : Sg (tl o.s) [tS o.s] := Sg.sign (by cases o <;> decide +kernel)
theorem Kd.ss (o : Kd) : Sg (tl o.s) [tW o.s] := wd_ss (by cases o <;> decide +kernel)
theorem cmpS_ss (o : Bool) : Sg (tl (cmpS o)) [tS (cmpS o)] := Sg.sign (by cases o <;> decide +kernel)
theorem c_dot : Cl (tl ".") [tS "."] := cl "." (ts := [(false, ".")]) (by decide +kernel)
theorem c_sp : Cl (tl " ") [] := cl " " (ts := []) (by decide +kernel)
theorem c_semi : Cl (tl ";") [tS ";"] := cl ";" (ts := [(false, ";")]) (by decide +kernel)
theorem c_open : Cl (tl " {") [tS "{"] := cl " {" (ts := [(false, "{")]) (by decide +kernel)
theorem c_close : Cl (tl "}") [tS "}"] := cl "}" (ts := [(false, "}")]) (by decide +kernel)
theorem c_colon : Cl (tl ": ") [tS ":"] := cl ": " (ts := [(false, ":")]) (by decide +kernel)
theorem c_comma : Cl (tl ", ") [tS ","] := cl ", " (ts := [(false, ",")]) (by decide +kernel)
theorem c_2 : Cl (tl "  ") [] := cl "  " (ts := []) (by decide +kernel)
theorem c_4 : Cl (tl "    ") [] := cl "    " (ts := []) (by decide +kernel)
theorem c_6 : Cl (tl "      ") [] := cl "      " (ts := []) (by decide +kernel)
/-- tokens that are the same when laid in a row -/
theorem fld_ss {f : Fld} (h : wFld f) : Sg (tl (xFld f)) (kFld f) := by
  have := csss (sscs (own_ss h.1) c_dot) (nm_ss h.2)
  rw [show kFld f = kOwn f.1 ++ [tS "."] ++ [tN f.2] from by simp only [List.map_nil, List.map_cons, List.append_assoc, List.cons_append, List.nil_append, List.append_nil, kFld, kOpd, kExp, kOpn, kPar, kKey, kVal, kRow, kTst]]
  exact this
theorem opd_ss {o : Opd} (h : wOpd o) : Sg (tl (xOpd o)) (kOpd o) := by
  cases o with
  | num n => exact nu_ss h
  | par s => exact nm_ss h
  | fld o n => exact fld_ss (f := (o, n)) h
theorem exp_ss {e : Exp} (h : wExp e) : Sg (tl (xExp e)) (kExp e) := by
  cases e with
  | one a => exact opd_ss h
  | bin op a b =>
    have := csss (sscs (csss (sscs (opd_ss h.1) c_sp) op.ss) c_sp) (opd_ss h.2)
    rw [show kExp (.bin op a b) = kOpd a ++ [] ++ [tS op.s] ++ [] ++ kOpd b from by simp only [List.map_nil, List.map_cons, List.append_assoc, List.cons_append, List.nil_append, List.append_nil, kFld, kOpd, kExp, kOpn, kPar, kKey, kVal, kRow, kTst]]
    exact this
theorem opn_ss {o : Opn} (h : wOpn o) : ∃ ts, Sg (tl (xOpn o)) ts ∧ kOpn o = ts ++ [tS ";"] := by
  cases o with
  | set f e =>
    have := csss (sscs (fld_ss h.1) (cl " = " (ts := [(false, "=")]) (by decide +kernel))) (exp_ss h.2)
    exact ⟨_, this, by simp only [List.map_nil, List.map_cons, List.append_assoc, List.cons_append, List.nil_append, List.append_nil, kFld, kOpd, kExp, kOpn, kPar, kKey, kVal, kRow, kTst]; rfl⟩
  | send e => exact ⟨_, csss (cl "send " (ts := [(true, "send")]) (by decide +kernel)) (exp_ss h), by simp only [List.map_nil, List.map_cons, List.append_assoc, List.cons_append, List.nil_append, List.append_nil, kFld, kOpd, kExp, kOpn, kPar, kKey, kVal, kRow, kTst]; rfl⟩
  | drop => exact ⟨_, wd_ss (s := "drop") (by decide +kernel), rfl⟩
  | add n => exact ⟨_, csss (sscs (wd_ss (s := "add") (by decide +kernel)) c_sp) (nm_ss h), rfl⟩
  | rem n => exact ⟨_, csss (sscs (wd_ss (s := "remove") (by decide +kernel)) c_sp) (nm_ss h), rfl⟩
theorem par_ss {p : Par} (h : wPar p) : Sg (tl (xPar p)) (kPar p) := csss (sscs (nm_ss h.1) c_colon) (nu_ss h.2)
theorem val_ss {v : Int} {m : Option Int} (h : Nu v) (hm : ∀ x, m = some x → Nu x) : Sg (tl (xVal v m)) (kVal v m) := by
  cases m with
  | none => exact nu_ss h
  | some m => exact csss (sscs (nu_ss h) (cl " & " (ts := [(false, "&")]) (by decide +kernel))) (nu_ss (hm m rfl))
theorem tst_ss : ∀ {n : Nat} {t : Tst}, wTst n t → Sg (tl (xTst t)) (kTst t)
  | n, .nt t, h => by
    obtain ⟨m, _, h⟩ : ∃ m, n = m + 1 ∧ wTst m t := by cases n <;> exact h
    exact csss (cl "not " (ts := [(true, "not")]) (by decide +kernel)) (tst_ss h)
  | n, .valid s, h => csss (cl "valid " (ts := [(true, "valid")]) (by decide +kernel)) (nm_ss (by cases n <;> exact h))
  | n, .cmp sg f x, h => by
    have h : wFld f ∧ Nu x := by cases n <;> exact h
    have := csss (sscs (csss (sscs (fld_ss h.1) c_sp) (cmpS_ss sg)) c_sp) (nu_ss h.2)
    rw [show kTst (.cmp sg f x) = kFld f ++ [] ++ [tS (cmpS sg)] ++ [] ++ [tU x] from by simp only [List.map_nil, List.map_cons, List.append_assoc, List.cons_append, List.nil_append, List.append_nil, kFld, kOpd, kExp, kOpn, kPar, kKey, kVal, kRow, kTst]]
    exact this
theorem sep_ss {α : Type} {x : α → Str} {k : α → List Tok} : ∀ {l : List α}, (∀ y ∈ l, Sg (tl (x y)) (k y)) → Sg (tl (Str.join ", " (l.map x))) (kSep k l)
  | [], _ => by rw [tl_join]; exact Cl.nil.sg
  | [y], h => by
    rw [tl_join]
    have := h y (by simp)
    show Sg (tl (x y)) (k y ++ [])
    rw [List.append_nil]; exact this
  | y :: z :: l, h => by
    have ih := sep_ss (l := z :: l) fun v hv => h v (List.mem_cons_of_mem _ hv)
    rw [tl_join] at ih ⊢
    have := Cl.then (Sg.cl (h y (by simp)) c_comma (by decide +kernel)) ih
    have e1 : joinL (tl ", ") (((y :: z :: l).map x).map tl) = tl (x y) ++ tl ", " ++ joinL (tl ", ") (((z :: l).map x).map tl) := by simp [joinL]
    have e2 : kSep k (y :: z :: l) = k y ++ [tS ","] ++ kSep k (z :: l) := by simp [kSep]
    rw [e1, e2]
    exact this
/-! ### lines -/
inductive LL : List Str → List Tok → Prop
  | nil : LL [] []
  | cons {l : Str} {ls : List Str} {q ts : List Tok} : Lex (tl l) q → LL ls ts → LL (l :: ls) (q ++ ts)
theorem LL.append {ls ms : List Str} {ts us : List Tok} (h : LL ls ts) (k : LL ms us) : LL (ls ++ ms) (ts ++ us) := by
  induction h with
  | nil => exact k
  | cons h _ ih => rw [List.append_assoc]; exact .cons h ih
theorem LL.one {l : Str} {q : List Tok} (h : Lex (tl l) q) : LL [l] q := by
  have := LL.cons h .nil
  rwa [List.append_nil] at this
theorem LL.maps {α : Type} {f : α → Str} {k : α → List Tok} : ∀ {l : List α}, (∀ x ∈ l, Lex (tl (f x)) (k x)) → LL (l.map f) ((l.map k).flatten)
  | [], _ => .nil
  | x :: l, h => .cons (h x (by simp)) (LL.maps fun y hy => h y (List.mem_cons_of_mem _ hy))
theorem LL.flat {α : Type} {f : α → List Str} {k : α → List Tok} : ∀ {l : List α}, (∀ x ∈ l, LL (f x) (k x)) → LL ((l.map f).flatten) ((l.map k).flatten)
  | [], _ => .nil
  | x :: l, h => (h x (by simp)).append (LL.flat fun y hy => h y (List.mem_cons_of_mem _ hy))
theorem Cl.lex {a : List Nat} {ts : List Tok} (h : Cl a ts) : Lex a ts := h.sg.lex
theorem lPar_lx {p : Par} (h : wPar p) : Lex (tl (lPar p)) (kPar p ++ [tS ";"]) := by
  have := sscs (csss (sscs (csss c_2 (nm_ss h.1)) c_colon) (nu_ss h.2)) c_semi
  exact this.lex
theorem fields_ll {h : Str} {q : List Tok} {l : List Par} (hh : Lex (tl h) (q ++ [tS "{"])) (hw : ∀ p ∈ l, wPar p) : LL ([h] ++ l.map lPar ++ [("}" : Str)]) (q ++ kFields l) := by
  have := ((LL.one hh).append (LL.maps (f := lPar) (k := fun p => kPar p ++ [tS ";"]) fun p hp => lPar_lx (hw p hp))).append (LL.one c_close.lex)
  rw [show q ++ kFields l = (q ++ [tS "{"]) ++ (l.map fun p => kPar p ++ [tS ";"]).flatten ++ [tS "}"] from by simp [kFields]]
  exact this
theorem lHdr_ll {h : Hdr} (hw : wHdr h) : LL (lHdr h) (tW "header" :: kHdr h) :=
  fields_ll (q := [tW "header", tN h.1]) (sscs (csss (cl "header " (ts := [(true, "header")]) (by decide +kernel)) (nm_ss hw.1)) c_open).lex hw.2.2
theorem lMeta_ll {m : List Par} (hw : Few wPar m) : LL (lMeta m) (kMeta m) := by
  unfold lMeta kMeta
  by_cases h : m = []
  · rw [if_pos h, if_pos h]; exact .nil
  · rw [if_neg h, if_neg h]
    exact fields_ll (q := [tW "meta"]) (cl "meta {" (ts := [(true, "meta"), (false, "{")]) (by decide +kernel)).lex hw.2
theorem lRow_lx {r : Row} (h : wRow r) : Lex (tl (lRow r)) (kRow r) := by
  have := sscs (csss (sscs (csss c_6 (val_ss h.1 h.2.1)) (cl " -> " (ts := [(false, "->")]) (by decide +kernel))) (tgt_ss h.2.2)) c_semi
  exact this.lex
theorem lNxt_ll {x : Nxt} (h : wNxt x) : LL (lNxt x) (kNxt x) := by
  cases x with
  | go t =>
    exact LL.one (sscs (csss (cl "    go " (ts := [(true, "go")]) (by decide +kernel)) (tgt_ss h)) c_semi).lex
  | sel f rows o =>
    have h1 : Lex (tl ("    select " ++ xFld f ++ " {")) (tW "select" :: (kFld f ++ [tS "{"])) := (sscs (csss (cl "    select " (ts := [(true, "select")]) (by decide +kernel)) (fld_ss h.1)) c_open).lex
    have h2 : Lex (tl ("      else -> " ++ o ++ ";")) ([tW "else", tS "->"] ++ kTgt o ++ [tS ";"]) := (sscs (csss (cl "      else -> " (ts := [(true, "else"), (false, "->")]) (by decide +kernel)) (tgt_ss h.2.2)) c_semi).lex
    have h3 : Lex (tl "    }") [tS "}"] := (cl "    }" (ts := [(false, "}")]) (by decide +kernel)).lex
    have := ((LL.one h1).append (LL.maps (f := lRow) (k := kRow) fun r hr => lRow_lx (h.2.1.2 r hr))).append ((LL.cons h2 (LL.one h3)))
    rw [show kNxt (.sel f rows o) = (tW "select" :: (kFld f ++ [tS "{"])) ++ (rows.map kRow).flatten ++ ([tW "else", tS "->"] ++ kTgt o ++ [tS ";"] ++ [tS "}"]) from by simp [kNxt, kSelect]]
    exact this
theorem lSta_ll {s : Sta} (h : wSta s) : LL (lSta s) (tW "state" :: kSta s) := by
  obtain ⟨nm, hd, nx⟩ := s
  have h1 : Lex (tl ("  state " ++ nm ++ " {")) [tW "state", tN nm, tS "{"] := (sscs (csss (cl "  state " (ts := [(true, "state")]) (by decide +kernel)) (nm_ss h.1)) c_open).lex
  have h2 : LL (lExt hd) (kExt hd) := by
    cases hd with
    | none => exact .nil
    | some x => exact LL.one (sscs (csss (cl "    extract " (ts := [(true, "extract")]) (by decide +kernel)) (nm_ss (h.2.1 x rfl))) c_semi).lex
  have h3 : Lex (tl "  }") [tS "}"] := (cl "  }" (ts := [(false, "}")]) (by decide +kernel)).lex
  have := (((LL.one h1).append h2).append (lNxt_ll h.2.2)).append (LL.one h3)
  rw [show tW "state" :: kSta ⟨nm, hd, nx⟩ = [tW "state", tN nm, tS "{"] ++ kExt hd ++ kNxt nx ++ [tS "}"] from by simp [kSta]]
  exact this
theorem lOpn_lx {o : Opn} (h : wOpn o) : Lex (tl (lOpn o)) (kOpn o) := by
  obtain ⟨ts, h1, h2⟩ := opn_ss h
  rw [h2]
  exact (sscs (csss c_2 h1) c_semi).lex
theorem lAct_ll {a : Act} (h : wAct a) : LL (lAct a) (tW "action" :: kAct a) := by
  obtain ⟨nm, ps, ops⟩ := a
  have h1 : Lex (tl ("action " ++ nm ++ "(" ++ Str.join ", " (ps.map xPar) ++ ") {")) ([tW "action", tN nm, tS "("] ++ kSep kPar ps ++ [tS ")", tS "{"]) :=
    (sscs (csss (sscs (csss (cl "action " (ts := [(true, "action")]) (by decide +kernel)) (nm_ss h.1)) (cl "(" (ts := [(false, "(")]) (by decide +kernel))) (sep_ss fun p hp => par_ss (h.2.1.2 p hp))) (cl ") {" (ts := [(false, ")"), (false, "{")]) (by decide +kernel))).lex
  have := ((LL.one h1).append (LL.maps (f := lOpn) (k := kOpn) fun o ho => lOpn_lx (h.2.2.2 o ho))).append (LL.one c_close.lex)
  rw [show tW "action" :: kAct ⟨nm, ps, ops⟩ = ([tW "action", tN nm, tS "("] ++ kSep kPar ps ++ [tS ")", tS "{"]) ++ (ops.map kOpn).flatten ++ [tS "}"] from by simp [kAct]]
  exact this
theorem lKey_lx {k : Fld × Kd} (h : wKey k) : Lex (tl (lKey k)) (tW "key" :: kKey k) := by
  have := sscs (csss (sscs (csss (cl "  key " (ts := [(true, "key")]) (by decide +kernel)) (fld_ss h)) c_sp) k.2.ss) c_semi
  rw [show tW "key" :: kKey k = [(true, ("key" : Str))].map tk ++ kFld k.1 ++ [] ++ [tW k.2.s] ++ [tS ";"] from by simp [kKey, tk]]
  exact this.lex
theorem lUse_lx {u : Str} (h : Nm u) : Lex (tl (lUse u)) [tW "use", tN u, tS ";"] := (sscs (csss (cl "  use " (ts := [(true, "use")]) (by decide +kernel)) (nm_ss h)) c_semi).lex
theorem lTab_ll {t : Tab} (h : wTab t) : LL (lTab t) (tW "table" :: kTab t) := by
  obtain ⟨nm, ks, us, df, as, sz'⟩ := t
  obtain ⟨w1, w2, w3, w4, w5, w6⟩ := h
  have h1 : Lex (tl ("table " ++ nm ++ " {")) [tW "table", tN nm, tS "{"] := (sscs (csss (cl "table " (ts := [(true, "table")]) (by decide +kernel)) (nm_ss w1)) c_open).lex
  have h2 : Lex (tl ("  default " ++ df ++ "(" ++ Str.join ", " (as.map sI) ++ ");")) ([tW "default", tN df, tS "("] ++ kSep (fun n => [tU n]) as ++ [tS ")", tS ";"]) :=
    (sscs (csss (sscs (csss (cl "  default " (ts := [(true, "default")]) (by decide +kernel)) (nm_ss w4)) (cl "(" (ts := [(false, "(")]) (by decide +kernel))) (sep_ss (k := fun n => [tU n]) fun p hp => nu_ss (w5.2 p hp))) (cl ");" (ts := [(false, ")"), (false, ";")]) (by decide +kernel))).lex
  have h3 : Lex (tl ("  size " ++ sI sz' ++ ";")) [tW "size", tU sz', tS ";"] := (sscs (csss (cl "  size " (ts := [(true, "size")]) (by decide +kernel)) (nu_ss w6)) c_semi).lex
  have := (((LL.one h1).append (LL.maps (f := lKey) (k := fun k => tW "key" :: kKey k) fun k hk => lKey_lx (w2.2 k hk))).append (LL.maps (f := lUse) (k := fun u => [tW "use", tN u, tS ";"]) fun u hu => lUse_lx (w3.2 u hu))).append (LL.cons h2 (LL.cons h3 (LL.one c_close.lex)))
  rw [show tW "table" :: kTab ⟨nm, ks, us, df, as, sz'⟩ = [tW "table", tN nm, tS "{"] ++ (ks.map fun k => tW "key" :: kKey k).flatten ++ (us.map fun u => [tW "use", tN u, tS ";"]).flatten ++ (([tW "default", tN df, tS "("] ++ kSep (fun n => [tU n]) as ++ [tS ")", tS ";"]) ++ ([tW "size", tU sz', tS ";"] ++ [tS "}"])) from by simp [kTab, kArgs]]
  exact this
theorem lB_ll : ∀ (b : Blk) {n : Nat} {ind : Str}, wB n b → Cl (tl ind) [] → LL (lB ind b) (kB b)
  | .nil, _, _, _, _ => .nil
  | .app t r, n, ind, h, hi => by
    have h1 : Lex (tl (ind ++ "apply " ++ t ++ ";")) [tW "apply", tN t, tS ";"] := (sscs (csss (cscs hi (cl "apply " (ts := [(true, "apply")]) (by decide +kernel))) (nm_ss h.1)) c_semi).lex
    exact .cons h1 (lB_ll r h.2 hi)
  | .ifs t a b r, n, ind, h, hi => by
    obtain ⟨ht, ⟨m, _, ha, hb⟩, hr⟩ := h
    have hi2 : Cl (tl (ind ++ "  ")) [] := cscs hi c_2
    have h1 : Lex (tl (ind ++ "if " ++ xTst t ++ " {")) ([tW "if"] ++ kTst t ++ [tS "{"]) := (sscs (csss (cscs hi (cl "if " (ts := [(true, "if")]) (by decide +kernel))) (tst_ss ht)) c_open).lex
    have h2 : Lex (tl (ind ++ "} else {")) [tS "}", tW "else", tS "{"] := (cscs hi (cl "} else {" (ts := [(false, "}"), (true, "else"), (false, "{")]) (by decide +kernel))).lex
    have h3 : Lex (tl (ind ++ "}")) [tS "}"] := (cscs hi c_close).lex
    have hA := lB_ll a ha hi2
    have hB := lB_ll b hb hi2
    have hR := lB_ll r hr hi
    show LL (([ind ++ "if " ++ xTst t ++ " {"] ++ lB (ind ++ "  ") a ++ lElse ind (lB (ind ++ "  ") b) b.some ++ [ind ++ "}"]) ++ lB ind r) _
    cases hs : b.some with
    | false =>
      have := (((LL.one h1).append hA).append (LL.nil.append (LL.one h3))).append hR
      rw [show kB (.ifs t a b r) = ([tW "if"] ++ kTst t ++ [tS "{"]) ++ kB a ++ ([] ++ [tS "}"]) ++ kB r from by simp [kB, hs, kElse]]
      simpa [lElse] using this
    | true =>
      have := ((((LL.one h1).append hA).append ((LL.one h2).append hB)).append (LL.one h3)).append hR
      rw [show kB (.ifs t a b r) = ([tW "if"] ++ kTst t ++ [tS "{"]) ++ kB a ++ ([tS "}", tW "else", tS "{"] ++ kB b) ++ [tS "}"] ++ kB r from by simp [kB, hs, kElse]]
      simpa [lElse] using this
theorem lEmit_ll {e : List Str} (h : Few Nm e) : LL (lEmit e) (kEmit e) := by
  unfold lEmit kEmit
  by_cases h0 : e = []
  · rw [if_pos h0, if_pos h0]; exact .nil
  · rw [if_neg h0, if_neg h0]
    have h1 := sep_ss (x := id) (k := fun n => [tN n]) (l := e) fun p hp => nm_ss (h.2 p hp)
    rw [List.map_id] at h1
    exact LL.one (sscs (csss (cl "emit " (ts := [(true, "emit")]) (by decide +kernel)) h1) c_semi).lex
theorem lPrg_ll {p : Prg} (h : wPrg p) : LL (lPrg p) (kPrg p) := by
  have h1 : Lex (tl ("program " ++ p.name)) [tW "program", tN p.name] := (csss (cl "program " (ts := [(true, "program")]) (by decide +kernel)) (nm_ss h.name)).lex
  have h2 : Lex (tl "parser {") [tW "parser", tS "{"] := (cl "parser {" (ts := [(true, "parser"), (false, "{")]) (by decide +kernel)).lex
  have h3 : Lex (tl "control {") [tW "control", tS "{"] := (cl "control {" (ts := [(true, "control"), (false, "{")]) (by decide +kernel)).lex
  have := ((((((((((LL.one h1).append (LL.flat (f := lHdr) (k := fun x => tW "header" :: kHdr x) fun x hx => lHdr_ll (h.hdrs.2 x hx))).append (lMeta_ll h.meta')).append (LL.one h2)).append (LL.flat (f := lSta) (k := fun x => tW "state" :: kSta x) fun x hx => lSta_ll (h.stas.2 x hx))).append (LL.one c_close.lex)).append
    (LL.flat (f := lAct) (k := fun x => tW "action" :: kAct x) fun x hx => lAct_ll (h.acts.2 x hx))).append (LL.flat (f := lTab) (k := fun x => tW "table" :: kTab x) fun x hx => lTab_ll (h.tabs.2 x hx))).append (LL.one h3)).append (lB_ll p.ctl h.ctl c_2)).append (LL.one c_close.lex)
  exact this.append (lEmit_ll h.emits)
end WP
namespace WP
open PySem PySem.Spec PyProof.Rows L2 TL
/-! ### texts one behind another -/
theorem SignOk.more {g : Str} {a s : List Nat} (h : SignOk g a) (hs : brk s = true) : SignOk g (a ++ s) := by
  obtain ⟨i, hi, hf⟩ := h
  refine ⟨i, hi, fun j x hj hx => ?_⟩
  have hg : g ∈ SGN := List.mem_of_getElem? hi
  have hx2 := SGN_ne x (List.mem_of_getElem? hx)
  have hg2 := SGN_ne g hg
  have hhd : ∀ s, (tl g ++ s).head? = (tl g).head? := fun s => by
    cases e : tl g with
    | nil => exact absurd e hg2.2.1
    | cons c r => rfl
  have := hf j x hj hx
  rcases SGN_heads i j g x hj hi hx with h | ⟨h1, h2⟩ | ⟨h1, h2⟩
  · exact pre_hd hx2.2.1 (by rw [hhd]; exact h)
  all_goals
    rw [h1, h2] at this ⊢
    unfold pre at this ⊢
    rw [beq_eq_false_iff_ne] at this ⊢
    intro e
    cases a with
    | nil =>
      cases s with
      | nil => simp at e
      | cons c r =>
        have := brk_ne hs c r rfl
        simp at e
        omega
    | cons c r =>
      simp at e this
      exact this e
theorem lex_sg {a : List Nat} {ts : List Tok} (h : Lex a ts) : Sg a ts := by
  intro s us e l
  induction h with
  | nil => exact l
  | sp _ ih => exact .sp ih
  | nl _ ih => exact .nl ih
  | cm b hb _ ih =>
    have := Lex.cm b hb ih
    simpa using this
  | @run a' ts' w t hw hn _ ih =>
    rw [List.append_assoc]
    refine .run w t hw (fun c r h => ?_) ih
    cases a' with
    | nil => exact brk_nr e c r h
    | cons d a' =>
      cases h
      exact hn _ _ rfl
  | sign g hg _ ih =>
    rw [List.append_assoc]
    exact .sign g (hg.more e) ih
theorem ll_text : ∀ {ls : List Str} {ts : List Tok}, LL ls ts → Lex ((ls.map fun l => tl l ++ [10]).flatten) ts
  | _, _, .nil => .nil
  | _, _, .cons (l := l) h k => by
    have := lex_sg h _ _ (by rfl) (Lex.nl (ll_text k))
    simpa using this
theorem join_text : ∀ {ls : List Str}, ls ≠ [] → tl (Str.join "\n" ls ++ "\n") = (ls.map fun l => tl l ++ [10]).flatten := by
  intro ls hne
  have t10 : tl (Str.ofString "\n") = [10] := by decide +kernel
  rw [tl_append, tl_join, t10]
  induction ls with
  | nil => exact absurd rfl hne
  | cons l ls ih =>
    cases ls with
    | nil => simp [joinL]
    | cons m ls =>
      have := ih (by simp)
      have e : (List.map (fun l => tl l ++ [10]) (l :: m :: ls)).flatten = (tl l ++ [10]) ++ (List.map (fun l => tl l ++ [10]) (m :: ls)).flatten := rfl
      rw [e, ← this, List.map_cons, joinL_cons _ _ (by simp)]
      simp
theorem lPrg_ne {p : Prg} : lPrg p ≠ [] := by simp [lPrg]
theorem write_lex {p : Prg} (h : wPrg p) : Lex (tl (Str.join "\n" (lPrg p) ++ "\n")) (kPrg p) := by
  rw [join_text lPrg_ne]
  exact ll_text (lPrg_ll h)
/-! ### ends of lines -/
def ENDS : List Str := ["\n", " ", " # end\n", "\n\n"]
theorem end_cl : ∀ e ∈ ENDS, Cl (tl e) [] ∧ bgn (tl e) = true ∧ e.length ≤ 7 := by
  intro e he
  have h : e = "\n" ∨ e = " " ∨ e = " # end\n" ∨ e = "\n\n" := by simpa [ENDS] using he
  have e1 : tl (Str.ofString "\n") = [10] := by decide +kernel
  have e2 : tl (Str.ofString " ") = [32] := by decide +kernel
  have e3 : tl (Str.ofString " # end\n") = 32 :: 35 :: ([32, 101, 110, 100] ++ [10]) := by decide +kernel
  have e4 : tl (Str.ofString "\n\n") = [10, 10] := by decide +kernel
  rcases h with rfl | rfl | rfl | rfl
  · exact ⟨by rw [e1]; exact fun s us l => .nl l, by decide +kernel, by decide +kernel⟩
  · exact ⟨by rw [e2]; exact fun s us l => .sp l, by decide +kernel, by decide +kernel⟩
  · refine ⟨by rw [e3]; exact fun s us l => .sp (.cm [32, 101, 110, 100] (by unfold cmc; decide) l), by decide +kernel, by decide +kernel⟩
  · exact ⟨by rw [e4]; exact fun s us l => .nl (.nl l), by decide +kernel, by decide +kernel⟩
/-! ### signs spread -/
def CSG : List Str := ["{", "}", "(", ")", ":", ";", ",", "."]
def CS : List Nat := [123, 125, 40, 41, 58, 59, 44, 46]
def PRE : List Str := [" ", "\n", " # x\n"]
def POST : List Str := ["", " ", "\n"]
/-- what each code becomes -/
structure Sprd (f : Nat → List Nat) : Prop where
  ok : ∀ c, f c = [c] ∨ (c = 32 ∧ f c = [32, 32]) ∨ (c ∈ CS ∧ ∃ p ∈ PRE, ∃ q ∈ POST, f c = tl p ++ c :: tl q)
theorem CS_ne {c : Nat} (h : c ∈ CS) : isRun c = false ∧ c ≠ 10 ∧ c ≠ 32 ∧ c ≠ 35 ∧ c ≠ 62 ∧ c ≠ 61 ∧ c ≠ 120 ∧ c ≠ 101 ∧ c ≠ 110 ∧ c ≠ 100 := by
  have : ∀ c ∈ CS, isRun c = false ∧ c ≠ 10 ∧ c ≠ 32 ∧ c ≠ 35 ∧ c ≠ 62 ∧ c ≠ 61 ∧ c ≠ 120 ∧ c ≠ 101 ∧ c ≠ 110 ∧ c ≠ 100 := by decide
  exact this c h
theorem pre_cl : ∀ p ∈ PRE, Cl (tl p) [] ∧ bgn (tl p) = true ∧ p.length ≤ 5 := by
  intro e he
  have h : e = " " ∨ e = "\n" ∨ e = " # x\n" := by simpa [PRE] using he
  have e1 : tl (Str.ofString "\n") = [10] := by decide +kernel
  have e2 : tl (Str.ofString " ") = [32] := by decide +kernel
  have e3 : tl (Str.ofString " # x\n") = 32 :: 35 :: ([32, 120] ++ [10]) := by decide +kernel
  rcases h with rfl | rfl | rfl
  · exact ⟨by rw [e2]; exact fun s us l => .sp l, by decide +kernel, by decide +kernel⟩
  · exact ⟨by rw [e1]; exact fun s us l => .nl l, by decide +kernel, by decide +kernel⟩
  · exact ⟨by rw [e3]; exact fun s us l => .sp (.cm [32, 120] (by unfold cmc; decide) l), by decide +kernel, by decide +kernel⟩
theorem post_cl : ∀ p ∈ POST, Cl (tl p) [] ∧ p.length ≤ 1 := by
  intro e he
  have h : e = "" ∨ e = " " ∨ e = "\n" := by simpa [POST] using he
  have e0 : tl (Str.ofString "") = [] := by decide +kernel
  have e1 : tl (Str.ofString "\n") = [10] := by decide +kernel
  have e2 : tl (Str.ofString " ") = [32] := by decide +kernel
  rcases h with rfl | rfl | rfl
  · exact ⟨by rw [e0]; exact fun s us l => l, by decide +kernel⟩
  · exact ⟨by rw [e2]; exact fun s us l => .sp l, by decide +kernel⟩
  · exact ⟨by rw [e1]; exact fun s us l => .nl l, by decide +kernel⟩
section
variable {f : Nat → List Nat}
theorem Sprd.run (F : Sprd f) {c : Nat} (h : isRun c = true) : f c = [c] := by
  have hr := run_ne h
  rcases F.ok c with e | ⟨e, _⟩ | ⟨e, _⟩
  · exact e
  · exact absurd e hr.2.1
  · rw [(CS_ne e).1] at h; cases h
theorem Sprd.keep (F : Sprd f) {c : Nat} (h1 : c ∉ CS) (h2 : c ≠ 32) : f c = [c] := by
  rcases F.ok c with e | ⟨e, _⟩ | ⟨e, _⟩
  · exact e
  · exact absurd e h2
  · exact absurd e h1
theorem Sprd.runs (F : Sprd f) : ∀ {w : List Nat}, (∀ c ∈ w, f c = [c]) → w.flatMap f = w
  | [], _ => rfl
  | c :: w, h => by
    rw [List.flatMap_cons, h c (by simp), F.runs fun d hd => h d (List.mem_cons_of_mem _ hd)]; rfl
/-- what a spread text begins with -/
theorem Sprd.hd (F : Sprd f) (s : List Nat) : (s.flatMap f).head? = s.head? ∨ (s.flatMap f).head? = some 32 ∨ (s.flatMap f).head? = some 10 := by
  cases s with
  | nil => exact .inl rfl
  | cons c r =>
    rw [List.flatMap_cons]
    rcases F.ok c with e | ⟨rfl, e⟩ | ⟨_, p, hp, q, _, e⟩
    · rw [e]; exact .inl rfl
    · rw [e]; exact .inl rfl
    · rw [e]
      have : ∀ p ∈ PRE, (tl p).head? = some 32 ∨ (tl p).head? = some 10 := by decide +kernel
      have h2 : ∀ x : List Nat, (tl p ++ x).head? = (tl p).head? := fun x => by
        have := (pre_cl p hp).2.1
        cases e : tl p with
        | nil => rw [e] at this; cases this
        | cons => rfl
      rw [List.append_assoc, h2]
      exact .inr (this p hp)
theorem Sprd.nr (F : Sprd f) {s : List Nat} (h : NR s) : NR (s.flatMap f) := by
  intro c r e
  have hd : (s.flatMap f).head? = some c := by rw [e]; rfl
  rcases F.hd s with k | k | k
  · rw [k] at hd
    cases s with
    | nil => cases hd
    | cons d s => cases hd; exact h _ _ rfl
  · rw [k] at hd; cases hd; decide
  · rw [k] at hd; cases hd; decide
theorem Sprd.sign (F : Sprd f) {g : Str} {s : List Nat} (h : SignOk g s) : SignOk g (s.flatMap f) := by
  obtain ⟨i, hi, hf⟩ := h
  have hg : g ∈ SGN := List.mem_of_getElem? hi
  have hg2 := SGN_ne g hg
  refine ⟨i, hi, fun j x hj hx => ?_⟩
  have hx2 := SGN_ne x (List.mem_of_getElem? hx)
  have hhd : ∀ s, (tl g ++ s).head? = (tl g).head? := fun s => by
    cases e : tl g with
    | nil => exact absurd e hg2.2.1
    | cons c r => rfl
  have := hf j x hj hx
  rcases SGN_heads i j g x hj hi hx with h | ⟨h1, h2⟩ | ⟨h1, h2⟩
  · exact pre_hd hx2.2.1 (by rw [hhd]; exact h)
  all_goals
    rw [h1, h2] at this ⊢
    unfold pre at this ⊢
    rw [beq_eq_false_iff_ne] at this ⊢
    intro e
    cases e3 : s.flatMap f with
    | nil => rw [e3] at e; simp at e
    | cons c r =>
      rw [e3] at e
      simp at e
      subst e
      rcases F.hd s with k | k | k
      · rw [e3] at k
        cases s with
        | nil => cases k
        | cons d s =>
          cases k
          simp at this
      · rw [e3] at k; cases k
      · rw [e3] at k; cases k
theorem SGN_cases : ∀ g ∈ SGN, (∃ c ∈ CS, tl g = [c]) ∨ (∀ c ∈ tl g, c ∉ CS ∧ c ≠ 32) := by
  intro g hg
  have h : (SGN.all fun g => (CS.any fun c => decide (tl g = [c])) || (tl g).all fun c => decide (c ∉ CS ∧ c ≠ 32)) = true := by decide +kernel
  have := List.all_eq_true.mp h g hg
  rcases Bool.or_eq_true_iff.mp this with h | h
  · obtain ⟨c, h1, h2⟩ := List.any_eq_true.mp h
    exact .inl ⟨c, h1, of_decide_eq_true h2⟩
  · exact .inr fun c hc => of_decide_eq_true (List.all_eq_true.mp h c hc)
theorem CS_not {c : Nat} (h : c ∈ CS) : [c] ≠ [45] ∧ [c] ≠ [61] := by
  have : ∀ c ∈ CS, [c] ≠ [45] ∧ [c] ≠ [61] := by decide
  exact this c h
/-- a spread text has the same tokens -/
theorem Sprd.lex (F : Sprd f) {a : List Nat} {ts : List Tok} (h : Lex a ts) : Lex (a.flatMap f) ts := by
  have f10 : f 10 = [10] := F.keep (by decide) (by decide)
  have f35 : f 35 = [35] := F.keep (by decide) (by decide)
  induction h with
  | nil => exact .nil
  | sp _ ih =>
    rw [List.flatMap_cons]
    rcases F.ok 32 with e | ⟨_, e⟩ | ⟨e, _⟩
    · rw [e]; exact .sp ih
    · rw [e]; exact .sp (.sp ih)
    · exact absurd e (by decide)
  | nl _ ih => rw [List.flatMap_cons, f10]; exact .nl ih
  | @cm s ts b hb _ ih =>
    rw [List.flatMap_cons, f35, List.flatMap_append, List.flatMap_cons, f10]
    refine .cm (b.flatMap f) (fun c hc => ?_) ih
    obtain ⟨d, hd, hc⟩ := List.mem_flatMap.mp hc
    have hdc := hb d hd
    rcases F.ok d with e | ⟨_, e⟩ | ⟨e, _⟩
    · rw [e] at hc; rw [List.mem_singleton.mp hc]; exact hdc
    · rw [e] at hc
      have : c = 32 := by simpa using hc
      exact .inl this
    · have := CS_ne e
      unfold cmc at hdc
      omega
  | run w t hw hn _ ih =>
    rw [List.flatMap_append, F.runs fun c hc => F.run (hw.all c hc)]
    exact .run w t hw (F.nr hn) ih
  | @sign s ts g hg _ ih =>
    rw [List.flatMap_append]
    rcases SGN_cases g hg.mem with ⟨c, hc, e⟩ | h
    · rw [e, List.flatMap_cons, List.flatMap_nil, List.append_nil]
      rcases F.ok c with e2 | ⟨e2, _⟩ | ⟨_, p, hp, q, hq, e2⟩
      · rw [e2, ← e]; exact .sign g (F.sign hg) ih
      · exact absurd e2 (CS_ne hc).2.2.1
      · rw [e2]
        have h1 : Cl (tl g) [tS g] := Cl.sign hg.mem (by rw [e]; exact (CS_not hc).1) (by rw [e]; exact (CS_not hc).2)
        have h2 := (pre_cl p hp).1 _ _ (h1 _ _ ((post_cl q hq).1 _ _ ih))
        rw [e] at h2
        simpa using h2
    · rw [F.runs fun c hc => F.keep (h c hc).1 (h c hc).2]
      exact .sign g (F.sign hg) ih
end
end WP
namespace WP
open PySem PySem.Spec PyProof.Rows L2 TL StrLaws
/-- one code made another text -/
def f1 (c : Nat) (z : List Nat) : Nat → List Nat := fun d => if d = c then z else [d]
theorem replL_one (c : Nat) (z : List Nat) : ∀ l : List Nat, replL [c] z l = l.flatMap (f1 c z)
  | [] => by rw [replL_nil]; rfl
  | d :: l => by
    rw [List.flatMap_cons, ← replL_one c z l]
    unfold f1
    by_cases h : d = c
    · subst h
      rw [if_pos rfl, replL_hit (by simp) (by simp)]
      rfl
    · rw [if_neg h, replL_miss (by simp [h])]
      rfl
theorem replace_fm {x y z : Str} {c : Nat} (hy : tl y = [c]) : tl (Txt.replace x y z) = (tl x).flatMap (f1 c (tl z)) := by
  have := replace_list (x := x) (y := y) (z := z) (by rw [len_tl, hy]; simp)
  show (Txt.replace x y z).cps.toList = _
  rw [this]
  show replL (tl y) (tl z) (tl x) = _
  rw [hy, replL_one]
/-! ### how long -/
/-- a code still to be spread counts seven -/
def wt (R : List Nat) (l : List Nat) : Nat := (l.map fun c => if c ∈ R then 7 else 1).sum
theorem wt_nil (l : List Nat) : wt [] l = l.length := by
  unfold wt
  induction l with
  | nil => rfl
  | cons c l ih => simp only [List.map_cons, List.sum_cons, List.length_cons, ih]; simp; omega
theorem wt_append (R l m : List Nat) : wt R (l ++ m) = wt R l + wt R m := by simp [wt]
theorem wt_le (R l : List Nat) : wt R l ≤ 7 * l.length := by
  unfold wt
  induction l with
  | nil => simp
  | cons c l ih =>
    simp only [List.map_cons, List.sum_cons, List.length_cons]
    split <;> omega
theorem wt_ge (R l : List Nat) : l.length ≤ wt R l := by
  unfold wt
  induction l with
  | nil => simp
  | cons c l ih =>
    simp only [List.map_cons, List.sum_cons, List.length_cons]
    split <;> omega
theorem wt_less {R R' : List Nat} (h : ∀ c ∈ R', c ∈ R) (l : List Nat) : wt R' l ≤ wt R l := by
  unfold wt
  induction l with
  | nil => simp
  | cons c l ih =>
    simp only [List.map_cons, List.sum_cons]
    by_cases h1 : c ∈ R'
    · rw [if_pos h1, if_pos (h c h1)]; omega
    · rw [if_neg h1]
      split <;> omega
theorem wt_free {R l : List Nat} (h : ∀ c ∈ l, c ∉ R) : wt R l = l.length := by
  unfold wt
  induction l with
  | nil => rfl
  | cons c l ih =>
    simp only [List.map_cons, List.sum_cons, List.length_cons, if_neg (h c (by simp))]
    rw [ih fun d hd => h d (List.mem_cons_of_mem _ hd)]; omega
theorem wt_spread {c : Nat} {R z : List Nat} (hc : c ∉ R) (hz : wt R z ≤ 7) : ∀ l : List Nat, wt R (l.flatMap (f1 c z)) ≤ wt (c :: R) l
  | [] => Nat.le_refl _
  | d :: l => by
    rw [List.flatMap_cons, wt_append]
    have ih := wt_spread hc hz l
    have e : wt (c :: R) (d :: l) = (if d ∈ c :: R then 7 else 1) + wt (c :: R) l := by simp [wt]
    rw [e]
    unfold f1 at *
    by_cases h : d = c
    · subst h
      rw [if_pos rfl, if_pos (by simp)]; omega
    · rw [if_neg h]
      have : wt R [d] = if d ∈ R then 7 else 1 := by simp [wt]
      rw [this]
      by_cases h2 : d ∈ R
      · rw [if_pos h2, if_pos (by simp [h2])]; omega
      · rw [if_neg h2, if_neg (by simp [h, h2])]; omega
/-- a sign spread: the tokens stay, the weight does not grow -/
theorem spread_one {x y p q : Str} {c : Nat} {R : List Nat} {ts : List Tok} (hy : tl y = [c]) (hc : c ∈ CS) (hcR : c ∉ R) (hR : ∀ d ∈ R, d ∈ CS) (hp : p ∈ PRE) (hq : q ∈ POST) (h : Lex (tl x) ts) :
    Lex (tl (Txt.replace x y (p ++ y ++ q))) ts ∧ wt R (tl (Txt.replace x y (p ++ y ++ q))) ≤ wt (c :: R) (tl x) := by
  rw [replace_fm hy, tl_append, tl_append, hy]
  have noCS : ∀ p, (p ∈ PRE ∨ p ∈ POST) → ∀ d ∈ tl p, d ∉ CS := by
    have h1 : ∀ p ∈ PRE, ∀ d ∈ tl p, d ∉ CS := by decide +kernel
    have h2 : ∀ p ∈ POST, ∀ d ∈ tl p, d ∉ CS := by decide +kernel
    intro p hp
    rcases hp with hp | hp
    · exact h1 p hp
    · exact h2 p hp
  have l1 := (pre_cl p hp).2.2
  have l2 := (post_cl q hq).2
  rw [len_tl] at l1 l2
  refine ⟨Sprd.lex (f := f1 c (tl p ++ [c] ++ tl q)) ⟨fun d => ?_⟩ h, wt_spread hcR ?_ _⟩
  · unfold f1
    by_cases e : d = c
    · subst e
      rw [if_pos rfl]
      exact .inr (.inr ⟨hc, p, hp, q, hq, by simp⟩)
    · rw [if_neg e]; exact .inl rfl
  · rw [wt_free]
    · simp only [List.length_append, List.length_cons, List.length_nil]; omega
    · intro d hd hdR
      rw [List.mem_append, List.mem_append] at hd
      rcases hd with (hd | hd) | hd
      · exact noCS p (.inl hp) d hd (hR d hdR)
      · exact hcR (by rw [List.mem_singleton.mp hd] at hdR; exact hdR)
      · exact noCS q (.inr hq) d hd (hR d hdR)
theorem spread_sp {x : Str} {ts : List Tok} (h : Lex (tl x) ts) : Lex (tl (Txt.replace x " " "  ")) ts ∧ (Txt.replace x " " "  ").length ≤ 2 * x.length := by
  have e1 : tl (Str.ofString " ") = [32] := by decide +kernel
  have e2 : tl (Str.ofString "  ") = [32, 32] := by decide +kernel
  rw [len_tl (Txt.replace _ _ _), len_tl x, replace_fm e1, e2]
  refine ⟨Sprd.lex (f := f1 32 [32, 32]) ⟨fun d => ?_⟩ h, ?_⟩
  · unfold f1
    by_cases e : d = 32
    · rw [if_pos e]; exact .inr (.inl ⟨e, rfl⟩)
    · rw [if_neg e]; exact .inl rfl
  · induction tl x with
    | nil => simp
    | cons d l ih =>
      rw [List.flatMap_cons, List.length_append, List.length_cons]
      have : (f1 32 [32, 32] d).length ≤ 2 := by unfold f1; split <;> simp
      omega
/-- the text so far, one line more -/
theorem text_more {t l e : Str} {ts us : List Tok} (h : Cl (tl t) ts) (hl : Lex (tl l) us) (he : e ∈ ENDS) : Cl (tl (t ++ l ++ e)) (ts ++ us) := by
  obtain ⟨h1, h2, _⟩ := end_cl e he
  have := sscs (csss h (lex_sg hl)) h1 h2
  rwa [List.append_nil] at this
theorem LL.get : ∀ {ls : List Str} {ts : List Tok}, LL ls ts → ∃ qs : List (List Tok), qs.flatten = ts ∧ qs.length = ls.length ∧ ∀ (i : Nat) (l : Str), ls[i]? = some l → ∃ q, qs[i]? = some q ∧ Lex (tl l) q
  | _, _, .nil => ⟨[], rfl, rfl, fun i l h => by simp at h⟩
  | _, _, .cons (q := q) h k => by
    obtain ⟨qs, e1, e2, e3⟩ := LL.get k
    refine ⟨q :: qs, by rw [List.flatten_cons, e1], by simp [e2], fun i l hi => ?_⟩
    cases i with
    | zero =>
      simp at hi
      subst hi
      exact ⟨q, rfl, h⟩
    | succ i => exact e3 i l (by simpa using hi)
end WP
namespace WP
open PySem PySem.Spec PyProof.Rows L2 TL
local macro_rules | `(tactic| walk_at "len") => `(tactic| (show _ ≤ sizeLine; rw [sizeLine_eq]; (try simp only [al, lit_len]); (try simp) <;> omega))
local macro_rules | `(tactic| walk_at "lt") => `(tactic| (show _ < sizeLine; rw [sizeLine_eq]; (try simp only [List.length_map, List.length_append, List.length_cons, List.length_nil, List.length_take]); omega))
local macro_rules | `(tactic| walk_at "le") => `(tactic| (show _ ≤ sizeLine; rw [sizeLine_eq]; (try simp only [List.length_map, List.length_append, List.length_cons, List.length_nil, List.length_take]); omega))
local macro_rules | `(tactic| walk_at "now") => `(tactic| first | assumption | (refine (by assumption : Same _ _) _ _ ?_; walk_at "now"))
local macro_rules | `(tactic| walk_at "at") => `(tactic| first | exact at0 | exact at1 | exact at2 | exact at3 | exact at4 | exact at5 | exact at6 | exact at7 | exact at8)
local macro_rules | `(tactic| walk_at "v") => `(tactic| refine ⟨_, rfl, ?_⟩)
local macro_rules | `(tactic| walk_at "ix") => `(tactic| refine ⟨_, _, _, _, rfl, rfl, SqT.of (by walk_at "now"), (by walk_at "at"), ?_⟩)
local macro_rules | `(tactic| walk_at "ixl") => `(tactic| refine ⟨_, _, _, _, rfl, rfl, SqL.of (by walk_at "now"), (by walk_at "at"), ?_⟩)
local macro_rules | `(tactic| walk_at "str") => `(tactic| refine ⟨_, _, rfl, rfl, (by walk_at "len"), ?_⟩)
local macro_rules | `(tactic| walk_at "int") => `(tactic| refine ⟨_, _, rfl, rfl, ?_⟩)
local macro_rules | `(tactic| walk_at "eq") => `(tactic| refine ⟨rfl, _, rfl, ?_⟩)
local macro_rules | `(tactic| walk_at "app") => `(tactic| refine ⟨_, _, _, rfl, rfl, (by walk_at "now"), (by walk_at "lt"), ?_⟩)
local macro_rules | `(tactic| walk_at "ext") => `(tactic| refine ⟨_, _, _, _, rfl, rfl, (by walk_at "now"), (by walk_at "now"), (by walk_at "le"), ?_⟩)
local macro_rules | `(tactic| walk_at "cat") => `(tactic| refine ⟨_, _, _, _, rfl, rfl, (by walk_at "now"), (by walk_at "now"), (by walk_at "le"), ?_⟩)
local macro_rules | `(tactic| walk_at "num") => `(tactic| refine ⟨(by assumption : Nu _), ?_⟩)
local macro_rules | `(tactic| walk_at "ty") => `(tactic| refine ⟨Or.inl ⟨rfl, _, SqL.of (by walk_at "now")⟩, ?_⟩)
local macro_rules | `(tactic| walk_at "un2") => `(tactic| refine ⟨_, _, rfl, SqT.of (by walk_at "now"), rfl, _, _, rfl, _, _, rfl, rfl, ?_⟩)
local macro_rules | `(tactic| walk_at "un3") => `(tactic| refine ⟨_, _, rfl, SqT.of (by walk_at "now"), rfl, _, _, rfl, _, _, rfl, _, _, rfl, rfl, ?_⟩)
local macro_rules | `(tactic| walk_at "un4") => `(tactic| refine ⟨_, _, rfl, SqT.of (by walk_at "now"), rfl, _, _, rfl, _, _, rfl, _, _, rfl, _, _, rfl, rfl, ?_⟩)
local macro_rules | `(tactic| walk_at "un6") => `(tactic| refine ⟨_, _, rfl, SqT.of (by walk_at "now"), rfl, _, _, rfl, _, _, rfl, _, _, rfl, _, _, rfl, _, _, rfl, _, _, rfl, rfl, ?_⟩)
local macro_rules | `(tactic| walk_at "un9") => `(tactic| refine ⟨_, _, rfl, SqT.of (by walk_at "now"), rfl, _, _, rfl, _, _, rfl, _, _, rfl, _, _, rfl, _, _, rfl, _, _, rfl, _, _, rfl, _, _, rfl, _, _, rfl, rfl, ?_⟩)
local macro_rules | `(tactic| walk_at "go") => `(tactic| repeat (first | walk_at "v" | walk_at "eq" | walk_at "ix" | walk_at "str" | walk_at "ty" | walk_at "num"))

/-! ### the law's state: cells, then a seed -/
structure Gs (st c : Addr) (H : Hp) : Prop where
  ne : st ≠ c
  sd : ∃ s : Int, H st = some (.lst [.ref c, .int s]) ∧ 0 ≤ s ∧ s < 2147483648
  cs : ∃ ns : List Int, H c = some (.lst (ns.map .int)) ∧ (∀ n ∈ ns, 0 ≤ n) ∧ ns.length ≤ 1000
theorem Gs.same {st c : Addr} {H H' : Hp} (g : Gs st c H) (s : Same H H') : Gs st c H' := by
  obtain ⟨n, ⟨x, h1, h2, h3⟩, ⟨ns, h4, h5⟩⟩ := g
  exact ⟨n, ⟨x, s _ _ h1, h2, h3⟩, ⟨ns, s _ _ h4, h5⟩⟩
theorem Gs.nin {st c : Addr} {H : Hp} (g : Gs st c H) {p : Addr} (h : H p = none) : p ∉ [st, c] := by
  obtain ⟨n, ⟨x, h1, _⟩, ⟨ns, h4, _⟩⟩ := g
  intro z
  simp only [List.mem_cons, List.not_mem_nil, or_false] at z
  rcases z with rfl | rfl
  · rw [h1] at h; cases h
  · rw [h4] at h; cases h
theorem Same.dm' {H H' : Hp} (s : Same H H') : ∀ b, H' b = none → H b = none := fun b h => s.free h
theorem sql_same {K : PySem.W.Frag} {H H' : Hp} {a : Addr} {xs : List V} (h : SqL K H a xs) (s : Same H H') : SqL K H' a xs := by
  rcases h with (h | ⟨o, h⟩) | h
  · exact .inl (.inl (s _ _ h))
  · exact .inl (.inr ⟨o, s _ _ h⟩)
  · exact .inr h
def spState (K : PySem.W.Frag) : Sp := fun vs H Q _ => ∃ a ns, vs = [.ref a] ∧ SqL K H a (List.map V.int ns) ∧ ns.length ≤ 1000 ∧ ∀ st c H', Same H H' → H st = none → H c = none → Gs st c H' → Q (.ref st) H'
def spDraw : Sp := fun vs H Q _ => ∃ st c m, vs = [.ref st, .int m] ∧ Gs st c H ∧ 0 < m ∧ m ≤ 4294967296 ∧ ∀ n H', 0 ≤ n → n < m → Kp [st, c] H H' → Gs st c H' → Q (.int n) H'
def spPick : Sp := fun vs H Q _ => ∃ st c a xs, vs = [.ref st, .ref a] ∧ Gs st c H ∧ H a = some (.lst xs) ∧ a ∉ [st, c] ∧ xs ≠ [] ∧ xs.length ≤ 1000000 ∧ ∀ (i : Nat) x H', xs[i]? = some x → Kp [st, c] H H' → Gs st c H' → Q x H'
section
variable {P : Program} {w : World} {K : PySem.W.Frag} {mg : Str → Option Value} {base : Heap} {k : Nat}
abbrev s__law_state : Stmt := top 57
abbrev n__law_state : List Str := ["_law_script", "_law_seed", "_law_cell"]
theorem sc__law_state : FnScope n__law_state ["_law_script"] (defScope s__law_state) := ⟨rfl, rfl, rfl, by decide +kernel, rfl, by decide +kernel, by decide +kernel⟩
/- slots: 0 _law_script, 1 _law_seed, 2 _law_cell -/
theorem ok__law_state (B : Bt mg) (h : Has K mg "_law_state" s__law_state ["_law_script"]) : Ok P w K mg base (k + 1) "_law_state" ["_law_script"] (spState K) := by
  refine h.ok sc__law_state (fun vs H Q E h => ?_) (fun f0 cdv A outer s H vs Q E hr h => ?_)
  · obtain ⟨_, _, rfl, _⟩ := h; rfl
  obtain ⟨a, ns, rfl, ha, hn, q⟩ := h
  refine ⟨_, (pss_cons (ps_set (i := 1) sc__law_state.nd rfl (Or.inl rfl) pe_int)
    (pss_cons (ps_for PassesOwn.never rfl (pi_list (pv 0)) (pg_name (i := 2) sc__law_state.nd rfl (Or.inl rfl)) (pss_one (ps_set (i := 1) sc__law_state.nd rfl (Or.inl rfl) (pe_op op_mod (pe_callTy call_int1 (by rfl) B.int (by decide +kernel) (pa_cons (pe_op op_add (pe_op op_mul (pv 1) pe_int) (pv 2)) pa_nil)) pe_int))))
    (pss_one (ps_ret (pe_lstS (pa_cons (pe_lc (own := [("_law_cell", 2)]) rfl sc__law_state.nd (pi_list (pv 0)) (blkOk_by (N := n__law_state) (sc := defScope s__law_state) (by decide +kernel)) (fun _ _ _ _ _ => (pg_name (i := 2) sc__law_state.nd rfl (Or.inl rfl) (Or.inr rfl))) (fun _ _ _ _ _ => pts_nil) (fun _ _ _ _ _ => (pe_callB call_abs (by rfl) B.abs (by decide +kernel) (pa_cons (pv 2) pa_nil)))) (pa_cons (pe_op op_add (pv 1) pe_int) pa_nil))))))), ?_⟩
  refine ⟨_, rfl, _, rfl, ⟨_, ha⟩, for_list (K := K) (a := a) (xs := ns.map V.int) (fun i σ' H' => H' = H ∧ ∃ s x, σ' = [some (.ref a), some (.int s), x] ∧ 0 ≤ s ∧ s < 1000003) ⟨rfl, 7, _, rfl, by decide, by decide⟩ (fun _ _ _ _ h => by rw [h.1]; exact ha) ?_ ?_⟩
  · rintro i x σ' H' hx ⟨rfl, s, y, rfl, h0, h1⟩
    obtain ⟨n, hn, hat⟩ := (AtL.ints (H := H') (ns := ns)).getM hx
    obtain rfl := hat.int_inv
    refine ⟨_, rfl, _, _, rfl, rfl, .inr ⟨by decide, by decide⟩, _, rfl, _, _, rfl, rfl, .inl ⟨_, rfl, _, _, rfl, rfl, (by decide : (0 : Int) < 1000003), ?_⟩⟩
    exact ⟨rfl, _, _, rfl, Int.emod_nonneg _ (by decide), Int.emod_lt_of_pos _ (by decide)⟩
  · rintro σ' H' ⟨rfl, s, y, rfl, h0, h1⟩
    refine ⟨_, rfl, _, rfl, ⟨_, ha⟩, fun D hD => lc_list (xs := ns.map V.int) (fun i H1 => Same H' H1 ∧ H1 D = some (.lst ((ns.take i).map fun n => V.int (if n < 0 then -n else n)))) ⟨Same.new hD, upd_same⟩ (fun i H1 _ h => sql_same ha h.1) (fun i x H1 hi ⟨s1, h1⟩ => ?_) (fun H1 ⟨s1, h1⟩ => ?_)⟩
    · obtain ⟨n, hn', hat⟩ := (AtL.ints (H := H1) (ns := ns)).getM hi
      obtain rfl := hat.int_inv
      have hil := (List.getElem?_eq_some_iff.mp hn').1
      refine ⟨rfl, _, rfl, n, rfl, _, h1, szl (by simp; omega), sapp s1 hD (Kp.wr (by simp)), ?_⟩
      rw [upd_same, take_s hn', List.map_append]
      rfl
    · rw [List.length_map, List.take_length] at h1
      refine ⟨_, rfl, _, _, rfl, rfl, by walk_at "le", fun p H2 hp s2 e2 => ?_⟩
      refine q p D H2 (s1.trans s2) (Same.dm' s1 p hp) hD ⟨fun e => ?_, ⟨s + 1, e2, by omega, by omega⟩, ns.map (fun n => if n < 0 then -n else n), ?_, ?_, by simpa using hn⟩
      · rw [e, h1] at hp; cases hp
      · rw [s2 _ _ h1, List.map_map]; rfl
      · intro n hn
        obtain ⟨m, _, rfl⟩ := List.mem_map.mp hn
        split <;> omega
abbrev s__law_draw : Stmt := top 58
abbrev n__law_draw : List Str := ["_law_state_here", "_law_many", "_law_cells", "_law_value", "_law_mixed"]
theorem sc__law_draw : FnScope n__law_draw ["_law_state_here", "_law_many"] (defScope s__law_draw) := ⟨rfl, rfl, rfl, by decide +kernel, rfl, by decide +kernel, by decide +kernel⟩
/- slots: 0 _law_state_here, 1 _law_many, 2 _law_cells, 3 _law_value, 4 _law_mixed -/
theorem ok__law_draw (B : Bt mg) (h : Has K mg "_law_draw" s__law_draw ["_law_state_here", "_law_many"]) : Ok P w K mg base (k + 1) "_law_draw" ["_law_state_here", "_law_many"] spDraw := by
  refine h.ok sc__law_draw (fun vs H Q E h => ?_) (fun f0 cdv A outer s H vs Q E hr h => ?_)
  · obtain ⟨_, _, _, rfl, _⟩ := h; rfl
  obtain ⟨st, c, m, rfl, g, hm0, hm1, q⟩ := h
  obtain ⟨hne, ⟨sd, e1, s0, s1⟩, ⟨ns, e2, hnn, hnl⟩⟩ := id g
  refine ⟨_, (pss_cons (ps_set (i := 2) sc__law_draw.nd rfl (Or.inl rfl) (pe_ix ix_list (pv 0) pe_int (fun _ _ => rfl)))
    (pss_cons (ps_while PassesOwn.never (PW.pt (pw_and (pt_cmpR op_gt (pe_callB call_len_seq (by rfl) B.len PySem.boot_len (pa_cons (pv 2) pa_nil)) pe_int (nomark _)) (pw_and1 (pt_cmpR op_eq (pe_ix ix_list (pv 2) pe_int (fun _ _ => rfl)) pe_int (nomark _))))) (pss_one (ps_expr (pe_bm PySem.F.plainAttrs_list PySem.F.slot_list_pop PySem.F.type_list_pop mt_popAtS (pv 2) (pa_cons pe_int pa_nil)))))
    (pss_cons (ps_if (pt_cmpR op_gt (pe_callB call_len_seq (by rfl) B.len PySem.boot_len (pa_cons (pv 2) pa_nil)) pe_int (nomark _)) (pss_cons (ps_set (i := 3) sc__law_draw.nd rfl (Or.inl rfl) (pe_ix ix_list (pv 2) pe_int (fun _ _ => rfl)))
    (pss_cons (ps_asg (pe_op op_fdivW (pv 3) (pv 1)) (pg_sub (pv 2) pe_int set_listS))
    (pss_one (ps_ret (pe_op op_mod (pe_callTy call_int1 (by rfl) B.int (by decide +kernel) (pa_cons (pv 3) pa_nil)) (pv 1)))))) pss_nil)
    (pss_cons (ps_set (i := 4) sc__law_draw.nd rfl (Or.inl rfl) (pe_op op_mod (pe_callTy call_int1 (by rfl) B.int (by decide +kernel) (pa_cons (pe_op op_add (pe_op op_mul (pe_ix ix_list (pv 0) pe_int (fun _ _ => rfl)) pe_int) pe_int) pa_nil)) pe_int))
    (pss_cons (ps_asg (pv 4) (pg_sub (pv 0) pe_int set_listS))
    (pss_one (ps_ret (pe_op op_mod (pe_callTy call_int1 (by rfl) B.int (by decide +kernel) (pa_cons (pe_op op_fdivW (pv 4) pe_int) pa_nil)) (pv 1))))))))), ?_⟩
  refine ⟨_, rfl, _, _, _, _, rfl, rfl, SqL.of e1, at0, ?_⟩
  refine ⟨fun n σ' H' => ∃ ns : List Int, σ' = [some (.ref st), some (.int m), some (.ref c), none, none] ∧ n = ns.length ∧ Kp [st, c] H H' ∧ H' st = some (.lst [.ref c, .int sd]) ∧ H' c = some (.lst (ns.map .int)) ∧ (∀ n ∈ ns, 0 ≤ n) ∧ ns.length ≤ 1000, ⟨_, ns, rfl, rfl, Kp.refl, e1, e2, hnn, hnl⟩, ?_⟩
  rintro n σ' H' ⟨ns, rfl, rfl, k1, e1, e2, hnn, hnl⟩
  cases ns with
  | nil =>
    refine ⟨_, rfl, c, _, rfl, .inl (SqL.of e2), _, _, rfl, rfl, _, rfl, ?_⟩
    refine iteF ?_
    refine ⟨_, rfl, c, _, rfl, .inl (SqL.of e2), _, _, rfl, rfl, _, rfl, ?_⟩
    refine iteF ?_
    refine ⟨_, rfl, _, _, _, _, rfl, rfl, SqL.of e1, at1, _, _, rfl, rfl, .inr ⟨by decide, by decide⟩, _, _, rfl, rfl, .inl ⟨_, rfl, _, _, rfl, rfl, (by decide : (0 : Int) < 2147483647), ?_⟩⟩
    refine ⟨_, rfl, _, rfl, st, _, 1, rfl, rfl, e1, Nat.lt_succ_self 1, fun H2 k2 e3 => ?_⟩
    refine ⟨_, rfl, _, _, rfl, rfl, ⟨by decide, by decide⟩, .inl ⟨_, rfl, _, rfl, _, _, rfl, rfl, hm0, ?_⟩⟩
    refine q _ _ (Int.emod_nonneg _ (by omega)) (Int.emod_lt_of_pos _ hm0) (k1.trans (k2.more (by simp))) ⟨hne, ⟨_, e3, Int.emod_nonneg _ (by decide), ?_⟩, ⟨[], k2 _ _ (by simpa using fun e => hne e.symm) e2, hnn, hnl⟩⟩
    have := Int.emod_lt_of_pos (sd * 48271 + 12345) (show (0 : Int) < 2147483647 by decide)
    omega
  | cons n ns =>
    have hn0 := hnn n (by simp)
    refine ⟨_, rfl, c, _, rfl, .inl (SqL.of e2), _, _, rfl, rfl, _, rfl, ?_⟩
    rw [decide_eq_true (by first | (simp; done) | (simp; omega))]
    refine iteT ⟨_, rfl, _, _, _, _, rfl, rfl, SqL.of e2, at0, rfl, _, rfl, ?_⟩
    by_cases hz : n = 0
    · subst hz
      refine ifE rfl ⟨_, fun _ _ h => h, ?_⟩
      refine ⟨_, rfl, .inl ⟨rfl, _, SqL.of e2⟩, c, _, 0, _, rfl, rfl, e2, by simpa using hnl, rfl, fun H2 k2 e3 => ?_⟩
      exact ⟨ns.length, by simp, ns, rfl, rfl, k1.trans (k2.more (by simp)), k2 _ _ (by simpa using hne) e1, e3, fun m hm => hnn m (List.mem_cons_of_mem _ hm), by simp at hnl; omega⟩
    · refine ifN (fun e => hz (V.int.inj e)) ?_
      refine ⟨_, rfl, c, _, rfl, .inl (SqL.of e2), _, _, rfl, rfl, _, rfl, ?_⟩
      rw [decide_eq_true (by first | (simp; done) | (simp; omega))]
      refine iteT ⟨_, rfl, _, _, _, _, rfl, rfl, SqL.of e2, at0, ?_⟩
      refine ⟨_, rfl, _, rfl, _, _, rfl, rfl, ⟨hm0, ?_⟩, _, rfl, c, _, 0, rfl, rfl, e2, by simp, fun H2 k2 e3 => ?_⟩
      · have h1 : m.natAbs < 2 ^ 40 := by omega
        by_cases hz : m.natAbs = 0
        · rw [hz]; decide
        · exact Nat.lt_of_lt_of_le ((Nat.log2_lt hz).mpr h1) (by decide)
      refine ⟨_, rfl, .inl ⟨_, rfl, _, rfl, _, _, rfl, rfl, hm0, ?_⟩⟩
      refine q _ _ (Int.emod_nonneg _ (by omega)) (Int.emod_lt_of_pos _ hm0) (k1.trans (k2.more (by simp))) ⟨hne, ⟨_, k2 _ _ (by simpa using hne) e1, s0, s1⟩, ⟨(n / m) :: ns, e3, fun x hx => ?_, by simpa using hnl⟩⟩
      rcases List.mem_cons.mp hx with rfl | hx
      · exact Int.ediv_nonneg hn0 (by omega)
      · exact hnn x (List.mem_cons_of_mem _ hx)
abbrev s__law_pick : Stmt := top 59
abbrev n__law_pick : List Str := ["_law_state_here", "_law_row"]
theorem sc__law_pick : FnScope n__law_pick ["_law_state_here", "_law_row"] (defScope s__law_pick) := ⟨rfl, rfl, rfl, by decide +kernel, rfl, by decide +kernel, by decide +kernel⟩
/- slots: 0 _law_state_here, 1 _law_row -/
theorem ok__law_pick (B : Bt mg) (h : Has K mg "_law_pick" s__law_pick ["_law_state_here", "_law_row"]) (c1 : Ok P w K mg base k "_law_draw" ["_law_state_here", "_law_many"] spDraw) : Ok P w K mg base (k + 1) "_law_pick" ["_law_state_here", "_law_row"] spPick := by
  obtain ⟨_, _, G__law_draw, m__law_draw, k__law_draw, b__law_draw⟩ := c1.ex
  refine h.ok sc__law_pick (fun vs H Q E h => ?_) (fun f0 cdv A outer s H vs Q E hr h => ?_)
  · obtain ⟨_, _, _, _, rfl, _⟩ := h; rfl
  obtain ⟨st, c, a, xs, rfl, g, ha, hac, hx, hl, q⟩ := h
  refine ⟨_, (pss_one (ps_ret (pe_ix ix_list (pv 1) (pe_call G__law_draw hr (by rfl) m__law_draw k__law_draw b__law_draw .nil pass0 (pa_cons (pv 0) (pa_cons (pe_callB call_len_seq (by rfl) B.len PySem.boot_len (pa_cons (pv 1) pa_nil)) pa_nil))) (fun _ _ => rfl)))), ?_⟩
  have hp : 0 < xs.length := List.length_pos_iff.mpr hx
  refine ⟨_, rfl, _, rfl, _, rfl, a, _, rfl, .inl (SqL.of ha), st, c, _, rfl, g, by omega, by omega, fun n H1 h0 h1 k1 g1 => ?_⟩
  obtain ⟨i, rfl⟩ := Int.eq_ofNat_of_zero_le h0
  have hi : i < xs.length := by omega
  exact ⟨_, _, _, _, rfl, rfl, SqL.of (k1 _ _ hac ha), atI_nat (List.getElem?_eq_getElem hi), q i _ _ (List.getElem?_eq_getElem hi) k1 g1⟩
end
end WP
namespace WP
open PySem PySem.Spec PyProof.Rows L2 TL
local macro_rules | `(tactic| walk_at "len") => `(tactic| (show _ ≤ sizeLine; rw [sizeLine_eq]; (try simp only [al, lit_len]); (try simp) <;> omega))
local macro_rules | `(tactic| walk_at "lt") => `(tactic| (show _ < sizeLine; rw [sizeLine_eq]; (try simp only [List.length_map, List.length_append, List.length_cons, List.length_nil, List.length_take]); omega))
local macro_rules | `(tactic| walk_at "le") => `(tactic| (show _ ≤ sizeLine; rw [sizeLine_eq]; (try simp only [List.length_map, List.length_append, List.length_cons, List.length_nil, List.length_take]); omega))
local macro_rules | `(tactic| walk_at "now") => `(tactic| first | assumption | (refine (by assumption : Same _ _) _ _ ?_; walk_at "now"))
local macro_rules | `(tactic| walk_at "at") => `(tactic| first | exact at0 | exact at1 | exact at2 | exact at3 | exact at4 | exact at5 | exact at6 | exact at7 | exact at8)
local macro_rules | `(tactic| walk_at "v") => `(tactic| refine ⟨_, rfl, ?_⟩)
local macro_rules | `(tactic| walk_at "ix") => `(tactic| refine ⟨_, _, _, _, rfl, rfl, SqT.of (by walk_at "now"), (by walk_at "at"), ?_⟩)
local macro_rules | `(tactic| walk_at "ixl") => `(tactic| refine ⟨_, _, _, _, rfl, rfl, SqL.of (by walk_at "now"), (by walk_at "at"), ?_⟩)
local macro_rules | `(tactic| walk_at "str") => `(tactic| refine ⟨_, _, rfl, rfl, (by walk_at "len"), ?_⟩)
local macro_rules | `(tactic| walk_at "int") => `(tactic| refine ⟨_, _, rfl, rfl, ?_⟩)
local macro_rules | `(tactic| walk_at "eq") => `(tactic| refine ⟨rfl, _, rfl, ?_⟩)
local macro_rules | `(tactic| walk_at "app") => `(tactic| refine ⟨_, _, _, rfl, rfl, (by walk_at "now"), (by walk_at "lt"), ?_⟩)
local macro_rules | `(tactic| walk_at "ext") => `(tactic| refine ⟨_, _, _, _, rfl, rfl, (by walk_at "now"), (by walk_at "now"), (by walk_at "le"), ?_⟩)
local macro_rules | `(tactic| walk_at "cat") => `(tactic| refine ⟨_, _, _, _, rfl, rfl, (by walk_at "now"), (by walk_at "now"), (by walk_at "le"), ?_⟩)
local macro_rules | `(tactic| walk_at "num") => `(tactic| refine ⟨(by assumption : Nu _), ?_⟩)
local macro_rules | `(tactic| walk_at "ty") => `(tactic| refine ⟨Or.inl ⟨rfl, _, SqL.of (by walk_at "now")⟩, ?_⟩)
local macro_rules | `(tactic| walk_at "un2") => `(tactic| refine ⟨_, _, rfl, SqT.of (by walk_at "now"), rfl, _, _, rfl, _, _, rfl, rfl, ?_⟩)
local macro_rules | `(tactic| walk_at "un3") => `(tactic| refine ⟨_, _, rfl, SqT.of (by walk_at "now"), rfl, _, _, rfl, _, _, rfl, _, _, rfl, rfl, ?_⟩)
local macro_rules | `(tactic| walk_at "un4") => `(tactic| refine ⟨_, _, rfl, SqT.of (by walk_at "now"), rfl, _, _, rfl, _, _, rfl, _, _, rfl, _, _, rfl, rfl, ?_⟩)
local macro_rules | `(tactic| walk_at "un6") => `(tactic| refine ⟨_, _, rfl, SqT.of (by walk_at "now"), rfl, _, _, rfl, _, _, rfl, _, _, rfl, _, _, rfl, _, _, rfl, _, _, rfl, rfl, ?_⟩)
local macro_rules | `(tactic| walk_at "un9") => `(tactic| refine ⟨_, _, rfl, SqT.of (by walk_at "now"), rfl, _, _, rfl, _, _, rfl, _, _, rfl, _, _, rfl, _, _, rfl, _, _, rfl, _, _, rfl, _, _, rfl, _, _, rfl, rfl, ?_⟩)
local macro_rules | `(tactic| walk_at "go") => `(tactic| repeat (first | walk_at "v" | walk_at "eq" | walk_at "ix" | walk_at "str" | walk_at "ty" | walk_at "num"))

def LET : Str := "abcdefghijklmnopqrstuvwxyzABCDEFGHIJKLMNOPQRSTUVWXYZ"
theorem LET_ok : (tl LET).length = 52 ∧ ∀ c ∈ tl LET, isLet c = true := by decide +kernel
def SUF : List Str := ["a", "Z", "_", "q"]
theorem SUF_ok : ∀ s ∈ SUF, ∃ c, tl s = [c] ∧ isRun c = true := by
  have : ∀ s ∈ SUF, (match tl s with | [c] => isRun c | _ => false) = true := by decide +kernel
  intro s hs
  have h := this s hs
  match e : tl s, h with
  | [c], h => exact ⟨c, rfl, h⟩
/-- a name under way -/
structure Nb (s : Str) (n : Nat) : Prop where
  hd : ∃ c r, tl s = c :: r ∧ isLet c = true
  run : ∀ c ∈ tl s, isRun c = true
  len : s.length ≤ n
theorem Nb.add {s t : Str} {n m : Nat} (h : Nb s n) (k : ∀ c ∈ tl t, isRun c = true) (l : t.length ≤ m) : Nb (s ++ t) (n + m) := by
  obtain ⟨⟨c, r, e, hc⟩, h2, h3⟩ := h
  refine ⟨⟨c, r ++ tl t, by rw [tl_append, e]; rfl, hc⟩, fun d hd => ?_, by rw [al]; omega⟩
  rw [tl_append, List.mem_append] at hd
  rcases hd with hd | hd
  · exact h2 d hd
  · exact k d hd
theorem RES_nodig : ∀ s ∈ RES, ∀ c ∈ tl s, isDig c = false := by decide +kernel
theorem Nb.nm {s : Str} {c : Nat} (h : Nb s 16) (hc : c ∈ tl s) (hd : isDig c = true) : Nm s :=
  ⟨h.hd, h.run, h.len, fun hr => by rw [RES_nodig s hr c hc] at hd; cases hd⟩
theorem sI_dig {k : Int} (h0 : 0 ≤ k) (h1 : k ≤ 999) : (∃ c r, tl (sI k) = c :: r ∧ isDig c = true) ∧ (∀ c ∈ tl (sI k), isRun c = true) ∧ (sI k).length ≤ 3 := by
  obtain ⟨n, rfl⟩ := Int.eq_ofNat_of_zero_le h0
  have e : tl (sI ((n : Nat) : Int)) = numL n := tl_num n
  rw [len_tl, e]
  refine ⟨?_, fun c hc => dig_run (numL_dig hc), numL_len (by decide) (by show n < 1000; omega)⟩
  cases e2 : numL n with
  | nil => exact absurd e2 (numL_ne n)
  | cons c r => exact ⟨c, r, rfl, numL_dig (by rw [e2]; simp)⟩
def spName : Sp := fun vs H Q _ => ∃ st c k, vs = [.ref st, .int k] ∧ Gs st c H ∧ 0 ≤ k ∧ k ≤ 999 ∧ ∀ nm H', Nm nm → Kp [st, c] H H' → Gs st c H' → Q (.str nm) H'
section
variable {P : Program} {w : World} {K : PySem.W.Frag} {mg : Str → Option Value} {base : Heap} {k : Nat}
abbrev s__law_name : Stmt := top 60
abbrev n__law_name : List Str := ["_law_state_here", "_law_k", "_law_letters", "_law_name_here", "_law_j"]
theorem sc__law_name : FnScope n__law_name ["_law_state_here", "_law_k"] (defScope s__law_name) := ⟨rfl, rfl, rfl, by decide +kernel, rfl, by decide +kernel, by decide +kernel⟩
/- slots: 0 _law_state_here, 1 _law_k, 2 _law_letters, 3 _law_name_here, 4 _law_j -/
theorem ok__law_name (B : Bt mg) (h : Has K mg "_law_name" s__law_name ["_law_state_here", "_law_k"]) (c1 : Ok P w K mg base k "_law_draw" ["_law_state_here", "_law_many"] spDraw) (c2 : Ok P w K mg base k "_law_pick" ["_law_state_here", "_law_row"] spPick) : Ok P w K mg base (k + 1) "_law_name" ["_law_state_here", "_law_k"] spName := by
  obtain ⟨_, _, G__law_draw, m__law_draw, k__law_draw, b__law_draw⟩ := c1.ex
  obtain ⟨_, _, G__law_pick, m__law_pick, k__law_pick, b__law_pick⟩ := c2.ex
  refine h.ok sc__law_name (fun vs H Q E h => ?_) (fun f0 cdv A outer s H vs Q E hr h => ?_)
  · obtain ⟨_, _, _, rfl, _⟩ := h; rfl
  obtain ⟨st, c, kk, rfl, g, hk0, hk1, q⟩ := h
  refine ⟨_, (pss_cons (ps_set (i := 2) sc__law_name.nd rfl (Or.inl rfl) pe_str)
    (pss_cons (ps_set (i := 3) sc__law_name.nd rfl (Or.inl rfl) (pe_ix ix_str (pv 2) (pe_call G__law_draw hr (by rfl) m__law_draw k__law_draw b__law_draw .nil pass0 (pa_cons (pv 0) (pa_cons pe_int pa_nil))) (fun _ _ => rfl)))
    (pss_cons (ps_for PassesOwn.never rfl (pi_range1 (by rfl) B.range (pa_cons (pe_call G__law_draw hr (by rfl) m__law_draw k__law_draw b__law_draw .nil pass0 (pa_cons (pv 0) (pa_cons pe_int pa_nil))) pa_nil)) (pg_name (i := 4) sc__law_name.nd rfl (Or.inl rfl)) (pss_one (ps_set (i := 3) sc__law_name.nd rfl (Or.inl rfl) (pe_op op_add_str (pv 3) (pe_call G__law_pick hr (by rfl) m__law_pick k__law_pick b__law_pick .nil pass0 (pa_cons (pv 0) (pa_cons (pe_lstS (pa_cons pe_str (pa_cons pe_str (pa_cons pe_str (pa_cons pe_str pa_nil))))) pa_nil)))))))
    (pss_cons (ps_set (i := 3) sc__law_name.nd rfl (Or.inl rfl) (pe_op op_add_str (pv 3) (pe_callTy call_str_intS (by rfl) B.str (by decide +kernel) (pa_cons (pv 1) pa_nil))))
    (pss_cons (ps_for PassesOwn.never rfl (pi_range1 (by rfl) B.range (pa_cons (pe_call G__law_draw hr (by rfl) m__law_draw k__law_draw b__law_draw .nil pass0 (pa_cons (pv 0) (pa_cons pe_int pa_nil))) pa_nil)) (pg_name (i := 4) sc__law_name.nd rfl (Or.inl rfl)) (pss_one (ps_set (i := 3) sc__law_name.nd rfl (Or.inl rfl) (pe_op op_add_str (pv 3) (pe_call G__law_pick hr (by rfl) m__law_pick k__law_pick b__law_pick .nil pass0 (pa_cons (pv 0) (pa_cons (pe_lstS (pa_cons pe_str (pa_cons pe_str (pa_cons pe_str (pa_cons pe_str pa_nil))))) pa_nil)))))))
    (pss_one (ps_ret (pv 3)))))))), ?_⟩
  refine ⟨_, rfl, _, rfl, st, c, 52, rfl, g, by decide, by decide, fun n H1 n0 n1 k1 g1 => ?_⟩
  obtain ⟨i, rfl⟩ := Int.eq_ofNat_of_zero_le n0
  have hi : i < (tl LET).length := by rw [LET_ok.1]; omega
  refine ⟨LET, _, (tl LET)[i], rfl, rfl, by decide +kernel, atI_nat (List.getElem?_eq_getElem hi), ?_⟩
  have hb0 : Nb ⟨#[(tl LET)[i]]⟩ 1 := ⟨⟨_, [], rfl, LET_ok.2 _ (List.getElem_mem hi)⟩, fun d hd => by
    have : d = (tl LET)[i] := by simpa [tl] using hd
    rw [this]; exact let_run (LET_ok.2 _ (List.getElem_mem hi)), Nat.le_refl _⟩
  generalize (⟨#[(tl LET)[i]]⟩ : Str) = nm0 at hb0
  refine ⟨_, rfl, st, c, 7, rfl, g1, by decide, by decide, fun n H2 n0 n1 k2 g2 => ⟨_, rfl, by omega, by omega, ?_⟩⟩
  have kL : ∀ (y : Option V) (H3 : Hp) (nm : Str) (j : Nat), Gs st c H3 → Nb nm j → j ≤ 15 → ∀ D : Ends, (∀ (nm' : Str) (H4 : Hp), Kp [st, c] H3 H4 → Gs st c H4 → Nb nm' (j + 1) → (∀ d ∈ tl nm, d ∈ tl nm') → D.nx [some (.ref st), some (.int kk), some (.str LET), some (.str nm'), y] H4) →
      tAsg (tOp (fun x y H Q => ∃ i j, x = .str i ∧ y = .str j ∧ i.length + j.length ≤ sizeLine ∧ Q (.str (i ++ j)) H) (tVar 3) (tCall spPick [] E0 (tCons (tVar 0) (tCons (tLstS (tCons (tC (.str "a")) (tCons (tC (.str "Z")) (tCons (tC (.str "_")) (tCons (tC (.str "q")) tNil))))) tNil)))) (gName 3) D [some (.ref st), some (.int kk), some (.str LET), some (.str nm), y] H3 := by
    intro y H3 nm j g3 hb hj D hD
    refine ⟨_, rfl, _, rfl, by walk_at "le", fun p H4 hp s4 e4 => ⟨st, c, p, _, rfl, g3.same s4, e4, g3.nin hp, by simp, by simp, fun i x H5 hx k5 g5 => ?_⟩⟩
    obtain ⟨sx, hsx, hat⟩ := (AtL.strs (H := H5) (ss := SUF)).getM hx
    obtain rfl := hat.str_inv
    obtain ⟨d, ed, hd⟩ := SUF_ok sx (List.mem_of_getElem? hsx)
    have hl : sx.length = 1 := by rw [len_tl, ed]; rfl
    have h2 := hb.len
    refine ⟨_, _, rfl, rfl, sz (by omega), hD _ _ ((Kp.same s4).trans k5) g5 (hb.add (fun e he => ?_) (by omega)) fun e he => by rw [tl_append]; exact List.mem_append_left _ he⟩
    rw [ed] at he
    rw [List.mem_singleton.mp he]; exact hd
  refine for_range (fun j σ' H' => ∃ nm y, σ' = [some (.ref st), some (.int kk), some (.str LET), some (.str nm), y] ∧ Nb nm (1 + j) ∧ Kp [st, c] H H' ∧ Gs st c H') ⟨_, _, rfl, hb0, k1.trans k2, g2⟩ ?_ ?_
  · rintro j σ' H' hj ⟨nm, y, rfl, hb, k3, g3⟩
    exact kL _ H' nm (1 + j) g3 hb (by omega) _ fun nm' H4 k4 g4 hb' _ => ⟨_, _, rfl, hb', k3.trans k4, g4⟩
  rintro σ' H3 ⟨nm, y, rfl, hb, k3, g3⟩
  obtain ⟨⟨cd, rd, ed, hd⟩, hrun, hlen⟩ := sI_dig hk0 hk1
  have h2 := hb.len
  have hb2 := hb.add hrun hlen
  have hcd : cd ∈ tl (nm ++ sI kk) := by rw [tl_append, ed]; simp
  refine ⟨_, rfl, _, rfl, _, rfl, ⟨hk0, by omega⟩, _, _, rfl, rfl, sz (by omega), ?_⟩
  refine ⟨_, rfl, st, c, 7, rfl, g3, by decide, by decide, fun n4 H4 n40 n41 k4 g4 => ⟨_, rfl, by omega, by omega, ?_⟩⟩
  refine for_range (fun j σ' H' => ∃ nm y, σ' = [some (.ref st), some (.int kk), some (.str LET), some (.str nm), y] ∧ Nb nm (1 + n.toNat + 3 + j) ∧ cd ∈ tl nm ∧ Kp [st, c] H H' ∧ Gs st c H') ⟨_, _, rfl, hb2, hcd, k3.trans k4, g4⟩ ?_ ?_
  · rintro j σ' H' hj ⟨nm, y, rfl, hb, hcd, k3, g3⟩
    exact kL _ H' nm (1 + n.toNat + 3 + j) g3 hb (by omega) _ fun nm' H4 k4 g4 hb' hc' => ⟨_, _, rfl, hb', hc' _ hcd, k3.trans k4, g4⟩
  rintro σ' H5 ⟨nm, y, rfl, hb, hcd, k5, g5⟩
  refine ⟨_, rfl, q nm H5 (Nb.nm ⟨hb.hd, hb.run, by have := hb.len; omega⟩ hcd hd) k5 g5⟩
end
end WP
namespace WP
open PySem PySem.Spec PyProof.Rows L2 TL
local macro_rules | `(tactic| walk_at "len") => `(tactic| (show _ ≤ sizeLine; rw [sizeLine_eq]; (try simp only [al, lit_len]); (try simp) <;> omega))
local macro_rules | `(tactic| walk_at "lt") => `(tactic| (show _ < sizeLine; rw [sizeLine_eq]; (try simp only [List.length_map, List.length_append, List.length_cons, List.length_nil, List.length_take]); omega))
local macro_rules | `(tactic| walk_at "le") => `(tactic| (show _ ≤ sizeLine; rw [sizeLine_eq]; (try simp only [List.length_map, List.length_append, List.length_cons, List.length_nil, List.length_take]); omega))
local macro_rules | `(tactic| walk_at "now") => `(tactic| first | assumption | (refine (by assumption : Same _ _) _ _ ?_; walk_at "now"))
local macro_rules | `(tactic| walk_at "at") => `(tactic| first | exact at0 | exact at1 | exact at2 | exact at3 | exact at4 | exact at5 | exact at6 | exact at7 | exact at8)
local macro_rules | `(tactic| walk_at "v") => `(tactic| refine ⟨_, rfl, ?_⟩)
local macro_rules | `(tactic| walk_at "ix") => `(tactic| refine ⟨_, _, _, _, rfl, rfl, SqT.of (by walk_at "now"), (by walk_at "at"), ?_⟩)
local macro_rules | `(tactic| walk_at "ixl") => `(tactic| refine ⟨_, _, _, _, rfl, rfl, SqL.of (by walk_at "now"), (by walk_at "at"), ?_⟩)
local macro_rules | `(tactic| walk_at "str") => `(tactic| refine ⟨_, _, rfl, rfl, (by walk_at "len"), ?_⟩)
local macro_rules | `(tactic| walk_at "int") => `(tactic| refine ⟨_, _, rfl, rfl, ?_⟩)
local macro_rules | `(tactic| walk_at "eq") => `(tactic| refine ⟨rfl, _, rfl, ?_⟩)
local macro_rules | `(tactic| walk_at "app") => `(tactic| refine ⟨_, _, _, rfl, rfl, (by walk_at "now"), (by walk_at "lt"), ?_⟩)
local macro_rules | `(tactic| walk_at "ext") => `(tactic| refine ⟨_, _, _, _, rfl, rfl, (by walk_at "now"), (by walk_at "now"), (by walk_at "le"), ?_⟩)
local macro_rules | `(tactic| walk_at "cat") => `(tactic| refine ⟨_, _, _, _, rfl, rfl, (by walk_at "now"), (by walk_at "now"), (by walk_at "le"), ?_⟩)
local macro_rules | `(tactic| walk_at "num") => `(tactic| refine ⟨(by assumption : Nu _), ?_⟩)
local macro_rules | `(tactic| walk_at "ty") => `(tactic| refine ⟨Or.inl ⟨rfl, _, SqL.of (by walk_at "now")⟩, ?_⟩)
local macro_rules | `(tactic| walk_at "un2") => `(tactic| refine ⟨_, _, rfl, SqT.of (by walk_at "now"), rfl, _, _, rfl, _, _, rfl, rfl, ?_⟩)
local macro_rules | `(tactic| walk_at "un3") => `(tactic| refine ⟨_, _, rfl, SqT.of (by walk_at "now"), rfl, _, _, rfl, _, _, rfl, _, _, rfl, rfl, ?_⟩)
local macro_rules | `(tactic| walk_at "un4") => `(tactic| refine ⟨_, _, rfl, SqT.of (by walk_at "now"), rfl, _, _, rfl, _, _, rfl, _, _, rfl, _, _, rfl, rfl, ?_⟩)
local macro_rules | `(tactic| walk_at "un6") => `(tactic| refine ⟨_, _, rfl, SqT.of (by walk_at "now"), rfl, _, _, rfl, _, _, rfl, _, _, rfl, _, _, rfl, _, _, rfl, _, _, rfl, rfl, ?_⟩)
local macro_rules | `(tactic| walk_at "un9") => `(tactic| refine ⟨_, _, rfl, SqT.of (by walk_at "now"), rfl, _, _, rfl, _, _, rfl, _, _, rfl, _, _, rfl, _, _, rfl, _, _, rfl, _, _, rfl, _, _, rfl, _, _, rfl, rfl, ?_⟩)
local macro_rules | `(tactic| walk_at "go") => `(tactic| repeat (first | walk_at "v" | walk_at "eq" | walk_at "ix" | walk_at "str" | walk_at "ty" | walk_at "num"))

/-! ### a list under way, beside what changes (M) -/
structure GB (M : List Addr) (L : Addr) (Hi H : Hp) (ds : List PyData) : Prop where
  fr : Hi L = none
  mm : ∀ b ∈ M, Hi b ≠ none
  kp : Kp M Hi H
  dm : Dm Hi H
  vs : ∃ vs, H L = some (.lst vs) ∧ AtL (Out [L] (Nw Hi H)) vs ds
theorem Gs.mm {st c : Addr} {H : Hp} (g : Gs st c H) : ∀ b ∈ [st, c], H b ≠ none := fun b hb e => g.nin e hb
theorem Kp.dm {M : List Addr} {H H' : Hp} (k : Kp M H H') (h : ∀ b ∈ M, H' b ≠ none) : Dm H H' := fun b e => k.free e fun z => h b z e
theorem Gs.dm {st c : Addr} {H H' : Hp} (g : Gs st c H') (k : Kp [st, c] H H') : Dm H H' := k.dm g.mm
section
variable {M : List Addr} {L : Addr} {Hi H H2 : Hp} {ds : List PyData} {v : V} {d : PyData} {Q : VK}
theorem GB.start (m : ∀ b ∈ M, Hi b ≠ none) (h : Hi L = none) (s : Same Hi H) (e : H L = some (.lst [])) : GB M L Hi H [] :=
  ⟨h, m, Kp.same s, Same.dm s, [], e, .nil⟩
theorem GB.nM (h : GB M L Hi H ds) : L ∉ M := fun z => h.mm _ z h.fr
theorem GB.go (h : GB M L Hi H ds) (k : Kp M H H2) (dm : Dm H H2) : GB M L Hi H2 ds := by
  obtain ⟨vs, e, a⟩ := h.vs
  exact ⟨h.fr, h.mm, h.kp.trans k, h.dm.trans dm, vs, k _ _ h.nM e, AtL.mono (out_mono (nw1 k h.mm)) a⟩
theorem GB.same (h : GB M L Hi H ds) (s : Same H H2) : GB M L Hi H2 ds := h.go (Kp.same s) (Same.dm s)
theorem GB.ap (h : GB M L Hi H ds) (k : Kp M H H2) (dm : Dm H H2) (hv : At (Nw H H2) v d) (hl : ds.length ≤ 1000000) : ∃ vs, H2 L = some (.lst vs) ∧ vs.length < sizeLine ∧ ∀ H3, Kp [L] H2 H3 → H3 L = some (.lst (vs ++ [v])) → GB M L Hi H3 (ds ++ [d]) := by
  obtain ⟨vs0, e0, _⟩ := id h.vs
  have h2 := h.go k dm
  obtain ⟨vs, e, a⟩ := id h2.vs
  refine ⟨vs, e, szl (by have := a.len; omega), fun H3 k3 e3 => ⟨h.fr, h.mm, fun c o n hc => ?_, fun c hc => ?_, _, e3, ?_⟩⟩
  · refine k3 c o (fun z => ?_) (h2.kp c o n hc)
    have : c = L := by simpa using z
    rw [this, h.fr] at hc; cases hc
  · refine h2.dm c (k3.free hc fun z => ?_)
    have : c = L := by simpa using z
    rw [this, e3] at hc; cases hc
  · have m : Same (Out [L] (Nw Hi H2)) (Out [L] (Nw Hi H3)) := fun c o hc => by
      obtain ⟨n, hc⟩ := out_some hc
      obtain ⟨c1, c2⟩ := nw_some hc
      rw [out_of n]
      exact nw_of c1 (k3 c o n c2)
    have m2 : Same (Nw H H2) (Out [L] (Nw Hi H3)) := fun c o hc => by
      obtain ⟨c1, c2⟩ := nw_some hc
      have n : c ∉ [L] := fun z => by
        have : c = L := by simpa using z
        rw [this, e0] at c1; cases c1
      rw [out_of n]
      exact nw_of (h.dm c c1) (k3 c o n c2)
    exact (AtL.mono m a).snoc (At.mono m2 hv)
theorem GB.at (h : GB M L Hi H ds) : At (Nw Hi H) (.ref L) (.list ds) := by
  obtain ⟨vs, e, a⟩ := h.vs
  exact .lst (nw_of h.fr e) (AtL.mono out_le a)
theorem GB.ty {K : PySem.W.Frag} (h : GB M L Hi H ds) : tyV K "list" (.ref L) H := by
  obtain ⟨vs, e, _⟩ := h.vs
  exact Or.inl ⟨rfl, _, SqL.of e⟩
theorem GB.len (h : GB M L Hi H ds) : ∃ vs, H L = some (.lst vs) ∧ vs.length = ds.length := by
  obtain ⟨vs, e, a⟩ := h.vs
  exact ⟨vs, e, a.len⟩
end
theorem Gs.ap {st c L : Addr} {H H' : Hp} (g : Gs st c H) (n : L ∉ [st, c]) (k : Kp [L] H H') : Gs st c H' := by
  obtain ⟨ne, ⟨x, h1, h2, h3⟩, ⟨ns, h4, h5⟩⟩ := g
  refine ⟨ne, ⟨x, k _ _ (fun z => n ?_) h1, h2, h3⟩, ⟨ns, k _ _ (fun z => n ?_) h4, h5⟩⟩
  · rw [List.mem_singleton.mp z]; simp
  · rw [List.mem_singleton.mp z]; simp
/-! ### parts of the law's programs -/
def wGP (p : Par) : Prop := Nm p.1 ∧ 1 ≤ p.2 ∧ p.2 ≤ 32
theorem wGP.par {p : Par} (h : wGP p) : wPar p := ⟨h.1, by have := h.2; omega, by have := h.2; omega⟩
def spFields : Sp := fun vs H Q _ => ∃ st c bits, vs = [.ref st, .int bits] ∧ Gs st c H ∧ 1 ≤ bits ∧ bits ≤ 128 ∧ ∀ v H' l, Kp [st, c] H H' → Gs st c H' → At (Nw H H') v (.list (List.map ePar l)) → (∀ p ∈ l, wGP p) → (l.length : Int) ≤ bits → Q v H'
def WID : List Int := [1, 2, 3, 4, 8, 8, 16, 32]
theorem WID_ok : ∀ w ∈ WID, 1 ≤ w ∧ w ≤ 32 := by decide
section
variable {P : Program} {w : World} {K : PySem.W.Frag} {mg : Str → Option Value} {base : Heap} {k : Nat}
abbrev s__law_fields : Stmt := top 61
abbrev n__law_fields : List Str := ["_law_state_here", "_law_bits", "_law_fields_here", "_law_left", "_law_width"]
theorem sc__law_fields : FnScope n__law_fields ["_law_state_here", "_law_bits"] (defScope s__law_fields) := ⟨rfl, rfl, rfl, by decide +kernel, rfl, by decide +kernel, by decide +kernel⟩
/- slots: 0 _law_state_here, 1 _law_bits, 2 _law_fields_here, 3 _law_left, 4 _law_width -/
theorem ok__law_fields (B : Bt mg) (h : Has K mg "_law_fields" s__law_fields ["_law_state_here", "_law_bits"]) (c1 : Ok P w K mg base k "_law_pick" ["_law_state_here", "_law_row"] spPick) (c2 : Ok P w K mg base k "_law_name" ["_law_state_here", "_law_k"] spName) : Ok P w K mg base (k + 1) "_law_fields" ["_law_state_here", "_law_bits"] spFields := by
  obtain ⟨_, _, G__law_pick, m__law_pick, k__law_pick, b__law_pick⟩ := c1.ex
  obtain ⟨_, _, G__law_name, m__law_name, k__law_name, b__law_name⟩ := c2.ex
  refine h.ok sc__law_fields (fun vs H Q E h => ?_) (fun f0 cdv A outer s H vs Q E hr h => ?_)
  · obtain ⟨_, _, _, rfl, _⟩ := h; rfl
  obtain ⟨st, c, bits, rfl, g, hb0, hb1, q⟩ := h
  refine ⟨_, (pss_cons (ps_set (i := 2) sc__law_fields.nd rfl (Or.inl rfl) (pe_lstS pa_nil))
    (pss_cons (ps_set (i := 3) sc__law_fields.nd rfl (Or.inl rfl) (pv 1))
    (pss_cons (ps_while PassesOwn.never (pt_cmpR op_gt (pv 3) pe_int (nomark _)) (pss_cons (ps_set (i := 4) sc__law_fields.nd rfl (Or.inl rfl) (pe_callB (call_min2 rfl) (by rfl) B.min (by decide +kernel) (pa_cons (pv 3) (pa_cons (pe_call G__law_pick hr (by rfl) m__law_pick k__law_pick b__law_pick .nil pass0 (pa_cons (pv 0) (pa_cons (pe_lstS (pa_cons pe_int (pa_cons pe_int (pa_cons pe_int (pa_cons pe_int (pa_cons pe_int (pa_cons pe_int (pa_cons pe_int (pa_cons pe_int pa_nil))))))))) pa_nil))) pa_nil))))
    (Evl.pss_cut (ps_if (pt_cmpR op_eq (pe_callB call_len_seq (by rfl) B.len PySem.boot_len (pa_cons (pv 2) pa_nil)) pe_int (nomark _)) (pss_one (ps_set (i := 4) sc__law_fields.nd rfl (Or.inl rfl) (pe_callB (call_min2 rfl) (by rfl) B.min (by decide +kernel) (pa_cons pe_int (pa_cons (pv 3) pa_nil))))) pss_nil)
    (pss_cons (ps_expr (pe_bm PySem.F.plainAttrs_list PySem.F.slot_list_append PySem.F.type_list_append mt_appendS (pv 2) (pa_cons (pe_tupS (pa_cons (pe_call G__law_name hr (by rfl) m__law_name k__law_name b__law_name .nil pass0 (pa_cons (pv 0) (pa_cons (pe_callB call_len_seq (by rfl) B.len PySem.boot_len (pa_cons (pv 2) pa_nil)) pa_nil))) (pa_cons (pv 4) pa_nil))) pa_nil)))
    (pss_one (ps_set (i := 3) sc__law_fields.nd rfl (Or.inl rfl) (pe_op op_sub (pv 3) (pv 4))))))))
    (pss_one (ps_ret (pv 2)))))), ?_⟩
  refine ⟨by walk_at "le", fun L H1 hL s1 e1 => ⟨_, rfl, ?_⟩⟩
  have lb1 := GB.start g.mm hL s1 e1
  have nL := g.nin hL
  refine ⟨fun m σ' H' => ∃ (l : List Par) (left : Int) (y : Option V), σ' = [some (.ref st), some (.int bits), some (.ref L), some (.int left), y] ∧ m = left.toNat ∧ 0 ≤ left ∧ (l.length : Int) + left ≤ bits ∧ GB [st, c] L H H' (l.map ePar) ∧ Gs st c H' ∧ ∀ p ∈ l, wGP p,
    ⟨_, [], bits, _, rfl, rfl, by omega, by simp, lb1, g.same s1, by simp⟩, ?_⟩
  rintro m σ' H2 ⟨l, left, y, rfl, rfl, hl0, hlb, lb, g2, hw⟩
  refine ⟨_, rfl, _, _, rfl, rfl, _, rfl, ?_⟩
  by_cases hpos : 0 < left
  · rw [decide_eq_true hpos]
    refine ⟨_, fun _ _ h => h, ?_⟩
    refine ⟨_, rfl, _, rfl, by walk_at "le", fun p H3 hp s3 e3 => ⟨st, c, p, _, rfl, g2.same s3, e3, g2.nin hp, by simp, by simp, fun i x H4 hx k4 g4 => ?_⟩⟩
    obtain ⟨wd, hwd, hat⟩ := (AtL.ints (H := H4) (ns := WID)).getM hx
    obtain rfl := hat.int_inv
    have hwok := WID_ok wd (List.mem_of_getElem? hwd)
    refine ⟨_, _, rfl, ?_⟩
    have k24 := (Kp.same s3).trans k4
    have lb4 := lb.go k24 (g4.dm k24)
    have mid : ∀ (wd : Int), 1 ≤ wd → wd ≤ 32 → wd ≤ left → ∀ D : Ends, (∀ H8 nm, GB [st, c] L H H8 ((l ++ [(nm, wd)]).map ePar) → Gs st c H8 → Nm nm → D.nx [some (.ref st), some (.int bits), some (.ref L), some (.int (left - wd)), some (.int wd)] H8) →
        tSeq (tDrop (tBM K "list" rAppendS (tVar 2) (tCons (tTupS (tCons (tCall spName [] E0 (tCons (tVar 0) (tCons (tCB (fun xs H Q => ∃ p ys, xs = [.ref p] ∧ (SqL K H p ys ∨ SqT K H p ys) ∧ Q (.int ys.length) H) (tCons (tVar 2) tNil)) tNil))) (tCons (tVar 4) tNil))) tNil))) (tAsg (tOp (rI0 fun i j => .int (i - j)) (tVar 3) (tVar 4)) (gName 3)) D [some (.ref st), some (.int bits), some (.ref L), some (.int left), some (.int wd)] H4 := by
      intro wd h1 h2 h3 D hD
      obtain ⟨us, eu, hus⟩ := lb4.len
      rw [List.length_map] at hus
      refine ⟨_, rfl, lb4.ty, _, rfl, _, rfl, L, us, rfl, .inl (SqL.of eu), st, c, _, rfl, g4, by omega, by omega, fun nm H5 hnm k5 g5 => ⟨_, rfl, by walk_at "le", fun p H6 hp s6 e6 => ?_⟩⟩
      obtain ⟨us, e, hlt, go⟩ := lb4.ap (d := ePar (nm, wd)) (k5.trans (Kp.same s6)) ((g5.dm k5).trans (Same.dm s6)) (at_tup (g5.dm k5) hp e6 (.cons (.str _) (.cons (.int _) .nil))) (by rw [List.length_map]; omega)
      refine ⟨_, _, _, rfl, rfl, e, hlt, fun H7 k7 e7 => ?_⟩
      refine ⟨_, rfl, _, rfl, _, _, rfl, rfl, ?_⟩
      refine hD H7 nm ?_ ((g5.same s6).ap nL k7) hnm
      rw [List.map_append]
      exact go H7 k7 e7
    have fin : ∀ wd H8 nm, 1 ≤ wd → wd ≤ 32 → wd ≤ left → GB [st, c] L H H8 ((l ++ [(nm, wd)]).map ePar) → Gs st c H8 → Nm nm → ∃ m', m' < left.toNat ∧ ∃ (l : List Par) (left' : Int) (y : Option V), ([some (.ref st), some (.int bits), some (.ref L), some (.int (left - wd)), some (.int wd)] : L2.St) = [some (.ref st), some (.int bits), some (.ref L), some (.int left'), y] ∧ m' = left'.toNat ∧ 0 ≤ left' ∧ (l.length : Int) + left' ≤ bits ∧ GB [st, c] L H H8 (l.map ePar) ∧ Gs st c H8 ∧ ∀ p ∈ l, wGP p := by
      intro wd H8 nm h1 h2 h3 hg g8 hnm
      refine ⟨(left - wd).toNat, by omega, l ++ [(nm, wd)], left - wd, _, rfl, rfl, by omega, by simp; omega, hg, g8, fun p hp => ?_⟩
      rcases List.mem_append.mp hp with hp | hp
      · exact hw p hp
      · rw [List.mem_singleton.mp hp]; exact ⟨hnm, h1, h2⟩
    refine ⟨fun σ' H5 => ∃ wd : Int, 1 ≤ wd ∧ wd ≤ 32 ∧ wd ≤ left ∧ σ' = [some (.ref st), some (.int bits), some (.ref L), some (.int left), some (.int wd)] ∧ H5 = H4, ?_, ?_⟩
    · obtain ⟨us, eu, hus⟩ := lb4.len
      refine ⟨_, rfl, L, us, rfl, .inl (SqL.of eu), rfl, _, rfl, ?_⟩
      by_cases h7 : (V.int (us.length : Int)) = V.int 7
      · refine ifE h7 ⟨_, rfl, _, _, rfl, ?_⟩
        exact ⟨_, by split <;> omega, by split <;> omega, by split <;> omega, rfl, rfl⟩
      · refine ifN h7 ⟨_, by split <;> omega, by split <;> omega, by split <;> omega, rfl, rfl⟩
    rintro σ' H5 ⟨wd, h1, h2, h3, rfl, rfl⟩
    exact mid wd h1 h2 h3 _ fun H8 nm hg g8 hnm => fin wd H8 nm h1 h2 h3 hg g8 hnm
  · rw [decide_eq_false hpos]
    refine ⟨_, rfl, q _ _ l lb.kp g2 lb.at hw (by omega)⟩
end
end WP
namespace WP
open PySem PySem.Spec PyProof.Rows L2 TL
local macro_rules | `(tactic| walk_at "len") => `(tactic| (show _ ≤ sizeLine; rw [sizeLine_eq]; (try simp only [al, lit_len]); (try simp) <;> omega))
local macro_rules | `(tactic| walk_at "lt") => `(tactic| (show _ < sizeLine; rw [sizeLine_eq]; (try simp only [List.length_map, List.length_append, List.length_cons, List.length_nil, List.length_take]); omega))
local macro_rules | `(tactic| walk_at "le") => `(tactic| (show _ ≤ sizeLine; rw [sizeLine_eq]; (try simp only [List.length_map, List.length_append, List.length_cons, List.length_nil, List.length_take]); omega))
local macro_rules | `(tactic| walk_at "now") => `(tactic| first | assumption | (refine (by assumption : Same _ _) _ _ ?_; walk_at "now"))
local macro_rules | `(tactic| walk_at "at") => `(tactic| first | exact at0 | exact at1 | exact at2 | exact at3 | exact at4 | exact at5 | exact at6 | exact at7 | exact at8)
local macro_rules | `(tactic| walk_at "v") => `(tactic| refine ⟨_, rfl, ?_⟩)
local macro_rules | `(tactic| walk_at "ix") => `(tactic| refine ⟨_, _, _, _, rfl, rfl, SqT.of (by walk_at "now"), (by walk_at "at"), ?_⟩)
local macro_rules | `(tactic| walk_at "ixl") => `(tactic| refine ⟨_, _, _, _, rfl, rfl, SqL.of (by walk_at "now"), (by walk_at "at"), ?_⟩)
local macro_rules | `(tactic| walk_at "str") => `(tactic| refine ⟨_, _, rfl, rfl, (by walk_at "len"), ?_⟩)
local macro_rules | `(tactic| walk_at "int") => `(tactic| refine ⟨_, _, rfl, rfl, ?_⟩)
local macro_rules | `(tactic| walk_at "eq") => `(tactic| refine ⟨rfl, _, rfl, ?_⟩)
local macro_rules | `(tactic| walk_at "app") => `(tactic| refine ⟨_, _, _, rfl, rfl, (by walk_at "now"), (by walk_at "lt"), ?_⟩)
local macro_rules | `(tactic| walk_at "ext") => `(tactic| refine ⟨_, _, _, _, rfl, rfl, (by walk_at "now"), (by walk_at "now"), (by walk_at "le"), ?_⟩)
local macro_rules | `(tactic| walk_at "cat") => `(tactic| refine ⟨_, _, _, _, rfl, rfl, (by walk_at "now"), (by walk_at "now"), (by walk_at "le"), ?_⟩)
local macro_rules | `(tactic| walk_at "num") => `(tactic| refine ⟨(by assumption : Nu _), ?_⟩)
local macro_rules | `(tactic| walk_at "ty") => `(tactic| refine ⟨Or.inl ⟨rfl, _, SqL.of (by walk_at "now")⟩, ?_⟩)
local macro_rules | `(tactic| walk_at "un2") => `(tactic| refine ⟨_, _, rfl, SqT.of (by walk_at "now"), rfl, _, _, rfl, _, _, rfl, rfl, ?_⟩)
local macro_rules | `(tactic| walk_at "un3") => `(tactic| refine ⟨_, _, rfl, SqT.of (by walk_at "now"), rfl, _, _, rfl, _, _, rfl, _, _, rfl, rfl, ?_⟩)
local macro_rules | `(tactic| walk_at "un4") => `(tactic| refine ⟨_, _, rfl, SqT.of (by walk_at "now"), rfl, _, _, rfl, _, _, rfl, _, _, rfl, _, _, rfl, rfl, ?_⟩)
local macro_rules | `(tactic| walk_at "un6") => `(tactic| refine ⟨_, _, rfl, SqT.of (by walk_at "now"), rfl, _, _, rfl, _, _, rfl, _, _, rfl, _, _, rfl, _, _, rfl, _, _, rfl, rfl, ?_⟩)
local macro_rules | `(tactic| walk_at "un9") => `(tactic| refine ⟨_, _, rfl, SqT.of (by walk_at "now"), rfl, _, _, rfl, _, _, rfl, _, _, rfl, _, _, rfl, _, _, rfl, _, _, rfl, _, _, rfl, _, _, rfl, _, _, rfl, rfl, ?_⟩)
local macro_rules | `(tactic| walk_at "go") => `(tactic| repeat (first | walk_at "v" | walk_at "eq" | walk_at "ix" | walk_at "str" | walk_at "ty" | walk_at "num"))

def wGH (h : Hdr) : Prop := Nm h.1 ∧ h.2.length ≤ 8 ∧ ∀ p ∈ h.2, wGP p
def spHeaders : Sp := fun vs H Q _ => ∃ st c, vs = [.ref st] ∧ Gs st c H ∧ ∀ v H' l, Kp [st, c] H H' → Gs st c H' → At (Nw H H') v (.list (List.map eHdr l)) → 1 ≤ l.length → l.length ≤ 6 → (∀ h ∈ l, wGH h) → Q v H'
abbrev Ref := Str × Str × Int
def eRef (r : Ref) : PyData := .tuple [.str r.1, .str r.2.1, .int r.2.2]
def wRef (r : Ref) : Prop := wFld (r.1, r.2.1) ∧ 1 ≤ r.2.2 ∧ r.2.2 ≤ 32
def rfPort : Ref := ("packet", "port", 3)
theorem port_nm : Nm "port" := ⟨⟨112, [111, 114, 116], by decide +kernel, by decide⟩, by decide +kernel, by decide +kernel, by decide +kernel⟩
theorem rfPort_ok : wRef rfPort := ⟨⟨.inr (.inl rfl), port_nm⟩, by decide, by decide⟩
def rfHdr (h : Hdr) : List Ref := h.2.map fun p => (h.1, p.1, p.2)
def rfAll (hs : List Hdr) (me : List Par) : List Ref := rfPort :: (hs.map rfHdr).flatten ++ me.map fun p => (("meta" : Str), p.1, p.2)
section
variable {P : Program} {w : World} {K : PySem.W.Frag} {mg : Str → Option Value} {base : Heap} {k : Nat}
abbrev s__law_headers : Stmt := top 62
abbrev n__law_headers : List Str := ["_law_state_here", "_law_headers_here", "_law_k", "_law_bits", "_law_fields_here"]
theorem sc__law_headers : FnScope n__law_headers ["_law_state_here"] (defScope s__law_headers) := ⟨rfl, rfl, rfl, by decide +kernel, rfl, by decide +kernel, by decide +kernel⟩
/- slots: 0 _law_state_here, 1 _law_headers_here, 2 _law_k, 3 _law_bits, 4 _law_fields_here -/
theorem ok__law_headers (B : Bt mg) (h : Has K mg "_law_headers" s__law_headers ["_law_state_here"]) (c1 : Ok P w K mg base k "_law_draw" ["_law_state_here", "_law_many"] spDraw) (c2 : Ok P w K mg base k "_law_pick" ["_law_state_here", "_law_row"] spPick) (c3 : Ok P w K mg base k "_law_name" ["_law_state_here", "_law_k"] spName)
    (c4 : Ok P w K mg base k "_law_fields" ["_law_state_here", "_law_bits"] spFields) : Ok P w K mg base (k + 1) "_law_headers" ["_law_state_here"] spHeaders := by
  obtain ⟨_, _, G__law_draw, m__law_draw, k__law_draw, b__law_draw⟩ := c1.ex
  obtain ⟨_, _, G__law_pick, m__law_pick, k__law_pick, b__law_pick⟩ := c2.ex
  obtain ⟨_, _, G__law_name, m__law_name, k__law_name, b__law_name⟩ := c3.ex
  obtain ⟨_, _, G__law_fields, m__law_fields, k__law_fields, b__law_fields⟩ := c4.ex
  refine h.ok sc__law_headers (fun vs H Q E h => ?_) (fun f0 cdv A outer s H vs Q E hr h => ?_)
  · obtain ⟨_, _, rfl, _⟩ := h; rfl
  obtain ⟨st, c, rfl, g, q⟩ := h
  refine ⟨_, (pss_cons (ps_set (i := 1) sc__law_headers.nd rfl (Or.inl rfl) (pe_lstS pa_nil))
    (pss_cons (ps_for PassesOwn.never rfl (pi_range1 (by rfl) B.range (pa_cons (pe_op op_add pe_int (pe_call G__law_draw hr (by rfl) m__law_draw k__law_draw b__law_draw .nil pass0 (pa_cons (pv 0) (pa_cons (pe_call G__law_pick hr (by rfl) m__law_pick k__law_pick b__law_pick .nil pass0 (pa_cons (pv 0) (pa_cons (pe_lstS (pa_cons pe_int (pa_cons pe_int (pa_cons pe_int (pa_cons pe_int pa_nil))))) pa_nil))) pa_nil)))) pa_nil)) (pg_name (i := 2) sc__law_headers.nd rfl (Or.inl rfl)) (pss_cons (ps_set (i := 3) sc__law_headers.nd rfl (Or.inl rfl) (pe_op op_mul pe_int (pe_op op_add pe_int (pe_call G__law_draw hr (by rfl) m__law_draw k__law_draw b__law_draw .nil pass0 (pa_cons (pv 0) (pa_cons pe_int pa_nil))))))
    (Evl.pss_cut (ps_if (pt_cmpR op_eq (pe_call G__law_draw hr (by rfl) m__law_draw k__law_draw b__law_draw .nil pass0 (pa_cons (pv 0) (pa_cons pe_int pa_nil))) pe_int (nomark _)) (pss_one (ps_set (i := 3) sc__law_headers.nd rfl (Or.inl rfl) pe_int)) pss_nil)
    (pss_cons (ps_set (i := 4) sc__law_headers.nd rfl (Or.inl rfl) (pe_call G__law_fields hr (by rfl) m__law_fields k__law_fields b__law_fields .nil pass0 (pa_cons (pv 0) (pa_cons (pv 3) pa_nil))))
    (pss_cons (ps_while PassesOwn.never (pt_cmpR op_gt (pe_callB call_len_seq (by rfl) B.len PySem.boot_len (pa_cons (pv 4) pa_nil)) pe_int (nomark _)) (pss_one (ps_set (i := 4) sc__law_headers.nd rfl (Or.inl rfl) (pe_call G__law_fields hr (by rfl) m__law_fields k__law_fields b__law_fields .nil pass0 (pa_cons (pv 0) (pa_cons pe_int pa_nil))))))
    (pss_one (ps_expr (pe_bm PySem.F.plainAttrs_list PySem.F.slot_list_append PySem.F.type_list_append mt_appendS (pv 1) (pa_cons (pe_tupS (pa_cons pe_str (pa_cons (pe_call G__law_name hr (by rfl) m__law_name k__law_name b__law_name .nil pass0 (pa_cons (pv 0) (pa_cons (pv 2) pa_nil))) (pa_cons (pv 4) pa_nil)))) pa_nil)))))))))
    (pss_one (ps_ret (pv 1))))), ?_⟩
  refine ⟨by walk_at "le", fun L H1 hL s1 e1 => ?_⟩
  have lb1 := GB.start g.mm hL s1 e1
  have nL := g.nin hL
  have g1 := g.same s1
  refine ⟨_, rfl, _, rfl, by walk_at "le", fun p H2 hp s2 e2 => ⟨st, c, p, _, rfl, g1.same s2, e2, g1.nin hp, by simp, by simp, fun i x H3 hx k3 g3 => ?_⟩⟩
  obtain ⟨mx, hmx, hat⟩ := (AtL.ints (H := H3) (ns := [3, 3, 3, 6])).getM hx
  obtain rfl := hat.int_inv
  have hmx2 : ∀ w ∈ ([3, 3, 3, 6] : List Int), 3 ≤ w ∧ w ≤ 6 := by decide
  have hmx3 := hmx2 mx (List.mem_of_getElem? hmx)
  refine ⟨st, c, mx, rfl, g3, by omega, by omega, fun n H4 n0 n1 k4 g4 => ⟨_, _, rfl, rfl, _, rfl, by omega, by omega, ?_⟩⟩
  have k14 := ((Kp.same s2).trans k3).trans k4
  have lb4 := lb1.go k14 (g4.dm k14)
  refine for_range (fun j σ' H' => ∃ (l : List Hdr) (x y z : Option V), σ' = [some (.ref st), some (.ref L), x, y, z] ∧ l.length = j ∧ GB [st, c] L H H' (l.map eHdr) ∧ Gs st c H' ∧ ∀ h ∈ l, wGH h) ⟨[], _, _, _, rfl, rfl, lb4, g4, by simp⟩ ?_ ?_
  · rintro j σ' H5 hj ⟨l, x, y, z, rfl, hlj, lb, g5, hw⟩
    refine ⟨_, rfl, st, c, 3, rfl, g5, by decide, by decide, fun n6 H6 n60 n61 k6 g6 => ⟨_, _, rfl, rfl, _, _, rfl, rfl, .inl ⟨by decide, by decide⟩, ?_⟩⟩
    refine ⟨fun σ' H' => ∃ bits : Int, 1 ≤ bits ∧ bits ≤ 128 ∧ σ' = [some (.ref st), some (.ref L), some (.int (0 + (j : Int))), some (.int bits), z] ∧ Kp [st, c] H6 H' ∧ Gs st c H', ?_, ?_⟩
    · refine ⟨_, rfl, st, c, 12, rfl, g6, by decide, by decide, fun n7 H7 n70 n71 k7 g7 => ⟨rfl, _, rfl, ?_⟩⟩
      by_cases h0 : V.int n7 = V.int 0
      · exact ifE h0 ⟨128, by decide, by decide, rfl, k7, g7⟩
      · exact ifN h0 ⟨8 * (1 + n6), by omega, by omega, rfl, k7, g7⟩
    rintro σ' H7 ⟨bits, hb0, hb1, rfl, k7, g7⟩
    refine ⟨_, rfl, _, rfl, st, c, bits, rfl, g7, hb0, hb1, fun v8 H8 l8 k8 g8 h8 w8 b8 => ?_⟩
    have k58 := (k6.trans k7).trans k8
    refine ⟨fun m σ' H' => ∃ v l', σ' = [some (.ref st), some (.ref L), some (.int (0 + (j : Int))), some (.int bits), some v] ∧ m = (if 8 < l'.length then 1 else 0) ∧ Kp [st, c] H5 H' ∧ Gs st c H' ∧ At (Nw H5 H') v (.list (List.map ePar l')) ∧ ∀ p ∈ l', wGP p, ⟨_, v8, l8, rfl, rfl, k58, g8, h8.mono (nw0 (g7.dm (k6.trans k7))), w8⟩, ?_⟩
    rintro m σ' H9 ⟨v, l', rfl, rfl, k9, g9, h9, w9⟩
    obtain ⟨a, xs, rfl, ha, hxs⟩ := h9.lst_inv
    have hlen : xs.length = l'.length := by rw [hxs.len, List.length_map]
    have ha' := (nw_some ha).2
    refine ⟨_, rfl, a, xs, rfl, .inl (SqL.of ha'), _, _, rfl, rfl, _, rfl, ?_⟩
    by_cases h8' : 8 < l'.length
    · rw [decide_eq_true (by omega)]
      refine ⟨_, fun _ _ h => h, ?_⟩
      refine ⟨_, rfl, st, c, 8, rfl, g9, by decide, by decide, fun v10 H10 l10 k10 g10 h10 w10 b10 => ?_⟩
      refine ⟨0, by rw [if_pos h8']; decide, v10, l10, rfl, by rw [if_neg (by omega)], k9.trans k10, g10, h10.mono (nw0 (g9.dm k9)), w10⟩
    · rw [decide_eq_false (by omega)]
      have lb9 := lb.go k9 (g9.dm k9)
      refine ⟨_, rfl, lb9.ty, _, rfl, _, rfl, st, c, _, rfl, g9, by omega, by omega, fun nm H10 hnm k10 g10 => ⟨_, rfl, by walk_at "le", fun p H11 hp s11 e11 => ?_⟩⟩
      have kk := k9.trans k10
      have i1 := ((h9.mono (nw1 k10 g5.mm)).mono (nws s11))
      obtain ⟨us, e, hlt, go⟩ := lb.ap (d := eHdr (nm, l')) (kk.trans (Kp.same s11)) ((g10.dm kk).trans (Same.dm s11)) (at_tup (g10.dm kk) hp e11 (.cons (.str _) (.cons (.str _) (.cons i1 .nil)))) (by rw [List.length_map]; omega)
      refine ⟨_, _, _, rfl, rfl, e, hlt, fun H12 k12 e12 => ?_⟩
      refine ⟨l ++ [(nm, l')], _, _, _, rfl, by simp [hlj], ?_, (g10.same s11).ap nL k12, fun h hh => ?_⟩
      · rw [List.map_append]
        exact go H12 k12 e12
      · rcases List.mem_append.mp hh with hh | hh
        · exact hw h hh
        · rw [List.mem_singleton.mp hh]; exact ⟨hnm, Nat.le_of_not_lt h8', w9⟩
  · rintro σ' H5 ⟨l, x, y, z, rfl, hlj, lb, g5, hw⟩
    exact ⟨_, rfl, q _ _ l lb.kp g5 lb.at (by omega) (by omega) hw⟩
end
end WP
namespace WP
open PySem PySem.Spec PyProof.Rows L2 TL
local macro_rules | `(tactic| walk_at "len") => `(tactic| (show _ ≤ sizeLine; rw [sizeLine_eq]; (try simp only [al, lit_len]); (try simp) <;> omega))
local macro_rules | `(tactic| walk_at "lt") => `(tactic| (show _ < sizeLine; rw [sizeLine_eq]; (try simp only [List.length_map, List.length_append, List.length_cons, List.length_nil, List.length_take]); omega))
local macro_rules | `(tactic| walk_at "le") => `(tactic| (show _ ≤ sizeLine; rw [sizeLine_eq]; (try simp only [List.length_map, List.length_append, List.length_cons, List.length_nil, List.length_take]); omega))
local macro_rules | `(tactic| walk_at "now") => `(tactic| first | assumption | (refine (by assumption : Same _ _) _ _ ?_; walk_at "now"))
local macro_rules | `(tactic| walk_at "at") => `(tactic| first | exact at0 | exact at1 | exact at2 | exact at3 | exact at4 | exact at5 | exact at6 | exact at7 | exact at8)
local macro_rules | `(tactic| walk_at "v") => `(tactic| refine ⟨_, rfl, ?_⟩)
local macro_rules | `(tactic| walk_at "ix") => `(tactic| refine ⟨_, _, _, _, rfl, rfl, SqT.of (by walk_at "now"), (by walk_at "at"), ?_⟩)
local macro_rules | `(tactic| walk_at "ixl") => `(tactic| refine ⟨_, _, _, _, rfl, rfl, SqL.of (by walk_at "now"), (by walk_at "at"), ?_⟩)
local macro_rules | `(tactic| walk_at "str") => `(tactic| refine ⟨_, _, rfl, rfl, (by walk_at "len"), ?_⟩)
local macro_rules | `(tactic| walk_at "int") => `(tactic| refine ⟨_, _, rfl, rfl, ?_⟩)
local macro_rules | `(tactic| walk_at "eq") => `(tactic| refine ⟨rfl, _, rfl, ?_⟩)
local macro_rules | `(tactic| walk_at "app") => `(tactic| refine ⟨_, _, _, rfl, rfl, (by walk_at "now"), (by walk_at "lt"), ?_⟩)
local macro_rules | `(tactic| walk_at "ext") => `(tactic| refine ⟨_, _, _, _, rfl, rfl, (by walk_at "now"), (by walk_at "now"), (by walk_at "le"), ?_⟩)
local macro_rules | `(tactic| walk_at "cat") => `(tactic| refine ⟨_, _, _, _, rfl, rfl, (by walk_at "now"), (by walk_at "now"), (by walk_at "le"), ?_⟩)
local macro_rules | `(tactic| walk_at "num") => `(tactic| refine ⟨(by assumption : Nu _), ?_⟩)
local macro_rules | `(tactic| walk_at "ty") => `(tactic| refine ⟨Or.inl ⟨rfl, _, SqL.of (by walk_at "now")⟩, ?_⟩)
local macro_rules | `(tactic| walk_at "un2") => `(tactic| refine ⟨_, _, rfl, SqT.of (by walk_at "now"), rfl, _, _, rfl, _, _, rfl, rfl, ?_⟩)
local macro_rules | `(tactic| walk_at "un3") => `(tactic| refine ⟨_, _, rfl, SqT.of (by walk_at "now"), rfl, _, _, rfl, _, _, rfl, _, _, rfl, rfl, ?_⟩)
local macro_rules | `(tactic| walk_at "un4") => `(tactic| refine ⟨_, _, rfl, SqT.of (by walk_at "now"), rfl, _, _, rfl, _, _, rfl, _, _, rfl, _, _, rfl, rfl, ?_⟩)
local macro_rules | `(tactic| walk_at "un6") => `(tactic| refine ⟨_, _, rfl, SqT.of (by walk_at "now"), rfl, _, _, rfl, _, _, rfl, _, _, rfl, _, _, rfl, _, _, rfl, _, _, rfl, rfl, ?_⟩)
local macro_rules | `(tactic| walk_at "un9") => `(tactic| refine ⟨_, _, rfl, SqT.of (by walk_at "now"), rfl, _, _, rfl, _, _, rfl, _, _, rfl, _, _, rfl, _, _, rfl, _, _, rfl, _, _, rfl, _, _, rfl, _, _, rfl, rfl, ?_⟩)
local macro_rules | `(tactic| walk_at "go") => `(tactic| repeat (first | walk_at "v" | walk_at "eq" | walk_at "ix" | walk_at "str" | walk_at "ty" | walk_at "num"))

theorem lc_dat {K : PySem.W.Frag} {a : Addr} {xs : List V} {g : TG} {tt : TT} {te : TE} {vs : List Nat} {σ : L2.St} {H : Hp} {D : Addr} {R : Hp → Prop} {α : Type} (l : List α) (e f : α → PyData) (hD : H D = none) (ha : H a = some (.lst xs)) (hx : AtL H xs (l.map e)) (hz : l.length ≤ 100000)
    (hs : ∀ y x H' (C : V → Hp → Prop) (C' : Hp → Prop), y ∈ l → At H' x (e y) → Same H H' → (∀ v H4, Same H' H4 → At (Nw H' H4) v (f y) → C v H4) → g x (wipe σ vs) H' fun σ2 H2 => wipe σ2 vs = wipe σ vs ∧ tt σ2 H2 fun b H3 => if b = true then te σ2 H3 C else C' H3)
    (hd : ∀ H', Same H H' → At (Nw H H') (.ref D) (.list (l.map f)) → R H') :
    ∃ W : Nat → Nat → Hp → Prop, (∃ m, W 0 m (upd H D (.lst []))) ∧ ∀ i m H, W i m H →
      ((Itl K a).stop i H ∧ R H) ∨ ((Itl K a).go i H ∧ ∃ Nx : Hp → Prop, (∀ H', Nx H' → ∃ m', m' < m ∧ W (i + 1) m' H') ∧ ∀ x H', (Itl K a).yld i H x H' → g x (wipe σ vs) H' fun σ2 H2 => wipe σ2 vs = wipe σ vs ∧ tt σ2 H2 fun b H3 =>
        if b = true then te σ2 H3 fun y H4 => ∃ acc, H4 D = some (.lst acc) ∧ acc.length < sizeLine ∧ Nx (upd H4 D (.lst (acc ++ [y]))) else Nx H3) := by
  have hlen : xs.length = l.length := by rw [hx.len, List.length_map]
  refine lc_list (xs := xs) (fun i H' => GB [] D H H' ((l.take i).map f)) (GB.start (by simp) hD (Same.new hD) upd_same) (fun i H' _ h => SqL.of (h.kp.toSame _ _ ha)) (fun i x H' hi h => ?_) (fun H' h => ?_)
  · obtain ⟨y, hy, hat⟩ := hx.getM hi
    refine hs y x H' _ _ (List.mem_of_getElem? hy) (hat.mono h.kp.toSame) h.kp.toSame fun v H4 s4 h4 => ?_
    obtain ⟨us, eu, hlt, go⟩ := h.ap (d := f y) (Kp.same s4) (Same.dm s4) h4 (by have := (List.getElem?_eq_some_iff.mp hy).1; simp; omega)
    refine ⟨_, eu, hlt, ?_⟩
    rw [take_s hy, List.map_append]
    exact go _ (Kp.wr (by simp)) upd_same
  · refine hd H' h.kp.toSame ?_
    have := h.at
    rw [hlen, List.take_length] at this
    exact this
def spRefs : Sp := fun vs H Q _ => ∃ v1 v2 hs me, vs = [v1, v2] ∧ At H v1 (.list (List.map eHdr hs)) ∧ At H v2 (.list (List.map ePar me)) ∧ hs.length ≤ 16 ∧ (∀ h ∈ hs, h.2.length ≤ 16) ∧ me.length ≤ 16 ∧ ∀ v H', Same H H' → At (Nw H H') v (.list ((rfAll hs me).map eRef)) → Q v H'
theorem rf_len {hs : List Hdr} (h : ∀ h ∈ hs, h.2.length ≤ 16) : ((hs.map rfHdr).flatten).length ≤ 16 * hs.length := by
  induction hs with
  | nil => simp
  | cons x hs ih =>
    have h1 := h x (by simp)
    have h2 := ih fun y hy => h y (List.mem_cons_of_mem _ hy)
    simp only [List.map_cons, List.flatten_cons, List.length_append, List.length_cons, rfHdr, List.length_map]
    omega
section
variable {P : Program} {w : World} {K : PySem.W.Frag} {mg : Str → Option Value} {base : Heap} {k : Nat}
abbrev s__law_refs : Stmt := top 63
abbrev n__law_refs : List Str := ["_law_headers_here", "_law_meta", "_law_refs_here", "_law_header", "_law_name_here", "_law_width"]
theorem sc__law_refs : FnScope n__law_refs ["_law_headers_here", "_law_meta"] (defScope s__law_refs) := ⟨rfl, rfl, rfl, by decide +kernel, rfl, by decide +kernel, by decide +kernel⟩
/- slots: 0 _law_headers_here, 1 _law_meta, 2 _law_refs_here, 3 _law_header(c), 4 _law_name_here, 5 _law_width -/
theorem ok__law_refs (B : Bt mg) (h : Has K mg "_law_refs" s__law_refs ["_law_headers_here", "_law_meta"]) : Ok P w K mg base (k + 1) "_law_refs" ["_law_headers_here", "_law_meta"] spRefs := by
  refine h.ok sc__law_refs (fun vs H Q E h => ?_) (fun f0 cdv A outer s H vs Q E hr h => ?_)
  · obtain ⟨_, _, _, _, rfl, _⟩ := h; rfl
  obtain ⟨v1, v2, hs, me, rfl, hv1, hv2, l1, l2, l3, q⟩ := h
  refine ⟨_, (pss_cons (ps_set (i := 2) sc__law_refs.nd rfl (Or.inl rfl) (pe_lstS (pa_cons (pe_tupS (pa_cons pe_str (pa_cons pe_str (pa_cons pe_int pa_nil)))) pa_nil)))
    (pss_cons (ps_for PassesOwn.never rfl (pi_list (pv 0)) (pg_name (i := 3) sc__law_refs.nd rfl (Or.inr rfl)) (pss_one (ps_set (i := 2) sc__law_refs.nd rfl (Or.inl rfl) (pe_op op_catS (pv 2) (pe_lc (own := [("_law_name_here", 4), ("_law_width", 5)]) rfl sc__law_refs.nd (pi_list (pe_ix ix_tup (pv 3) pe_int (fun _ _ => rfl))) (blkOk_by (N := n__law_refs) (sc := defScope s__law_refs) (by decide +kernel)) (fun _ _ _ _ _ => (pg_tupK (K := K) (n := 2) rfl rfl (pgs_cons (pg_name (i := 4) sc__law_refs.nd rfl (Or.inl rfl) (Or.inr rfl)) (pgs_cons (pg_name (i := 5) sc__law_refs.nd rfl (Or.inl rfl) (Or.inr rfl)) pgs_nil)))) (fun _ _ _ _ _ => pts_nil) (fun _ _ _ _ _ => (pe_tupS (pa_cons (pe_ix (ix_tupK (K := K) rfl) (pv 3) pe_int (fun _ _ => rfl)) (pa_cons (pv 4) (pa_cons (pv 5) pa_nil))))))))))
    (pss_one (ps_ret (pe_op op_catS (pv 2) (pe_lc (own := [("_law_name_here", 4), ("_law_width", 5)]) rfl sc__law_refs.nd (pi_list (pv 1)) (blkOk_by (N := n__law_refs) (sc := defScope s__law_refs) (by decide +kernel)) (fun _ _ _ _ _ => (pg_tupK (K := K) (n := 2) rfl rfl (pgs_cons (pg_name (i := 4) sc__law_refs.nd rfl (Or.inl rfl) (Or.inr rfl)) (pgs_cons (pg_name (i := 5) sc__law_refs.nd rfl (Or.inl rfl) (Or.inr rfl)) pgs_nil)))) (fun _ _ _ _ _ => pts_nil) (fun _ _ _ _ _ => (pe_tupS (pa_cons pe_str (pa_cons (pv 4) (pa_cons (pv 5) pa_nil))))))))))), ?_⟩
  obtain ⟨a1, xs1, rfl, ha1, hx1⟩ := hv1.lst_inv
  obtain ⟨a2, xs2, rfl, ha2, hx2⟩ := hv2.lst_inv
  have hlen : xs1.length = hs.length := by rw [hx1.len, List.length_map]
  refine ⟨by walk_at "le", fun p H1 hp s1 e1 => ⟨by walk_at "le", fun L H2 hL s2 e2 => ?_⟩⟩
  have s12 := Same.trans s1 s2
  have h2 : At (Nw H H2) (.ref L) (.list [eRef rfPort]) := .lst (nw_of (Same.dm s1 L hL) e2) (.cons (.tup (nw_of hp (s2 _ _ e1)) (.cons (.str _) (.cons (.str _) (.cons (.int _) .nil)))) .nil)
  refine ⟨_, rfl, _, rfl, ⟨_, SqL.of (s12 _ _ ha1)⟩, for_list (K := K) (a := a1) (xs := xs1) (fun i σ' H' => ∃ (R : V) (x : Option V), σ' = [some (.ref a1), some (.ref a2), some R, x, none, none] ∧ Same H H' ∧ At (Nw H H') R (.list ((rfPort :: ((hs.take i).map rfHdr).flatten).map eRef))) ⟨_, _, rfl, s12, h2⟩ (fun i σ' H' _ ⟨_, _, _, s, _⟩ => SqL.of (s _ _ ha1)) ?_ ?_⟩
  · rintro i x σ' H3 hi ⟨R, x0, rfl, s3, hR⟩
    obtain ⟨y, hy, hat⟩ := (hx1.mono s3).getM hi
    have hil := (List.getElem?_eq_some_iff.mp hy).1
    have hym := List.mem_of_getElem? hy
    obtain ⟨b, x1, x2, x3, rfl, hb, i1, i2, i3⟩ := At.t3 hat
    obtain rfl := i1.str_inv
    obtain rfl := i2.str_inv
    obtain ⟨d, xs3, rfl, hd, hx3⟩ := i3.lst_inv
    obtain ⟨rl, xr, rfl, hrl, hxr⟩ := hR.lst_inv
    have hrl' := (nw_some hrl).2
    have lr : xr.length ≤ 300 := by
      have e1 := hxr.len
      have e2 := rf_len (hs := hs.take i) fun h hh => l2 h (List.mem_of_mem_take hh)
      rw [List.length_map, List.length_cons] at e1
      have e3 : (hs.take i).length ≤ 16 := by rw [List.length_take]; omega
      omega
    refine ⟨_, rfl, _, rfl, _, _, _, _, rfl, rfl, SqT.of hb, at2, d, rfl, ⟨_, SqL.of hd⟩, fun D hD => lc_dat y.2 ePar (fun p => eRef (y.1, p.1, p.2)) hD hd hx3 (by have := l2 y hym; omega) (fun z x H5 C C' hz hatz s5 cc => ?_) fun H5 s5 h5 => ?_⟩
    · obtain ⟨bb, z1, z2, rfl, hbb, j1, j2⟩ := At.t2 hatz
      obtain rfl := j1.str_inv
      obtain rfl := j2.int_inv
      refine ⟨_, _, rfl, SqT.of hbb, rfl, _, _, rfl, _, _, rfl, rfl, rfl, ?_⟩
      refine ⟨_, rfl, _, _, _, _, rfl, rfl, SqT.of (s5 _ _ hb), at1, _, rfl, _, rfl, by walk_at "le", fun p H6 hp s6 e6 => ?_⟩
      exact cc _ _ s6 (.tup (nw_of hp e6) (.cons (.str _) (.cons (.str _) (.cons (.int _) .nil))))
    · obtain ⟨d5, xs5, e5, hd5, hx5⟩ := h5.lst_inv
      cases e5
      have l5 := hx5.len
      rw [List.length_map] at l5
      have := l2 y hym
      refine ⟨rl, D, xr, xs5, rfl, rfl, s5 _ _ hrl', (nw_some hd5).2, by walk_at "le", fun T H6 hT s6 e6 => ?_⟩
      have d35 : Dm H H5 := (Same.dm s3).trans (Same.dm s5)
      refine ⟨_, _, rfl, (s3.trans s5).trans s6, .lst (nw_of (d35 T hT) e6) ?_⟩
      rw [take_s hy, List.map_append, List.flatten_append, ← List.cons_append, List.map_append]
      refine ((hxr.mono (nws s5)).mono (nws s6)).append ?_
      have := (hx5.mono (nw0 (Same.dm s3))).mono (nws s6)
      rw [show (List.map rfHdr [y]).flatten = rfHdr y from by simp]
      unfold rfHdr
      rw [List.map_map]
      exact this
  · rintro σ' H3 ⟨R, x, rfl, s3, hR⟩
    rw [hlen, List.take_length] at hR
    obtain ⟨rl, xr, rfl, hrl, hxr⟩ := hR.lst_inv
    have hrl' := (nw_some hrl).2
    have lr : xr.length ≤ 300 := by
      have e1 := hxr.len
      have e2 := rf_len (hs := hs) l2
      rw [List.length_map, List.length_cons] at e1
      omega
    refine ⟨_, rfl, _, rfl, _, rfl, ⟨_, SqL.of (s3 _ _ ha2)⟩, fun D hD => lc_dat me ePar (fun p => eRef ("meta", p.1, p.2)) hD (s3 _ _ ha2) (hx2.mono s3) (by omega) (fun z x H5 C C' hz hatz s5 cc => ?_) fun H5 s5 h5 => ?_⟩
    · obtain ⟨bb, z1, z2, rfl, hbb, j1, j2⟩ := At.t2 hatz
      obtain rfl := j1.str_inv
      obtain rfl := j2.int_inv
      refine ⟨_, _, rfl, SqT.of hbb, rfl, _, _, rfl, _, _, rfl, rfl, rfl, ?_⟩
      refine ⟨_, rfl, _, rfl, by walk_at "le", fun p H6 hp s6 e6 => ?_⟩
      exact cc _ _ s6 (.tup (nw_of hp e6) (.cons (.str _) (.cons (.str _) (.cons (.int _) .nil))))
    · obtain ⟨d5, xs5, e5, hd5, hx5⟩ := h5.lst_inv
      cases e5
      have l5 := hx5.len
      rw [List.length_map] at l5
      refine ⟨rl, D, xr, xs5, rfl, rfl, s5 _ _ hrl', (nw_some hd5).2, by walk_at "le", fun T H6 hT s6 e6 => ?_⟩
      have d35 : Dm H H5 := (Same.dm s3).trans (Same.dm s5)
      refine q _ _ ((s3.trans s5).trans s6) (.lst (nw_of (d35 T hT) e6) ?_)
      unfold rfAll
      rw [List.map_append]
      refine ((hxr.mono (nws s5)).mono (nws s6)).append ?_
      have := (hx5.mono (nw0 (Same.dm s3))).mono (nws s6)
      rw [List.map_map]
      exact this
end
end WP
namespace WP
open PySem PySem.Spec PyProof.Rows L2 TL
local macro_rules | `(tactic| walk_at "len") => `(tactic| (show _ ≤ sizeLine; rw [sizeLine_eq]; (try simp only [al, lit_len]); (try simp) <;> omega))
local macro_rules | `(tactic| walk_at "lt") => `(tactic| (show _ < sizeLine; rw [sizeLine_eq]; (try simp only [List.length_map, List.length_append, List.length_cons, List.length_nil, List.length_take]); omega))
local macro_rules | `(tactic| walk_at "le") => `(tactic| (show _ ≤ sizeLine; rw [sizeLine_eq]; (try simp only [List.length_map, List.length_append, List.length_cons, List.length_nil, List.length_take]); omega))
local macro_rules | `(tactic| walk_at "now") => `(tactic| first | assumption | (refine (by assumption : Same _ _) _ _ ?_; walk_at "now"))
local macro_rules | `(tactic| walk_at "at") => `(tactic| first | exact at0 | exact at1 | exact at2 | exact at3 | exact at4 | exact at5 | exact at6 | exact at7 | exact at8)
local macro_rules | `(tactic| walk_at "v") => `(tactic| refine ⟨_, rfl, ?_⟩)
local macro_rules | `(tactic| walk_at "ix") => `(tactic| refine ⟨_, _, _, _, rfl, rfl, SqT.of (by walk_at "now"), (by walk_at "at"), ?_⟩)
local macro_rules | `(tactic| walk_at "ixl") => `(tactic| refine ⟨_, _, _, _, rfl, rfl, SqL.of (by walk_at "now"), (by walk_at "at"), ?_⟩)
local macro_rules | `(tactic| walk_at "str") => `(tactic| refine ⟨_, _, rfl, rfl, (by walk_at "len"), ?_⟩)
local macro_rules | `(tactic| walk_at "int") => `(tactic| refine ⟨_, _, rfl, rfl, ?_⟩)
local macro_rules | `(tactic| walk_at "eq") => `(tactic| refine ⟨rfl, _, rfl, ?_⟩)
local macro_rules | `(tactic| walk_at "app") => `(tactic| refine ⟨_, _, _, rfl, rfl, (by walk_at "now"), (by walk_at "lt"), ?_⟩)
local macro_rules | `(tactic| walk_at "ext") => `(tactic| refine ⟨_, _, _, _, rfl, rfl, (by walk_at "now"), (by walk_at "now"), (by walk_at "le"), ?_⟩)
local macro_rules | `(tactic| walk_at "cat") => `(tactic| refine ⟨_, _, _, _, rfl, rfl, (by walk_at "now"), (by walk_at "now"), (by walk_at "le"), ?_⟩)
local macro_rules | `(tactic| walk_at "num") => `(tactic| refine ⟨(by assumption : Nu _), ?_⟩)
local macro_rules | `(tactic| walk_at "ty") => `(tactic| refine ⟨Or.inl ⟨rfl, _, SqL.of (by walk_at "now")⟩, ?_⟩)
local macro_rules | `(tactic| walk_at "un2") => `(tactic| refine ⟨_, _, rfl, SqT.of (by walk_at "now"), rfl, _, _, rfl, _, _, rfl, rfl, ?_⟩)
local macro_rules | `(tactic| walk_at "un3") => `(tactic| refine ⟨_, _, rfl, SqT.of (by walk_at "now"), rfl, _, _, rfl, _, _, rfl, _, _, rfl, rfl, ?_⟩)
local macro_rules | `(tactic| walk_at "un4") => `(tactic| refine ⟨_, _, rfl, SqT.of (by walk_at "now"), rfl, _, _, rfl, _, _, rfl, _, _, rfl, _, _, rfl, rfl, ?_⟩)
local macro_rules | `(tactic| walk_at "un6") => `(tactic| refine ⟨_, _, rfl, SqT.of (by walk_at "now"), rfl, _, _, rfl, _, _, rfl, _, _, rfl, _, _, rfl, _, _, rfl, _, _, rfl, rfl, ?_⟩)
local macro_rules | `(tactic| walk_at "un9") => `(tactic| refine ⟨_, _, rfl, SqT.of (by walk_at "now"), rfl, _, _, rfl, _, _, rfl, _, _, rfl, _, _, rfl, _, _, rfl, _, _, rfl, _, _, rfl, _, _, rfl, _, _, rfl, rfl, ?_⟩)
local macro_rules | `(tactic| walk_at "go") => `(tactic| repeat (first | walk_at "v" | walk_at "eq" | walk_at "ix" | walk_at "str" | walk_at "ty" | walk_at "num"))

theorem sh_ok {w : Int} (h0 : 1 ≤ w) (h1 : w ≤ 32) : 0 < (1 : Int) * 2 ^ w.toNat ∧ (1 : Int) * 2 ^ w.toNat ≤ 4294967296 := by
  obtain ⟨n, rfl⟩ := Int.eq_ofNat_of_zero_le (by omega : 0 ≤ w)
  rw [Int.toNat_natCast, Int.one_mul]
  have h2 : 2 ^ n ≤ 2 ^ 32 := Nat.pow_le_pow_right (by decide) (by omega)
  have h3 : 0 < 2 ^ n := Nat.pow_pos (by decide)
  have e : ((2 : Int) ^ n) = ((2 ^ n : Nat) : Int) := by simp
  rw [e]
  omega
theorem or_nu {a b : Int} (a0 : 0 ≤ a) (a1 : a ≤ 4294967295) (b0 : 0 ≤ b) (b1 : b ≤ 4294967295) : Nu (Builtin.bitOr a b) := by
  rw [bitOr_nn a0 b0]
  have h : a.toNat ||| b.toNat < 2 ^ 32 := Nat.or_lt_two_pow (by omega) (by omega)
  exact ⟨by omega, by omega⟩
def oVl : Option Int → V
  | none => .non
  | some m => .int m
theorem oVl_at {H : Hp} : ∀ (m : Option Int), At H (oVl m) (eOI m)
  | none => .non
  | some m => .int m
def spGoal : Sp := fun vs H Q _ => ∃ st c a names, vs = [.ref st, .ref a] ∧ Gs st c H ∧ H a = some (.lst (List.map V.str names)) ∧ a ∉ [st, c] ∧ names.length ≤ 1000 ∧ (∀ n ∈ names, Nm n) ∧ ∀ t H', Tgt t → Kp [st, c] H H' → Gs st c H' → Q (.str t) H'
def spSelect : Sp := fun vs H Q _ => ∃ st c R rs a names, vs = [.ref st, R, .ref a] ∧ Gs st c H ∧ At (Out [st, c] H) R (.list (List.map eRef rs)) ∧ rs ≠ [] ∧ rs.length ≤ 1000 ∧ (∀ r ∈ rs, wRef r) ∧ H a = some (.lst (List.map V.str names)) ∧ a ∉ [st, c] ∧ names.length ≤ 1000 ∧ (∀ n ∈ names, Nm n) ∧
  ∀ v H' x, wNxt x → Kp [st, c] H H' → Gs st c H' → At (Nw H H') v (eNxt x) → Q v H'
section
variable {P : Program} {w : World} {K : PySem.W.Frag} {mg : Str → Option Value} {base : Heap} {k : Nat}
abbrev s__law_goal : Stmt := top 64
abbrev n__law_goal : List Str := ["_law_state_here", "_law_names", "_law_kind"]
theorem sc__law_goal : FnScope n__law_goal ["_law_state_here", "_law_names"] (defScope s__law_goal) := ⟨rfl, rfl, rfl, by decide +kernel, rfl, by decide +kernel, by decide +kernel⟩
/- slots: 0 _law_state_here, 1 _law_names, 2 _law_kind -/
theorem ok__law_goal (B : Bt mg) (h : Has K mg "_law_goal" s__law_goal ["_law_state_here", "_law_names"]) (c1 : Ok P w K mg base k "_law_draw" ["_law_state_here", "_law_many"] spDraw) (c2 : Ok P w K mg base k "_law_pick" ["_law_state_here", "_law_row"] spPick) : Ok P w K mg base (k + 1) "_law_goal" ["_law_state_here", "_law_names"] spGoal := by
  obtain ⟨_, _, G__law_draw, m__law_draw, k__law_draw, b__law_draw⟩ := c1.ex
  obtain ⟨_, _, G__law_pick, m__law_pick, k__law_pick, b__law_pick⟩ := c2.ex
  refine h.ok sc__law_goal (fun vs H Q E h => ?_) (fun f0 cdv A outer s H vs Q E hr h => ?_)
  · obtain ⟨_, _, _, _, rfl, _⟩ := h; rfl
  obtain ⟨st, c, a, names, rfl, g, ha, hac, hl, hn, q⟩ := h
  refine ⟨_, (pss_cons (ps_set (i := 2) sc__law_goal.nd rfl (Or.inl rfl) (pe_call G__law_draw hr (by rfl) m__law_draw k__law_draw b__law_draw .nil pass0 (pa_cons (pv 0) (pa_cons pe_int pa_nil))))
    (pss_cons (ps_if (PW.pt (pw_or (pt_cmpR op_lt (pv 2) pe_int (nomark _)) (pw_or1 (pt_cmpR op_eq (pe_callB call_len_seq (by rfl) B.len PySem.boot_len (pa_cons (pv 1) pa_nil)) pe_int (nomark _))))) (pss_one (ps_ret pe_str)) pss_nil)
    (pss_cons (ps_if (pt_cmpR op_eq (pv 2) pe_int (nomark _)) (pss_one (ps_ret pe_str)) pss_nil)
    (pss_one (ps_ret (pe_call G__law_pick hr (by rfl) m__law_pick k__law_pick b__law_pick .nil pass0 (pa_cons (pv 0) (pa_cons (pv 1) pa_nil)))))))), ?_⟩
  refine ⟨_, rfl, st, c, 8, rfl, g, by decide, by decide, fun n H1 n0 n1 k1 g1 => ?_⟩
  have ha1 := k1 _ _ hac ha
  refine ⟨_, rfl, _, _, rfl, rfl, _, rfl, ?_⟩
  by_cases h3 : n < 3
  · rw [decide_eq_true h3]
    exact q _ _ (.inl rfl) k1 g1
  rw [decide_eq_false h3]
  refine iteF ⟨_, rfl, a, _, rfl, .inl (SqL.of ha1), rfl, _, rfl, ?_⟩
  by_cases h0 : (V.int ((names.map V.str).length : Int)) = V.int 0
  · exact ifE h0 (q _ _ (.inl rfl) k1 g1)
  refine ifN h0 ?_
  refine ⟨_, rfl, rfl, _, rfl, ?_⟩
  by_cases h3 : V.int n = V.int 3
  · exact ifE h3 (q _ _ (.inr (.inl rfl)) k1 g1)
  refine ifN h3 ?_
  refine ⟨_, rfl, _, rfl, st, c, a, _, rfl, g1, ha1, hac, fun e => h0 (by rw [e]; rfl), by simp; omega, fun i x H2 hx k2 g2 => ?_⟩
  obtain ⟨t, ht, hat⟩ := (AtL.strs (H := H2) (ss := names)).getM hx
  obtain rfl := hat.str_inv
  exact q _ _ (.inr (.inr (hn t (List.mem_of_getElem? ht)))) (k1.trans k2) g2
abbrev s__law_select : Stmt := top 65
abbrev n__law_select : List Str := ["_law_state_here", "_law_refs_here", "_law_names", "_law_owner", "_law_name_here", "_law_width", "_law_rows", "_law_k", "_law_value", "_law_mask"]
theorem sc__law_select : FnScope n__law_select ["_law_state_here", "_law_refs_here", "_law_names"] (defScope s__law_select) := ⟨rfl, rfl, rfl, by decide +kernel, rfl, by decide +kernel, by decide +kernel⟩
/- slots: 0 _law_state_here, 1 _law_refs_here, 2 _law_names, 3 _law_owner, 4 _law_name_here, 5 _law_width, 6 _law_rows, 7 _law_k, 8 _law_value, 9 _law_mask -/
theorem ok__law_select (B : Bt mg) (h : Has K mg "_law_select" s__law_select ["_law_state_here", "_law_refs_here", "_law_names"]) (c1 : Ok P w K mg base k "_law_draw" ["_law_state_here", "_law_many"] spDraw) (c2 : Ok P w K mg base k "_law_pick" ["_law_state_here", "_law_row"] spPick)
    (c3 : Ok P w K mg base k "_law_goal" ["_law_state_here", "_law_names"] spGoal) : Ok P w K mg base (k + 1) "_law_select" ["_law_state_here", "_law_refs_here", "_law_names"] spSelect := by
  obtain ⟨_, _, G__law_draw, m__law_draw, k__law_draw, b__law_draw⟩ := c1.ex
  obtain ⟨_, _, G__law_pick, m__law_pick, k__law_pick, b__law_pick⟩ := c2.ex
  obtain ⟨_, _, G__law_goal, m__law_goal, k__law_goal, b__law_goal⟩ := c3.ex
  refine h.ok sc__law_select (fun vs H Q E h => ?_) (fun f0 cdv A outer s H vs Q E hr h => ?_)
  · obtain ⟨_, _, _, _, _, _, rfl, _⟩ := h; rfl
  obtain ⟨st, c, R, rs, a, names, rfl, g, hR, hne, hrl, hrs, ha, hac, hl, hn, q⟩ := h
  refine ⟨_, (pss_cons (ps_asg (pe_call G__law_pick hr (by rfl) m__law_pick k__law_pick b__law_pick .nil pass0 (pa_cons (pv 0) (pa_cons (pv 1) pa_nil))) (pg_tup rfl (pgs_cons (pg_name (i := 3) sc__law_select.nd rfl (Or.inl rfl)) (pgs_cons (pg_name (i := 4) sc__law_select.nd rfl (Or.inl rfl)) (pgs_cons (pg_name (i := 5) sc__law_select.nd rfl (Or.inl rfl)) pgs_nil)))))
    (pss_cons (ps_set (i := 6) sc__law_select.nd rfl (Or.inl rfl) (pe_lstS pa_nil))
    (pss_cons (ps_for PassesOwn.never rfl (pi_range1 (by rfl) B.range (pa_cons (pe_call G__law_draw hr (by rfl) m__law_draw k__law_draw b__law_draw .nil pass0 (pa_cons (pv 0) (pa_cons (pe_call G__law_pick hr (by rfl) m__law_pick k__law_pick b__law_pick .nil pass0 (pa_cons (pv 0) (pa_cons (pe_lstS (pa_cons pe_int (pa_cons pe_int (pa_cons pe_int pa_nil)))) pa_nil))) pa_nil))) pa_nil)) (pg_name (i := 7) sc__law_select.nd rfl (Or.inl rfl)) (pss_cons (ps_set (i := 8) sc__law_select.nd rfl (Or.inl rfl) (pe_call G__law_draw hr (by rfl) m__law_draw k__law_draw b__law_draw .nil pass0 (pa_cons (pv 0) (pa_cons (pe_callB (call_min2 rfl) (by rfl) B.min (by decide +kernel) (pa_cons (pe_op op_shl pe_int (pv 5)) (pa_cons pe_int pa_nil))) pa_nil))))
    (pss_cons (ps_set (i := 9) sc__law_select.nd rfl (Or.inl rfl) pe_non)
    (Evl.pss_cut (ps_if (pt_cmpR op_eq (pe_call G__law_draw hr (by rfl) m__law_draw k__law_draw b__law_draw .nil pass0 (pa_cons (pv 0) (pa_cons pe_int pa_nil))) pe_int (nomark _)) (pss_one (ps_set (i := 9) sc__law_select.nd rfl (Or.inl rfl) (pe_op op_or (pv 8) (pe_call G__law_draw hr (by rfl) m__law_draw k__law_draw b__law_draw .nil pass0 (pa_cons (pv 0) (pa_cons (pe_op op_shl pe_int (pv 5)) pa_nil)))))) pss_nil)
    (pss_one (ps_expr (pe_bm PySem.F.plainAttrs_list PySem.F.slot_list_append PySem.F.type_list_append mt_appendS (pv 6) (pa_cons (pe_tupS (pa_cons (pv 8) (pa_cons (pv 9) (pa_cons (pe_call G__law_goal hr (by rfl) m__law_goal k__law_goal b__law_goal .nil pass0 (pa_cons (pv 0) (pa_cons (pv 2) pa_nil))) pa_nil)))) pa_nil))))))))
    (pss_one (ps_ret (pe_tupS (pa_cons pe_str (pa_cons (pe_tupS (pa_cons (pv 3) (pa_cons (pv 4) pa_nil))) (pa_cons (pv 6) (pa_cons (pe_call G__law_goal hr (by rfl) m__law_goal k__law_goal b__law_goal .nil pass0 (pa_cons (pv 0) (pa_cons (pv 2) pa_nil))) pa_nil)))))))))), ?_⟩
  obtain ⟨ra, rx, rfl, hra, hrx⟩ := hR.lst_inv
  obtain ⟨hran, hra'⟩ := out_some hra
  have rlen := hrx.len
  rw [List.length_map] at rlen
  refine ⟨_, rfl, _, rfl, st, c, ra, rx, rfl, g, hra', hran, fun e => hne (by rw [e] at rlen; exact List.eq_nil_of_length_eq_zero rlen.symm), by omega, fun i x H1 hx k1 g1 => ?_⟩
  obtain ⟨rf, hrf, hat⟩ := (hrx.mono k1.out).getM hx
  obtain ⟨⟨wo, wn⟩, w1, w2⟩ := hrs rf (List.mem_of_getElem? hrf)
  obtain ⟨ow, nm, wd⟩ := rf
  dsimp only at wo wn w1 w2
  obtain ⟨ta, x1, x2, x3, rfl, hta, i1, i2, i3⟩ := At.t3 hat
  obtain rfl := i1.str_inv
  obtain rfl := i2.str_inv
  obtain rfl := i3.int_inv
  refine ⟨_, _, rfl, SqT.of (out_some hta).2, rfl, _, _, rfl, _, _, rfl, _, _, rfl, rfl, ?_⟩
  refine ⟨by walk_at "le", fun L H2 hL s2 e2 => ?_⟩
  have lb2 := GB.start g1.mm hL s2 e2
  have nL := g1.nin hL
  have g2 := g1.same s2
  have ha2 := s2 _ _ (k1 _ _ hac ha)
  refine ⟨_, rfl, _, rfl, by walk_at "le", fun p H3 hp s3 e3 => ⟨st, c, p, _, rfl, g2.same s3, e3, g2.nin hp, by simp, by simp, fun i x H4 hx k4 g4 => ?_⟩⟩
  obtain ⟨mx, hmx, hat⟩ := (AtL.ints (H := H4) (ns := [4, 4, 9])).getM hx
  obtain rfl := hat.int_inv
  have hmx2 : ∀ w ∈ ([4, 4, 9] : List Int), 4 ≤ w ∧ w ≤ 9 := by decide
  have hmx3 := hmx2 mx (List.mem_of_getElem? hmx)
  refine ⟨st, c, mx, rfl, g4, by omega, by omega, fun n H5 n0 n1 k5 g5 => ⟨_, rfl, by omega, by omega, ?_⟩⟩
  have k25 := ((Kp.same s3).trans k4).trans k5
  have lb5 := lb2.go k25 (g5.dm k25)
  have ha5 := k25 _ _ hac ha2
  clear lb2 k25 g4 k4 g2 ha2 e3 hp s3
  obtain ⟨sh1, sh2⟩ := sh_ok w1 w2
  refine for_range (fun j σ' H' => ∃ (l : List Row) (x y z : Option V), σ' = [some (.ref st), some (.ref ra), some (.ref a), some (.str ow), some (.str nm), some (.int wd), some (.ref L), x, y, z] ∧ l.length = j ∧ GB [st, c] L H1 H' (l.map eRow) ∧ Gs st c H' ∧ H' a = some (.lst (List.map V.str names)) ∧ ∀ r ∈ l, wRow r) ⟨[], _, _, _, rfl, rfl, lb5, g5, ha5, by simp⟩ ?_ ?_
  · rintro j σ' H6 hj ⟨l, x, y, z, rfl, hlj, lb, g6, ha6, hw⟩
    refine ⟨_, rfl, _, rfl, _, _, rfl, rfl, ⟨by omega, by omega, by decide⟩, _, _, rfl, st, c, _, rfl, g6, by split <;> omega, by split <;> omega, fun v7 H7 v70 v71 k7 g7 => ?_⟩
    have v7s : v7 < 4 := by
      split at v71 <;> omega
    refine ⟨fun σ' H8 => ∃ mk : Option Int, σ' = [some (.ref st), some (.ref ra), some (.ref a), some (.str ow), some (.str nm), some (.int wd), some (.ref L), some (.int (0 + (j : Int))), some (.int v7), some (oVl mk)] ∧ (∀ m, mk = some m → Nu m) ∧ Kp [st, c] H7 H8 ∧ Gs st c H8, ?_, ?_⟩
    · refine ⟨_, rfl, st, c, 2, rfl, g7, by decide, by decide, fun n8 H8 n80 n81 k8 g8 => ⟨rfl, _, rfl, ?_⟩⟩
      by_cases h0 : V.int n8 = V.int 0
      · refine ifE h0 ⟨_, rfl, _, rfl, _, rfl, _, _, rfl, rfl, ⟨by omega, by omega, by decide⟩, st, c, _, rfl, g8, sh1, sh2, fun v9 H9 v90 v91 k9 g9 => ⟨_, _, rfl, rfl, ?_⟩⟩
        refine ⟨some _, rfl, fun m e => ?_, k8.trans k9, g9⟩
        cases e
        exact or_nu v70 (by omega) v90 (by omega)
      · exact ifN h0 ⟨none, rfl, (fun m e => by cases e), k8, g8⟩
    rintro σ' H8 ⟨mk, rfl, hmk, k8, g8⟩
    have k68 := k7.trans k8
    have lb8 := lb.go k68 (g8.dm k68)
    refine ⟨_, rfl, lb8.ty, _, rfl, _, rfl, _, rfl, _, rfl, st, c, a, names, rfl, g8, k68 _ _ hac ha6, hac, hl, hn, fun t H9 ht k9 g9 => ⟨by walk_at "le", fun p H10 hp s10 e10 => ?_⟩⟩
    obtain ⟨us, e, hlt, go⟩ := lb8.ap (d := eRow (v7, mk, t)) (k9.trans (Kp.same s10)) ((g9.dm k9).trans (Same.dm s10)) (at_tup (g9.dm k9) hp e10 (.cons (.int _) (.cons (oVl_at _) (.cons (.str _) .nil)))) (by rw [List.length_map]; omega)
    refine ⟨_, _, _, rfl, rfl, e, hlt, fun H11 k11 e11 => ?_⟩
    refine ⟨l ++ [(v7, mk, t)], _, _, _, rfl, by simp [hlj], ?_, (g9.same s10).ap nL k11, ?_, fun r hr => ?_⟩
    · rw [List.map_append]; exact go H11 k11 e11
    · refine k11 _ _ (fun z => ?_) (s10 _ _ (k9 _ _ hac (k68 _ _ hac ha6)))
      have : a = L := by simpa using z
      rw [this] at ha
      exact absurd (k1 _ _ (by simpa [this] using hac) ha) (by rw [hL]; simp)
    · rcases List.mem_append.mp hr with hr | hr
      · exact hw r hr
      · rw [List.mem_singleton.mp hr]
        exact ⟨⟨v70, by omega⟩, hmk, ht⟩
  · rintro σ' H6 ⟨l, x, y, z, rfl, hlj, lb, g6, ha6, hw⟩
    refine ⟨_, rfl, _, rfl, by walk_at "le", fun p H7 hp s7 e7 => ⟨_, rfl, _, rfl, _, rfl, st, c, a, names, rfl, g6.same s7, s7 _ _ ha6, hac, hl, hn, fun t H8 ht k8 g8 => ⟨by walk_at "le", fun tp H9 htp s9 e9 => ?_⟩⟩⟩
    have k16 := k1.trans lb.kp
    have k18 := (k16.trans (Kp.same s7)).trans k8
    have lb8 := (lb.same s7).go k8 (g8.dm k8)
    have d16 : Dm H H6 := g6.dm k16
    refine q _ _ (.sel (ow, nm) l t) ⟨⟨wo, wn⟩, ⟨by omega, hw⟩, ht⟩ (k18.trans (Kp.same s9)) (g8.same s9) (at_tup (g8.dm k18) htp e9 (.cons (.str _) (.cons ?_ (.cons ?_ (.cons (.str _) .nil)))))
    · exact ((at_tup d16 hp e7 (.cons (.str _) (.cons (.str _) .nil))).mono (nw1 k8 g.mm)).mono (nws s9)
    · exact (lb8.at.mono (nw0 (g1.dm k1))).mono (nws s9)
end
end WP
namespace WP
open PySem PySem.Spec PyProof.Rows L2 TL
local macro_rules | `(tactic| walk_at "len") => `(tactic| (show _ ≤ sizeLine; rw [sizeLine_eq]; (try simp only [al, lit_len]); (try simp) <;> omega))
local macro_rules | `(tactic| walk_at "lt") => `(tactic| (show _ < sizeLine; rw [sizeLine_eq]; (try simp only [List.length_map, List.length_append, List.length_cons, List.length_nil, List.length_take]); omega))
local macro_rules | `(tactic| walk_at "le") => `(tactic| (show _ ≤ sizeLine; rw [sizeLine_eq]; (try simp only [List.length_map, List.length_append, List.length_cons, List.length_nil, List.length_take]); omega))
local macro_rules | `(tactic| walk_at "now") => `(tactic| first | assumption | (refine (by assumption : Same _ _) _ _ ?_; walk_at "now"))
local macro_rules | `(tactic| walk_at "at") => `(tactic| first | exact at0 | exact at1 | exact at2 | exact at3 | exact at4 | exact at5 | exact at6 | exact at7 | exact at8)
local macro_rules | `(tactic| walk_at "v") => `(tactic| refine ⟨_, rfl, ?_⟩)
local macro_rules | `(tactic| walk_at "ix") => `(tactic| refine ⟨_, _, _, _, rfl, rfl, SqT.of (by walk_at "now"), (by walk_at "at"), ?_⟩)
local macro_rules | `(tactic| walk_at "ixl") => `(tactic| refine ⟨_, _, _, _, rfl, rfl, SqL.of (by walk_at "now"), (by walk_at "at"), ?_⟩)
local macro_rules | `(tactic| walk_at "str") => `(tactic| refine ⟨_, _, rfl, rfl, (by walk_at "len"), ?_⟩)
local macro_rules | `(tactic| walk_at "int") => `(tactic| refine ⟨_, _, rfl, rfl, ?_⟩)
local macro_rules | `(tactic| walk_at "eq") => `(tactic| refine ⟨rfl, _, rfl, ?_⟩)
local macro_rules | `(tactic| walk_at "app") => `(tactic| refine ⟨_, _, _, rfl, rfl, (by walk_at "now"), (by walk_at "lt"), ?_⟩)
local macro_rules | `(tactic| walk_at "ext") => `(tactic| refine ⟨_, _, _, _, rfl, rfl, (by walk_at "now"), (by walk_at "now"), (by walk_at "le"), ?_⟩)
local macro_rules | `(tactic| walk_at "cat") => `(tactic| refine ⟨_, _, _, _, rfl, rfl, (by walk_at "now"), (by walk_at "now"), (by walk_at "le"), ?_⟩)
local macro_rules | `(tactic| walk_at "num") => `(tactic| refine ⟨(by assumption : Nu _), ?_⟩)
local macro_rules | `(tactic| walk_at "ty") => `(tactic| refine ⟨Or.inl ⟨rfl, _, SqL.of (by walk_at "now")⟩, ?_⟩)
local macro_rules | `(tactic| walk_at "un2") => `(tactic| refine ⟨_, _, rfl, SqT.of (by walk_at "now"), rfl, _, _, rfl, _, _, rfl, rfl, ?_⟩)
local macro_rules | `(tactic| walk_at "un3") => `(tactic| refine ⟨_, _, rfl, SqT.of (by walk_at "now"), rfl, _, _, rfl, _, _, rfl, _, _, rfl, rfl, ?_⟩)
local macro_rules | `(tactic| walk_at "un4") => `(tactic| refine ⟨_, _, rfl, SqT.of (by walk_at "now"), rfl, _, _, rfl, _, _, rfl, _, _, rfl, _, _, rfl, rfl, ?_⟩)
local macro_rules | `(tactic| walk_at "un6") => `(tactic| refine ⟨_, _, rfl, SqT.of (by walk_at "now"), rfl, _, _, rfl, _, _, rfl, _, _, rfl, _, _, rfl, _, _, rfl, _, _, rfl, rfl, ?_⟩)
local macro_rules | `(tactic| walk_at "un9") => `(tactic| refine ⟨_, _, rfl, SqT.of (by walk_at "now"), rfl, _, _, rfl, _, _, rfl, _, _, rfl, _, _, rfl, _, _, rfl, _, _, rfl, _, _, rfl, _, _, rfl, _, _, rfl, rfl, ?_⟩)
local macro_rules | `(tactic| walk_at "go") => `(tactic| repeat (first | walk_at "v" | walk_at "eq" | walk_at "ix" | walk_at "str" | walk_at "ty" | walk_at "num"))

theorem cutV_from (xs : List V) (i : Nat) : cutV xs (some (i : Int)) none = xs.drop i := by
  unfold cutV
  rw [HT.sIx_none, HT.sIx_nat]
  by_cases h : i ≤ xs.length
  · rw [Nat.min_eq_left h]
    exact List.take_of_length_le (by rw [List.length_drop]; omega)
  · rw [Nat.min_eq_right (by omega), List.drop_of_length_le (Nat.le_refl _), List.drop_of_length_le (by omega), List.take_nil]
theorem cutV_to (xs : List V) (i : Nat) : cutV xs none (some (i : Int)) = xs.take i := by
  unfold cutV
  rw [HT.sIx_none, HT.sIx_nat]
  show (xs.drop 0).take (min i xs.length - 0) = _
  rw [List.drop_zero, Nat.sub_zero]
  by_cases h : i ≤ xs.length
  · rw [Nat.min_eq_left h]
  · rw [Nat.min_eq_right (by omega), List.take_of_length_le (Nat.le_refl _), List.take_of_length_le (by omega)]
section
variable {M : List Addr} {L : Addr} {Hi H H2 : Hp}
theorem lx_go (k : Kp M H H2) (mm : ∀ b ∈ M, Hi b ≠ none) : Same (Out [L] (Nw Hi H)) (Out [L] (Nw Hi H2)) := out_mono (nw1 k mm)
theorem lx_same (s : Same H H2) : Same (Out [L] (Nw Hi H)) (Out [L] (Nw Hi H2)) := out_mono (nws s)
theorem lx_ap (k : Kp [L] H H2) : Same (Out [L] (Nw Hi H)) (Out [L] (Nw Hi H2)) := fun c o hc => by
  obtain ⟨n, hc⟩ := out_some hc
  obtain ⟨c1, c2⟩ := nw_some hc
  rw [out_of n]
  exact nw_of c1 (k c o n c2)
theorem lx_new (h : H L ≠ none) (d : Dm Hi H) : Same (Nw H H2) (Out [L] (Nw Hi H2)) := fun c o hc => by
  obtain ⟨c1, c2⟩ := nw_some hc
  have n : c ∉ [L] := fun z => by
    have : c = L := by simpa using z
    exact h (this ▸ c1)
  rw [out_of n]
  exact nw_of (d c c1) c2
theorem lx_arg (mm : ∀ b ∈ M, Hi b ≠ none) : Same (Out [L] (Nw Hi H)) (Out M H) := fun c o hc => by
  obtain ⟨n, hc⟩ := out_some hc
  obtain ⟨c1, c2⟩ := nw_some hc
  rw [out_of fun z => mm c z c1]; exact c2
theorem lx_old (h : H L = none) (s : Same H H2) : Same (Nw Hi H) (Out [L] (Nw Hi H2)) := fun c o hc => by
  obtain ⟨c1, c2⟩ := nw_some hc
  have n : c ∉ [L] := fun z => by
    have : c = L := by simpa using z
    rw [this, h] at c2; cases c2
  rw [out_of n]
  exact nw_of c1 (s _ _ c2)
end
theorem GB.ne0 {M : List Addr} {L : Addr} {Hi H : Hp} {ds : List PyData} (h : GB M L Hi H ds) : H L ≠ none := fun e => by
  obtain ⟨vs, e2, _⟩ := h.vs
  rw [e2] at e; cases e
def oSt : Option Str → V
  | none => .non
  | some m => .str m
theorem oSt_at {H : Hp} : ∀ (m : Option Str), At H (oSt m) (eON m)
  | none => .non
  | some m => .str m
theorem start_nm : Nm "start" := ⟨⟨115, [116, 97, 114, 116], by decide +kernel, by decide⟩, by decide +kernel, by decide +kernel, by decide +kernel⟩
structure wGHs (hs : List Hdr) : Prop where
  one : 1 ≤ hs.length
  few : hs.length ≤ 6
  ok : ∀ h ∈ hs, wGH h
def spStates : Sp := fun vs H Q _ => ∃ st c hv hs, vs = [.ref st, hv] ∧ Gs st c H ∧ At (Out [st, c] H) hv (.list (List.map eHdr hs)) ∧ wGHs hs ∧ ∀ v H' l, Kp [st, c] H H' → Gs st c H' → At (Nw H H') v (.list (List.map eSta l)) → l.length ≤ 16 → (∀ x ∈ l, wSta x) → Q v H'
section
variable {P : Program} {w : World} {K : PySem.W.Frag} {mg : Str → Option Value} {base : Heap} {k : Nat}
abbrev s__law_states : Stmt := top 66
abbrev n__law_states : List Str := ["_law_state_here", "_law_headers_here", "_law_many", "_law_names", "_law_sure", "_law_states_here", "_law_k", "_law_refs_here", "_law_taken", "_law_following", "_law_name_here", "_law_width"]
theorem sc__law_states : FnScope n__law_states ["_law_state_here", "_law_headers_here"] (defScope s__law_states) := ⟨rfl, rfl, rfl, by decide +kernel, rfl, by decide +kernel, by decide +kernel⟩
/- slots: 0 _law_state_here(c), 1 _law_headers_here, 2 _law_many, 3 _law_names, 4 _law_sure, 5 _law_states_here, 6 _law_k, 7 _law_refs_here, 8 _law_taken(c), 9 _law_following, 10 _law_name_here, 11 _law_width -/
theorem ok__law_states (B : Bt mg) (h : Has K mg "_law_states" s__law_states ["_law_state_here", "_law_headers_here"]) (c1 : Ok P w K mg base k "_law_draw" ["_law_state_here", "_law_many"] spDraw) (c2 : Ok P w K mg base k "_law_pick" ["_law_state_here", "_law_row"] spPick)
    (c3 : Ok P w K mg base k "_law_name" ["_law_state_here", "_law_k"] spName) (c4 : Ok P w K mg base k "_law_goal" ["_law_state_here", "_law_names"] spGoal) (c5 : Ok P w K mg base k "_law_select" ["_law_state_here", "_law_refs_here", "_law_names"] spSelect) : Ok P w K mg base (k + 1) "_law_states" ["_law_state_here", "_law_headers_here"] spStates := by
  obtain ⟨_, _, G__law_draw, m__law_draw, k__law_draw, b__law_draw⟩ := c1.ex
  obtain ⟨_, _, G__law_pick, m__law_pick, k__law_pick, b__law_pick⟩ := c2.ex
  obtain ⟨_, _, G__law_name, m__law_name, k__law_name, b__law_name⟩ := c3.ex
  obtain ⟨_, _, G__law_goal, m__law_goal, k__law_goal, b__law_goal⟩ := c4.ex
  obtain ⟨_, _, G__law_select, m__law_select, k__law_select, b__law_select⟩ := c5.ex
  refine h.ok sc__law_states (fun vs H Q E h => ?_) (fun f0 cdv A outer s H vs Q E hr h => ?_)
  · obtain ⟨_, _, _, _, rfl, _⟩ := h; rfl
  obtain ⟨st, c, hv, hs, rfl, g, hhv, ⟨ho, hf, hw⟩, q⟩ := h
  refine ⟨_, (pss_cons (ps_set (i := 2) sc__law_states.nd rfl (Or.inl rfl) (pe_callB (call_min2 rfl) (by rfl) B.min (by decide +kernel) (pa_cons pe_int (pa_cons (pe_op op_add (pe_callB call_len_seq (by rfl) B.len PySem.boot_len (pa_cons (pv 1) pa_nil)) (pe_call G__law_draw hr (by rfl) m__law_draw k__law_draw b__law_draw .nil pass0 (pa_cons (pv 0) (pa_cons (pe_call G__law_pick hr (by rfl) m__law_pick k__law_pick b__law_pick .nil pass0 (pa_cons (pv 0) (pa_cons (pe_lstS (pa_cons pe_int (pa_cons pe_int (pa_cons pe_int pa_nil)))) pa_nil))) pa_nil)))) pa_nil))))
    (pss_cons (ps_set (i := 3) sc__law_states.nd rfl (Or.inl rfl) (pe_op op_catS (pe_lstS (pa_cons pe_str pa_nil)) (pe_lc (own := [("_law_k", 6)]) rfl sc__law_states.nd (pi_range2 (by rfl) B.range (pa_cons pe_int (pa_cons (pv 2) pa_nil))) (blkOk_by (N := n__law_states) (sc := defScope s__law_states) (by decide +kernel)) (fun _ _ _ _ _ => (pg_name (i := 6) sc__law_states.nd rfl (Or.inl rfl) (Or.inr rfl))) (fun _ _ _ _ _ => pts_nil) (fun _ _ _ _ _ => (pe_call G__law_name hr (by rfl) m__law_name k__law_name b__law_name .nil pass0 (pa_cons (pv 0) (pa_cons (pv 6) pa_nil)))))))
    (pss_cons (ps_set (i := 4) sc__law_states.nd rfl (Or.inl rfl) (pe_lstS (pa_cons (pe_tupS (pa_cons pe_str (pa_cons pe_str (pa_cons pe_int pa_nil)))) pa_nil)))
    (pss_cons (ps_set (i := 5) sc__law_states.nd rfl (Or.inl rfl) (pe_lstS pa_nil))
    (pss_cons (ps_for PassesOwn.never rfl (pi_range1 (by rfl) B.range (pa_cons (pv 2) pa_nil)) (pg_name (i := 6) sc__law_states.nd rfl (Or.inl rfl)) (pss_cons (ps_set (i := 7) sc__law_states.nd rfl (Or.inl rfl) (pe_callTy call_list_ofS (by rfl) B.list (by decide +kernel) (pa_cons (pv 4) pa_nil)))
    (pss_cons (ps_set (i := 8) sc__law_states.nd rfl (Or.inr rfl) pe_non)
    (Evl.pss_cut (ps_if (PW.pt (pw_and (pt_cmpR op_lt (pv 6) (pe_callB call_len_seq (by rfl) B.len PySem.boot_len (pa_cons (pv 1) pa_nil)) (nomark _)) (pw_and1 (pt_cmpR op_gt (pe_call G__law_draw hr (by rfl) m__law_draw k__law_draw b__law_draw .nil pass0 (pa_cons (pv 0) (pa_cons pe_int pa_nil))) pe_int (nomark _))))) (pss_cons (ps_set (i := 8) sc__law_states.nd rfl (Or.inr rfl) (pe_ix ix_tup (pe_ix ix_list (pv 1) (pv 6) (fun _ _ => rfl)) pe_int (fun _ _ => rfl)))
    (pss_one (ps_set (i := 7) sc__law_states.nd rfl (Or.inl rfl) (pe_op op_catS (pv 7) (pe_lc (own := [("_law_name_here", 10), ("_law_width", 11)]) rfl sc__law_states.nd (pi_list (pe_ix ix_tup (pe_ix ix_list (pv 1) (pv 6) (fun _ _ => rfl)) pe_int (fun _ _ => rfl))) (blkOk_by (N := n__law_states) (sc := defScope s__law_states) (by decide +kernel)) (fun _ _ _ _ _ => (pg_tupK (K := K) (n := 2) rfl rfl (pgs_cons (pg_name (i := 10) sc__law_states.nd rfl (Or.inl rfl) (Or.inr rfl)) (pgs_cons (pg_name (i := 11) sc__law_states.nd rfl (Or.inl rfl) (Or.inr rfl)) pgs_nil)))) (fun _ _ _ _ _ => pts_nil) (fun _ _ _ _ _ => (pe_tupS (pa_cons (pv 8) (pa_cons (pv 10) (pa_cons (pv 11) pa_nil)))))))))) pss_nil)
    (Evl.pss_cut (ps_if (pt_cmpR op_eq (pv 6) pe_int (nomark _)) (pss_one (ps_set (i := 4) sc__law_states.nd rfl (Or.inl rfl) (pv 7))) pss_nil)
    (pss_cons (ps_set (i := 9) sc__law_states.nd rfl (Or.inl rfl) (pe_tupS (pa_cons pe_str (pa_cons (pe_call G__law_goal hr (by rfl) m__law_goal k__law_goal b__law_goal .nil pass0 (pa_cons (pv 0) (pa_cons (pe_slice sl_listS (pv 3) (po_some (pe_op op_add (pv 6) pe_int)) po_none) pa_nil))) pa_nil))))
    (Evl.pss_cut (ps_if (pt_cmpR op_gt (pe_call G__law_draw hr (by rfl) m__law_draw k__law_draw b__law_draw .nil pass0 (pa_cons (pv 0) (pa_cons pe_int pa_nil))) pe_int (nomark _)) (pss_one (ps_set (i := 9) sc__law_states.nd rfl (Or.inl rfl) (pe_call G__law_select hr (by rfl) m__law_select k__law_select b__law_select .nil pass0 (pa_cons (pv 0) (pa_cons (pv 7) (pa_cons (pe_slice sl_listS (pv 3) (po_some (pe_op op_add (pv 6) pe_int)) po_none) pa_nil)))))) pss_nil)
    (pss_one (ps_expr (pe_bm PySem.F.plainAttrs_list PySem.F.slot_list_append PySem.F.type_list_append mt_appendS (pv 5) (pa_cons (pe_tupS (pa_cons pe_str (pa_cons (pe_ix ix_list (pv 3) (pv 6) (fun _ _ => rfl)) (pa_cons (pv 8) (pa_cons (pv 9) pa_nil))))) pa_nil)))))))))))
    (Evl.pss_cut (ps_if (pt_cmpR op_eq (pe_call G__law_draw hr (by rfl) m__law_draw k__law_draw b__law_draw .nil pass0 (pa_cons (pv 0) (pa_cons pe_int pa_nil))) pe_int (nomark _)) (pss_one (ps_set (i := 5) sc__law_states.nd rfl (Or.inl rfl) (pe_op op_catS (pe_slice sl_listS (pv 5) (po_some pe_int) po_none) (pe_slice sl_listS (pv 5) po_none (po_some pe_int))))) pss_nil)
    (pss_one (ps_ret (pv 5))))))))), ?_⟩
  obtain ⟨ha, hx, rfl, hha, hhx⟩ := hhv.lst_inv
  obtain ⟨han, hha'⟩ := out_some hha
  have hlen : hx.length = hs.length := by rw [hhx.len, List.length_map]
  -- how many
  refine ⟨_, rfl, ha, _, rfl, .inl (SqL.of hha'), _, rfl, _, rfl, by walk_at "le", fun p H1 hp s1 e1 => ⟨st, c, p, _, rfl, g.same s1, e1, g.nin hp, by simp, by simp, fun i x H2 hxi k2 g2 => ?_⟩⟩
  obtain ⟨mx, hmx, hat⟩ := (AtL.ints (H := H2) (ns := [1, 1, 4])).getM hxi
  obtain rfl := hat.int_inv
  have hmx2 : ∀ w ∈ ([1, 1, 4] : List Int), 1 ≤ w ∧ w ≤ 4 := by decide
  have hmx3 := hmx2 mx (List.mem_of_getElem? hmx)
  refine ⟨st, c, mx, rfl, g2, by omega, by omega, fun n H3 n0 n1 k3 g3 => ⟨_, _, rfl, rfl, _, _, rfl, ?_⟩⟩
  have k03 := ((Kp.same s1).trans k2).trans k3
  have hm0 : ∃ many : Nat, (if (hx.length : Int) + n < 8 then (hx.length : Int) + n else 8) = (many : Int) ∧ 1 ≤ many ∧ many ≤ 8 := by
    refine ⟨(if (hx.length : Int) + n < 8 then (hx.length : Int) + n else 8).toNat, ?_, ?_, ?_⟩ <;> split <;> omega
  obtain ⟨many, em, m1, m8⟩ := hm0
  rw [em]
  clear em s1 k2 g2 k3 e1 hp
  -- the names
  refine ⟨by walk_at "le", fun p4 H4 hp4 s4 e4 => ?_⟩
  have g4 := g3.same s4
  refine ⟨_, rfl, 1, _, rfl, ⟨by decide, by decide, by omega, by omega⟩, fun D hD => lc_range (fun i H' => ∃ ns : List Str, ns.length = i ∧ (∀ n ∈ ns, Nm n) ∧ GB [st, c] D H4 H' (ns.map .str) ∧ Gs st c H') ⟨[], rfl, by simp, GB.start g4.mm hD (Same.new hD) upd_same, g4.same (Same.new hD)⟩ (fun i H5 hi ⟨ns, e5, w5, b5, g5⟩ => ?_) (fun H5 ⟨ns, e5, w5, b5, g5⟩ => ?_)⟩
  · refine ⟨rfl, _, rfl, _, rfl, st, c, _, rfl, g5, by omega, by omega, fun nm H6 hnm k6 g6 => ?_⟩
    obtain ⟨us, eu, hlt, go⟩ := b5.ap (d := .str nm) k6 (g6.dm k6) (.str nm) (by simp; omega)
    refine ⟨us, eu, hlt, ns ++ [nm], by simp [e5], fun n hn => ?_, ?_, g6.ap b5.nM (Kp.wr (by simp))⟩
    · rcases List.mem_append.mp hn with hn | hn
      · exact w5 n hn
      · rw [List.mem_singleton.mp hn]; exact hnm
    · rw [List.map_append]
      exact go _ (Kp.wr (by simp)) upd_same
  have hDs : H5 D = some (.lst (ns.map V.str)) := by
    obtain ⟨d, xs, ed, hd, hx⟩ := b5.at.lst_inv
    cases ed
    rw [AtL.strs_inv hx] at hd
    exact (nw_some hd).2
  have k05 := (k03.trans (Kp.same s4)).trans b5.kp
  refine ⟨_, _, _, _, rfl, rfl, b5.kp _ _ (g3.nin hp4) e4, hDs, by walk_at "le", fun a H6 hna s6 e6 => ?_⟩
  have g6 := g5.same s6
  have hac : a ∉ [st, c] := g5.nin hna
  have k06 := k05.trans (Kp.same s6)
  have d06 : Dm H H6 := g6.dm k06
  obtain ⟨names, hnm⟩ : ∃ names : List Str, ("start" : Str) :: ns = names := ⟨_, rfl⟩
  have e6' : H6 a = some (.lst (names.map V.str)) := by rw [← hnm]; exact e6
  have wn : ∀ n ∈ names, Nm n := by
    rw [← hnm]
    intro n hn
    rcases List.mem_cons.mp hn with rfl | hn
    · exact start_nm
    · exact w5 n hn
  have ln : names.length = many := by
    rw [← hnm, List.length_cons, e5]
    omega
  clear e6 hnm w5 e5 hDs b5 hD e4 hp4 s4 g4 k05
  -- what is sure, and the states
  refine ⟨by walk_at "le", fun p7 H7 hp7 s7 e7 => ⟨by walk_at "le", fun S H8 hS s8 e8 => ?_⟩⟩
  have d07 := d06.trans (Same.dm s7)
  have hS8 : At (Nw H H8) (.ref S) (.list [eRef rfPort]) := .lst (nw_of (d07 S hS) e8) (.cons (.tup (nw_of (d06 p7 hp7) (s8 _ _ e7)) (.cons (.str _) (.cons (.str _) (.cons (.int _) .nil)))) .nil)
  have g8 := (g6.same s7).same s8
  have k08 := (k06.trans (Kp.same s7)).trans (Kp.same s8)
  have d08 : Dm H H8 := g8.dm k08
  have ha8 := s8 _ _ (s7 _ _ e6')
  refine ⟨by walk_at "le", fun L H9 hL s9 e9 => ?_⟩
  have aL : a ≠ L := fun e => by rw [e, hL] at ha8; cases ha8
  have nL := g8.nin hL
  have k09 := k08.trans (Kp.same s9)
  have g9 := g8.same s9
  have lb9 : GB [st, c] L H H9 [] := ⟨d08 L hL, g.mm, k09, d08.trans (Same.dm s9), [], e9, .nil⟩
  have hS9 := hS8.mono (lx_old (L := L) hL s9)
  have ha9 := s9 _ _ ha8
  clear hS8 ha8 g6 s7 e7 hp7 s8 e8 hS d07 e6' k08 s9 e9
  refine ⟨_, rfl, _, rfl, by omega, by omega, ?_⟩
  rw [Int.toNat_natCast]
  refine for_range (fun j σ' H' => ∃ (l : List Sta) (Sv : V) (rs : List Ref) (x y z u : Option V), σ' = [some (.ref st), some (.ref ha), some (.int (many : Int)), some (.ref a), some Sv, some (.ref L), x, y, z, u, none, none] ∧ l.length = j ∧ GB [st, c] L H H' (l.map eSta) ∧ Gs st c H' ∧ H' a = some (.lst (names.map V.str)) ∧ At (Out [L] (Nw H H')) Sv (.list (rs.map eRef)) ∧ rs ≠ [] ∧ rs.length ≤ 20 + 10 * j ∧ (∀ r ∈ rs, wRef r) ∧ ∀ x ∈ l, wSta x)
    ⟨[], _, [rfPort], _, _, _, _, rfl, rfl, lb9, g9, ha9, hS9, by simp, by simp, fun r hr => by rw [List.mem_singleton.mp hr]; exact rfPort_ok, by simp⟩ ?_ ?_
  · rintro j σ' H10 hj ⟨l, Sv, rs, x, y, z, u, rfl, hlj, lb, g10, ha10, hSv, hrne, hrl, hrw, hlw⟩
    obtain ⟨sa, sx, rfl, hsa, hsx⟩ := hSv.lst_inv
    refine ⟨_, rfl, sa, sx, rfl, (nw_some (out_some hsa).2).2, fun R H11 hR s11 e11 => ?_⟩
    have hhx10 := hhx.mono (lb.kp.out)
    have hha10 : H10 ha = some (.lst hx) := lb.kp _ _ han hha'
    have hR11 : At (Nw H10 H11) (.ref R) (.list []) → True := fun _ => trivial
    have g11 := g10.same s11
    have lb11 := lb.same s11
    have hRx : At (Out [L] (Nw H H11)) (.ref R) (.list (rs.map eRef)) := by
      refine .lst ?_ (hsx.mono (lx_same s11))
      rw [out_of (fun z => lb.ne0 (by have : R = L := by simpa using z
                                      rw [← this]; exact hR))]
      exact nw_of (lb.dm R hR) e11
    have ha11 := s11 _ _ ha10
    refine ⟨fun σ' H12 => ∃ (Rv : V) (tk : Option Str) (rs' : List Ref), σ' = [some (.ref st), some (.ref ha), some (.int (many : Int)), some (.ref a), some (.ref sa), some (.ref L), some (.int (0 + (j : Int))), some Rv, some (oSt tk), u, none, none] ∧ Kp [st, c] H10 H12 ∧ Gs st c H12 ∧ At (Out [L] (Nw H H12)) Rv (.list (rs'.map eRef)) ∧ rs' ≠ [] ∧ rs'.length ≤ 20 + 10 * (j + 1) ∧ (∀ r ∈ rs', wRef r) ∧ ∀ h, tk = some h → Nm h, ?_, ?_⟩
    · refine ⟨_, rfl, _, rfl, ha, hx, rfl, .inl (SqL.of (s11 _ _ hha10)), _, _, rfl, rfl, _, rfl, ?_⟩
      have no : ∀ H12, Kp [st, c] H11 H12 → Gs st c H12 → ∃ (Rv : V) (tk : Option Str) (rs' : List Ref), ([some (.ref st), some (.ref ha), some (.int (many : Int)), some (.ref a), some (.ref sa), some (.ref L), some (.int (0 + (j : Int))), some (.ref R), some .non, u, none, none] : L2.St) = [some (.ref st), some (.ref ha), some (.int (many : Int)), some (.ref a), some (.ref sa), some (.ref L), some (.int (0 + (j : Int))), some Rv, some (oSt tk), u, none, none] ∧ Kp [st, c] H10 H12 ∧ Gs st c H12 ∧ At (Out [L] (Nw H H12)) Rv (.list (rs'.map eRef)) ∧ rs' ≠ [] ∧ rs'.length ≤ 20 + 10 * (j + 1) ∧ (∀ r ∈ rs', wRef r) ∧ ∀ h, tk = some h → Nm h := by
        intro H12 k12 g12
        exact ⟨_, none, rs, rfl, (Kp.same s11).trans k12, g12, hRx.mono (lx_go k12 g.mm), hrne, by omega, hrw, fun h e => by cases e⟩
      by_cases hjl : (0 + (j : Int)) < (hx.length : Int)
      · rw [decide_eq_true hjl]
        refine iteT ⟨_, rfl, st, c, 6, rfl, g11, by decide, by decide, fun n12 H12 n120 n121 k12 g12 => ⟨_, _, rfl, rfl, _, rfl, ?_⟩⟩
        by_cases hn0 : 0 < n12
        · rw [decide_eq_true hn0]
          have hjx : j < hx.length := by omega
          obtain ⟨hd, hhd, hhat⟩ := (hhx10.mono ((Kp.same s11).out)).getM (List.getElem?_eq_getElem hjx)
          have hwd := hw hd (List.mem_of_getElem? hhd)
          obtain ⟨b1, x1, x2, x3, eb, hb1, i1, i2, i3⟩ := At.t3 (hhat.mono k12.out)
          obtain rfl := i1.str_inv
          obtain rfl := i2.str_inv
          obtain ⟨fl, fx, rfl, hfl, hfx⟩ := i3.lst_inv
          have hha12 : H12 ha = some (.lst hx) := k12 _ _ han (s11 _ _ hha10)
          have hatI : atI hx (0 + (j : Int)) = some (.ref b1) := by
            rw [show (0 : Int) + (j : Int) = ((j : Nat) : Int) from by omega]
            exact atI_nat (by rw [List.getElem?_eq_getElem hjx, eb])
          refine iteT ⟨_, rfl, _, rfl, _, _, _, _, rfl, rfl, SqL.of hha12, hatI, _, _, _, _, rfl, rfl, SqT.of (out_some hb1).2, at1, ?_⟩
          refine ⟨_, rfl, _, rfl, _, rfl, _, _, _, _, rfl, rfl, SqL.of hha12, hatI, _, _, _, _, rfl, rfl, SqT.of (out_some hb1).2, at2, fl, rfl, ⟨_, SqL.of (out_some hfl).2⟩, fun D hD => lc_dat hd.2 ePar (fun p => eRef (hd.1, p.1, p.2)) hD (out_some hfl).2 (hfx.mono out_le) (by have := hwd.2.1; omega) (fun zz x H5 C C' hz hatz s5 cc => ?_) fun H13 s13 h13 => ?_⟩
          · obtain ⟨bb, z1, z2, rfl, hbb, j1, j2⟩ := At.t2 hatz
            obtain rfl := j1.str_inv
            obtain rfl := j2.int_inv
            refine ⟨_, _, rfl, SqT.of hbb, rfl, _, _, rfl, _, _, rfl, rfl, rfl, ?_⟩
            refine ⟨_, rfl, _, rfl, _, rfl, by walk_at "le", fun p H6 hp s6 e6 => ?_⟩
            exact cc _ _ s6 (.tup (nw_of hp e6) (.cons (.str _) (.cons (.str _) (.cons (.int _) .nil))))
          · obtain ⟨d5, xs5, e5, hd5, hx5⟩ := h13.lst_inv
            cases e5
            have l5 := hx5.len
            have l6 := hsx.len
            rw [List.length_map] at l5 l6
            have l7 := hwd.2.1
            have k1012 := (Kp.same s11).trans k12
            refine ⟨R, D, sx, xs5, rfl, rfl, s13 _ _ (k12 _ _ (g10.nin hR) e11), (nw_some hd5).2, by walk_at "le", fun T H14 hT s14 e14 => ?_⟩
            have lb12 := lb.go k1012 (g12.dm k1012)
            have d013 := lb12.dm.trans (Same.dm s13)
            refine ⟨.ref T, some hd.1, rs ++ rfHdr hd, rfl, (k1012.trans (Kp.same s13)).trans (Kp.same s14), (g12.same s13).same s14, .lst (xs := sx ++ xs5) ?_ ?_, by simp [hrne], ?_, ?_, ?_⟩
            · rw [out_of (fun z => (lb12.same s13).ne0 (by have : T = L := by simpa using z
                                                           rw [← this]; exact hT))]
              exact nw_of (d013 T hT) e14
            · rw [List.map_append]
              refine (((hsx.mono (lx_go k1012 g.mm)).mono (lx_same s13)).mono (lx_same s14)).append ?_
              unfold rfHdr
              rw [List.map_map]
              exact (hx5.mono (lx_new lb12.ne0 lb12.dm)).mono (lx_same s14)
            · unfold rfHdr
              rw [List.length_append, List.length_map]; omega
            · intro r hr
              rcases List.mem_append.mp hr with hr | hr
              · exact hrw r hr
              · obtain ⟨p, hp, rfl⟩ := List.mem_map.mp hr
                have := hwd.2.2 p hp
                exact ⟨⟨.inr (.inr hwd.1), this.1⟩, this.2⟩
            · intro h e; cases e; exact hwd.1
        · rw [decide_eq_false hn0]
          exact iteF (no H12 k12 g12)
      · rw [decide_eq_false hjl]
        exact iteF (no H11 Kp.refl g11)
    rintro σ' H12 ⟨Rv, tk, rs', rfl, k12, g12, hRv, hrne', hrl', hrw', htk⟩
    have lb12 := lb.go k12 (g12.dm k12)
    have ha12 := k12 _ _ hac ha10
    have hSv12 : At (Out [L] (Nw H H12)) (.ref sa) (.list (rs.map eRef)) := (At.lst hsa hsx).mono (lx_go k12 g.mm)
    clear hR11 hRx s11 e11 lb11 g11 ha11 hhx10 hha10
    refine ⟨fun σ' H13 => ∃ (Sv : V) (rs : List Ref), σ' = [some (.ref st), some (.ref ha), some (.int (many : Int)), some (.ref a), some Sv, some (.ref L), some (.int (0 + (j : Int))), some Rv, some (oSt tk), u, none, none] ∧ H13 = H12 ∧ At (Out [L] (Nw H H12)) Sv (.list (rs.map eRef)) ∧ rs ≠ [] ∧ rs.length ≤ 20 + 10 * (j + 1) ∧ ∀ r ∈ rs, wRef r, ?_, ?_⟩
    · refine ⟨_, rfl, rfl, _, rfl, ?_⟩
      by_cases h0 : V.int (0 + (j : Int)) = V.int 0
      · exact ifE h0 ⟨_, rfl, _, rs', rfl, rfl, hRv, hrne', hrl', hrw'⟩
      · exact ifN h0 ⟨_, rs, rfl, rfl, hSv12, hrne, by omega, hrw⟩
    rintro σ' H13 ⟨Sv, rs2, rfl, rfl, hSv, hrne2, hrl2, hrw2⟩
    have cutN : cutV (names.map V.str) (some (0 + (j : Int) + 1)) none = (names.drop (j + 1)).map V.str := by
      rw [show (0 : Int) + (j : Int) + 1 = ((j + 1 : Nat) : Int) from by omega, cutV_from, List.map_drop]
    have wn' : ∀ n ∈ names.drop (j + 1), Nm n := fun n hn => wn n (List.mem_of_mem_drop hn)
    have ln' : (names.drop (j + 1)).length ≤ 1000 := by rw [List.length_drop]; omega
    refine ⟨_, rfl, _, rfl, _, rfl, _, _, rfl, rfl, _, rfl, a, _, rfl, ha12, fun p14 H14 hp14 s14 e14 => ?_⟩
    rw [cutN] at e14
    have g14 := g12.same s14
    refine ⟨st, c, p14, _, rfl, g14, e14, g12.nin hp14, ln', wn', fun tg H15 htg k15 g15 => ⟨by walk_at "le", fun p16 H16 hp16 s16 e16 => ?_⟩⟩
    have k1215 := (Kp.same s14).trans k15
    have lb15 := lb12.go k1215 (g15.dm k1215)
    have hfl : At (Out [L] (Nw H H16)) (.ref p16) (eNxt (.go tg)) := by
      refine .tup ?_ (.cons (.str _) (.cons (.str _) .nil))
      rw [out_of (fun z => lb15.ne0 (by have : p16 = L := by simpa using z
                                        rw [← this]; exact hp16))]
      exact nw_of (lb15.dm p16 hp16) e16
    have k1216 := k1215.trans (Kp.same s16)
    have g16 := g15.same s16
    refine ⟨fun σ' H17 => ∃ (fv : V) (nx : Nxt), σ' = [some (.ref st), some (.ref ha), some (.int (many : Int)), some (.ref a), some Sv, some (.ref L), some (.int (0 + (j : Int))), some Rv, some (oSt tk), some fv, none, none] ∧ Kp [st, c] H13 H17 ∧ Gs st c H17 ∧ At (Out [L] (Nw H H17)) fv (eNxt nx) ∧ wNxt nx, ?_, ?_⟩
    · refine ⟨_, rfl, st, c, 3, rfl, g16, by decide, by decide, fun n17 H17 n170 n171 k17 g17 => ⟨_, _, rfl, rfl, _, rfl, ?_⟩⟩
      have k1217 := k1216.trans k17
      by_cases hn0 : 0 < n17
      · rw [decide_eq_true hn0]
        have ha17 := k1217 _ _ hac ha12
        refine iteT ⟨_, rfl, _, rfl, _, rfl, _, rfl, _, _, rfl, rfl, _, rfl, a, _, rfl, ha17, fun p18 H18 hp18 s18 e18 => ?_⟩
        rw [cutN] at e18
        have hRv18 := ((hRv.mono (lx_go k1217 g.mm)).mono (lx_same s18)).mono (lx_arg (M := [st, c]) g.mm)
        refine ⟨st, c, Rv, rs', p18, _, rfl, g17.same s18, hRv18, hrne', by omega, hrw', e18, g17.nin hp18, ln', wn', fun v H19 nx hnx k19 g19 h19 => ?_⟩
        have k1718 := (k1217.trans (Kp.same s18))
        have lb18 := lb12.go k1718 ((g17.same s18).dm k1718)
        exact ⟨v, nx, rfl, k1718.trans k19, g19, h19.mono (lx_new lb18.ne0 lb18.dm), hnx⟩
      · rw [decide_eq_false hn0]
        exact iteF ⟨_, .go tg, rfl, k1217, g17, hfl.mono (lx_go k17 g.mm), htg⟩
    rintro σ' H17 ⟨fv, nx, rfl, k17, g17, hfv, hnx⟩
    have lb17 := lb12.go k17 (g17.dm k17)
    have ha17 := k17 _ _ hac ha12
    have hjn : j < names.length := by omega
    have hatN : atI (names.map V.str) (0 + (j : Int)) = some (.str names[j]) := by
      rw [show (0 : Int) + (j : Int) = ((j : Nat) : Int) from by omega]
      exact atI_nat (by rw [List.getElem?_map, List.getElem?_eq_getElem hjn]; rfl)
    refine ⟨_, rfl, lb17.ty, _, rfl, _, rfl, _, _, _, _, rfl, rfl, SqL.of ha17, hatN, _, rfl, _, rfl, by walk_at "le", fun p18 H18 hp18 s18 e18 => ?_⟩
    obtain ⟨us, eu, hus⟩ := (lb17.same s18).len
    obtain ⟨vs0, ev0, av0⟩ := (lb17.same s18).vs
    refine ⟨L, _, _, rfl, rfl, ev0, szl (by have := av0.len; rw [List.length_map] at this; omega), fun H19 k19 e19 => ?_⟩
    have kx : Same (Out [L] (Nw H H18)) (Out [L] (Nw H H19)) := lx_ap k19
    have d019 : Dm H H19 := fun b hb => (lb17.same s18).dm b (k19.free hb fun z => by
      have : b = L := by simpa using z
      rw [this, e19] at hb; cases hb)
    have hp18L : p18 ∉ [L] := fun z => lb17.ne0 (by have : p18 = L := by simpa using z
                                                    rw [← this]; exact hp18)
    have item : At (Out [L] (Nw H H18)) (.ref p18) (eSta ⟨names[j], tk, nx⟩) := by
      refine .tup ?_ (.cons (.str _) (.cons (.str _) (.cons (oSt_at _) (.cons (hfv.mono (lx_same s18)) .nil))))
      rw [out_of hp18L]
      exact nw_of (lb17.dm p18 hp18) e18
    refine ⟨l ++ [⟨names[j], tk, nx⟩], Sv, rs2, _, _, _, _, rfl, by simp [hlj], ⟨lb17.fr, g.mm, fun b o hb he => k19 b o (fun z => ?_) ((lb17.same s18).kp b o hb he), d019, _, e19, ?_⟩, (g17.same s18).ap nL k19, k19 _ _ (by simpa using aL) (s18 _ _ ha17), ((hSv.mono (lx_go k17 g.mm)).mono (lx_same s18)).mono kx, hrne2, by omega, hrw2, fun x hx => ?_⟩
    · have : b = L := by simpa using z
      rw [this, lb17.fr] at he; cases he
    · rw [List.map_append]
      exact (av0.mono kx).snoc (item.mono kx)
    · rcases List.mem_append.mp hx with hx | hx
      · exact hlw x hx
      · rw [List.mem_singleton.mp hx]
        exact ⟨wn _ (List.getElem_mem hjn), htk, hnx⟩
  · rintro σ' H10 ⟨l, Sv, rs, x, y, z, u, rfl, hlj, lb, g10, ha10, hSv, hrne, hrl, hrw, hlw⟩
    refine ⟨fun σ' H11 => ∃ (Lv : V) (l' : List Sta), σ' = [some (.ref st), some (.ref ha), some (.int (many : Int)), some (.ref a), some Sv, some Lv, x, y, z, u, none, none] ∧ Kp [st, c] H H11 ∧ Gs st c H11 ∧ At (Nw H H11) Lv (.list (l'.map eSta)) ∧ l'.length ≤ 16 ∧ ∀ x ∈ l', wSta x, ?_, ?_⟩
    · refine ⟨_, rfl, st, c, 3, rfl, g10, by decide, by decide, fun n11 H11 n110 n111 k11 g11 => ⟨rfl, _, rfl, ?_⟩⟩
      have lb11 := lb.go k11 (g11.dm k11)
      by_cases h0 : V.int n11 = V.int 0
      · obtain ⟨dd, xs, ed, hd, hxs⟩ := lb11.at.lst_inv
        cases ed
        have hd' := (nw_some hd).2
        have hxl := hxs.len
        rw [List.length_map] at hxl
        refine ifE h0 ⟨_, rfl, _, rfl, _, _, rfl, hd', fun p12 H12 hp12 s12 e12 => ⟨_, rfl, _, rfl, _, _, rfl, s12 _ _ hd', fun p13 H13 hp13 s13 e13 => ⟨_, _, _, _, rfl, rfl, s13 _ _ e12, e13, sz (by have := cutV_length xs (some 1) none; have := cutV_length xs none (some 1); omega), fun T H14 hT s14 e14 => ?_⟩⟩⟩
        have e1 : cutV xs (some 1) none = xs.drop 1 := cutV_from xs 1
        have e2 : cutV xs none (some 1) = xs.take 1 := cutV_to xs 1
        rw [e1, e2] at e14
        have s1114 := (s12.trans s13).trans s14
        refine ⟨.ref T, l.drop 1 ++ l.take 1, rfl, lb11.kp.trans (Kp.same s1114), g11.same s1114, .lst (nw_of (lb11.dm T (Same.dm (s12.trans s13) T hT)) e14) ?_, ?_, fun x hx => ?_⟩
        · rw [List.map_append, List.map_drop, List.map_take]
          exact ((hxs.drop 1).append (hxs.take 1)).mono (nws s1114)
        · rw [List.length_append, List.length_drop, List.length_take]; omega
        · rcases List.mem_append.mp hx with hx | hx
          · exact hlw x (List.mem_of_mem_drop hx)
          · exact hlw x (List.mem_of_mem_take hx)
      · exact ifN h0 ⟨.ref L, l, rfl, lb11.kp, g11, lb11.at, by omega, hlw⟩
    rintro σ' H11 ⟨Lv, l', rfl, k11, g11, h11, hl11, hw11⟩
    exact ⟨_, rfl, q _ _ l' k11 g11 h11 hl11 hw11⟩
end
end WP
namespace WP
open PySem PySem.Spec PyProof.Rows L2 TL
local macro_rules | `(tactic| walk_at "len") => `(tactic| (show _ ≤ sizeLine; rw [sizeLine_eq]; (try simp only [al, lit_len]); (try simp) <;> omega))
local macro_rules | `(tactic| walk_at "lt") => `(tactic| (show _ < sizeLine; rw [sizeLine_eq]; (try simp only [List.length_map, List.length_append, List.length_cons, List.length_nil, List.length_take]); omega))
local macro_rules | `(tactic| walk_at "le") => `(tactic| (show _ ≤ sizeLine; rw [sizeLine_eq]; (try simp only [List.length_map, List.length_append, List.length_cons, List.length_nil, List.length_take]); omega))
local macro_rules | `(tactic| walk_at "now") => `(tactic| first | assumption | (refine (by assumption : Same _ _) _ _ ?_; walk_at "now"))
local macro_rules | `(tactic| walk_at "at") => `(tactic| first | exact at0 | exact at1 | exact at2 | exact at3 | exact at4 | exact at5 | exact at6 | exact at7 | exact at8)
local macro_rules | `(tactic| walk_at "v") => `(tactic| refine ⟨_, rfl, ?_⟩)
local macro_rules | `(tactic| walk_at "ix") => `(tactic| refine ⟨_, _, _, _, rfl, rfl, SqT.of (by walk_at "now"), (by walk_at "at"), ?_⟩)
local macro_rules | `(tactic| walk_at "ixl") => `(tactic| refine ⟨_, _, _, _, rfl, rfl, SqL.of (by walk_at "now"), (by walk_at "at"), ?_⟩)
local macro_rules | `(tactic| walk_at "str") => `(tactic| refine ⟨_, _, rfl, rfl, (by walk_at "len"), ?_⟩)
local macro_rules | `(tactic| walk_at "int") => `(tactic| refine ⟨_, _, rfl, rfl, ?_⟩)
local macro_rules | `(tactic| walk_at "eq") => `(tactic| refine ⟨rfl, _, rfl, ?_⟩)
local macro_rules | `(tactic| walk_at "app") => `(tactic| refine ⟨_, _, _, rfl, rfl, (by walk_at "now"), (by walk_at "lt"), ?_⟩)
local macro_rules | `(tactic| walk_at "ext") => `(tactic| refine ⟨_, _, _, _, rfl, rfl, (by walk_at "now"), (by walk_at "now"), (by walk_at "le"), ?_⟩)
local macro_rules | `(tactic| walk_at "cat") => `(tactic| refine ⟨_, _, _, _, rfl, rfl, (by walk_at "now"), (by walk_at "now"), (by walk_at "le"), ?_⟩)
local macro_rules | `(tactic| walk_at "num") => `(tactic| refine ⟨(by assumption : Nu _), ?_⟩)
local macro_rules | `(tactic| walk_at "ty") => `(tactic| refine ⟨Or.inl ⟨rfl, _, SqL.of (by walk_at "now")⟩, ?_⟩)
local macro_rules | `(tactic| walk_at "un2") => `(tactic| refine ⟨_, _, rfl, SqT.of (by walk_at "now"), rfl, _, _, rfl, _, _, rfl, rfl, ?_⟩)
local macro_rules | `(tactic| walk_at "un3") => `(tactic| refine ⟨_, _, rfl, SqT.of (by walk_at "now"), rfl, _, _, rfl, _, _, rfl, _, _, rfl, rfl, ?_⟩)
local macro_rules | `(tactic| walk_at "un4") => `(tactic| refine ⟨_, _, rfl, SqT.of (by walk_at "now"), rfl, _, _, rfl, _, _, rfl, _, _, rfl, _, _, rfl, rfl, ?_⟩)
local macro_rules | `(tactic| walk_at "un6") => `(tactic| refine ⟨_, _, rfl, SqT.of (by walk_at "now"), rfl, _, _, rfl, _, _, rfl, _, _, rfl, _, _, rfl, _, _, rfl, _, _, rfl, rfl, ?_⟩)
local macro_rules | `(tactic| walk_at "un9") => `(tactic| refine ⟨_, _, rfl, SqT.of (by walk_at "now"), rfl, _, _, rfl, _, _, rfl, _, _, rfl, _, _, rfl, _, _, rfl, _, _, rfl, _, _, rfl, _, _, rfl, _, _, rfl, rfl, ?_⟩)
local macro_rules | `(tactic| walk_at "go") => `(tactic| repeat (first | walk_at "v" | walk_at "eq" | walk_at "ix" | walk_at "str" | walk_at "ty" | walk_at "num"))

/-! ### what the generator's functions are given -/
structure RfA (st c : Addr) (H : Hp) (R : V) (rs : List Ref) : Prop where
  at' : At (Out [st, c] H) R (.list (rs.map eRef))
  ne : rs ≠ []
  few : rs.length ≤ 1000
  ok : ∀ r ∈ rs, wRef r
structure PsA (st c : Addr) (H : Hp) (R : V) (ps : List Par) : Prop where
  at' : At (Out [st, c] H) R (.list (ps.map ePar))
  few : ps.length ≤ 16
  ok : ∀ r ∈ ps, wGP r
structure HdA (st c : Addr) (H : Hp) (R : V) (hs : List Hdr) : Prop where
  at' : At (Out [st, c] H) R (.list (hs.map eHdr))
  ok : wGHs hs
section
variable {st c : Addr} {H H' : Hp} {R : V} {rs : List Ref} {ps : List Par} {hs : List Hdr}
theorem RfA.kp (h : RfA st c H R rs) (k : Kp [st, c] H H') : RfA st c H' R rs := ⟨h.at'.mono k.out, h.ne, h.few, h.ok⟩
theorem PsA.kp (h : PsA st c H R ps) (k : Kp [st, c] H H') : PsA st c H' R ps := ⟨h.at'.mono k.out, h.few, h.ok⟩
theorem HdA.kp (h : HdA st c H R hs) (k : Kp [st, c] H H') : HdA st c H' R hs := ⟨h.at'.mono k.out, h.ok⟩
theorem RfA.pick (h : RfA st c H R rs) : ∃ a xs, R = .ref a ∧ H a = some (.lst xs) ∧ a ∉ [st, c] ∧ xs ≠ [] ∧ xs.length ≤ 1000000 ∧ xs.length = rs.length ∧ ∀ (i : Nat) x H', xs[i]? = some x → Kp [st, c] H H' → ∃ ta ow nm wd, x = .ref ta ∧ H' ta = some (.tup [.str ow, .str nm, .int wd]) ∧ wRef (ow, nm, wd) := by
  obtain ⟨a, xs, rfl, ha, hx⟩ := h.at'.lst_inv
  obtain ⟨n, ha'⟩ := out_some ha
  have hl := hx.len
  rw [List.length_map] at hl
  have := h.few
  refine ⟨a, xs, rfl, ha', n, fun e => h.ne (by rw [e] at hl; exact List.eq_nil_of_length_eq_zero hl.symm), by omega, hl, fun i x H' hi k => ?_⟩
  obtain ⟨⟨ow, nm, wd⟩, hrf, hat⟩ := (hx.mono k.out).getM hi
  obtain ⟨ta, x1, x2, x3, rfl, hta, i1, i2, i3⟩ := At.t3 hat
  obtain rfl := i1.str_inv
  obtain rfl := i2.str_inv
  obtain rfl := i3.int_inv
  exact ⟨ta, ow, nm, wd, rfl, (out_some hta).2, h.ok _ (List.mem_of_getElem? hrf)⟩
theorem PsA.pick (h : PsA st c H R ps) : ∃ a xs, R = .ref a ∧ H a = some (.lst xs) ∧ a ∉ [st, c] ∧ xs.length ≤ 1000000 ∧ xs.length = ps.length ∧ ∀ (i : Nat) x H', xs[i]? = some x → Kp [st, c] H H' → ∃ ta nm wd, x = .ref ta ∧ H' ta = some (.tup [.str nm, .int wd]) ∧ wGP (nm, wd) := by
  obtain ⟨a, xs, rfl, ha, hx⟩ := h.at'.lst_inv
  obtain ⟨n, ha'⟩ := out_some ha
  have hl := hx.len
  rw [List.length_map] at hl
  have := h.few
  refine ⟨a, xs, rfl, ha', n, by omega, hl, fun i x H' hi k => ?_⟩
  obtain ⟨⟨nm, wd⟩, hrf, hat⟩ := (hx.mono k.out).getM hi
  obtain ⟨ta, x1, x2, rfl, hta, i1, i2⟩ := At.t2 hat
  obtain rfl := i1.str_inv
  obtain rfl := i2.int_inv
  exact ⟨ta, nm, wd, rfl, (out_some hta).2, h.ok _ (List.mem_of_getElem? hrf)⟩
theorem HdA.pick (h : HdA st c H R hs) : ∃ a xs, R = .ref a ∧ H a = some (.lst xs) ∧ a ∉ [st, c] ∧ xs ≠ [] ∧ xs.length ≤ 1000000 ∧ xs.length = hs.length ∧ ∀ (i : Nat) x H', xs[i]? = some x → Kp [st, c] H H' → ∃ ta nm y, x = .ref ta ∧ H' ta = some (.tup [.str "header", .str nm, y]) ∧ Nm nm := by
  obtain ⟨a, xs, rfl, ha, hx⟩ := h.at'.lst_inv
  obtain ⟨n, ha'⟩ := out_some ha
  have hl := hx.len
  rw [List.length_map] at hl
  have h1 := h.ok.one
  have h2 := h.ok.few
  refine ⟨a, xs, rfl, ha', n, fun e => by rw [e] at hl; simp at hl; omega, by omega, hl, fun i x H' hi k => ?_⟩
  obtain ⟨⟨nm, fl⟩, hrf, hat⟩ := (hx.mono k.out).getM hi
  obtain ⟨ta, x1, x2, x3, rfl, hta, i1, i2, i3⟩ := At.t3 hat
  obtain rfl := i1.str_inv
  obtain rfl := i2.str_inv
  exact ⟨ta, nm, x3, rfl, (out_some hta).2, (h.ok.ok _ (List.mem_of_getElem? hrf)).1⟩
end
def spOperand : Sp := fun vs H Q _ => ∃ st c R rs Pv ps, vs = [.ref st, R, Pv] ∧ Gs st c H ∧ RfA st c H R rs ∧ PsA st c H Pv ps ∧ ∀ v H' x, wOpd x → Kp [st, c] H H' → Gs st c H' → At (Nw H H') v (eOpd x) → Q v H'
def spExpr : Sp := fun vs H Q _ => ∃ st c R rs Pv ps, vs = [.ref st, R, Pv] ∧ Gs st c H ∧ RfA st c H R rs ∧ PsA st c H Pv ps ∧ ∀ v H' x, wExp x → Kp [st, c] H H' → Gs st c H' → At (Nw H H') v (eExp x) → Q v H'
def spOper : Sp := fun vs H Q _ => ∃ st c hv hs R rs Pv ps, vs = [.ref st, hv, R, Pv] ∧ Gs st c H ∧ HdA st c H hv hs ∧ RfA st c H R rs ∧ PsA st c H Pv ps ∧ ∀ v H' x, wOpn x → Kp [st, c] H H' → Gs st c H' → At (Nw H H') v (eOpn x) → Q v H'
section
variable {P : Program} {w : World} {K : PySem.W.Frag} {mg : Str → Option Value} {base : Heap} {k : Nat}
abbrev s__law_operand : Stmt := top 67
abbrev n__law_operand : List Str := ["_law_state_here", "_law_refs_here", "_law_params", "_law_kind", "_law_owner", "_law_name_here", "_law_width"]
theorem sc__law_operand : FnScope n__law_operand ["_law_state_here", "_law_refs_here", "_law_params"] (defScope s__law_operand) := ⟨rfl, rfl, rfl, by decide +kernel, rfl, by decide +kernel, by decide +kernel⟩
/- slots: 0 _law_state_here, 1 _law_refs_here, 2 _law_params, 3 _law_kind, 4 _law_owner, 5 _law_name_here, 6 _law_width -/
theorem ok__law_operand (B : Bt mg) (h : Has K mg "_law_operand" s__law_operand ["_law_state_here", "_law_refs_here", "_law_params"]) (c1 : Ok P w K mg base k "_law_draw" ["_law_state_here", "_law_many"] spDraw) (c2 : Ok P w K mg base k "_law_pick" ["_law_state_here", "_law_row"] spPick) : Ok P w K mg base (k + 1) "_law_operand" ["_law_state_here", "_law_refs_here", "_law_params"] spOperand := by
  obtain ⟨_, _, G__law_draw, m__law_draw, k__law_draw, b__law_draw⟩ := c1.ex
  obtain ⟨_, _, G__law_pick, m__law_pick, k__law_pick, b__law_pick⟩ := c2.ex
  refine h.ok sc__law_operand (fun vs H Q E h => ?_) (fun f0 cdv A outer s H vs Q E hr h => ?_)
  · obtain ⟨_, _, _, _, _, _, rfl, _⟩ := h; rfl
  obtain ⟨st, c, R, rs, Pv, ps, rfl, g, hR, hP, q⟩ := h
  refine ⟨_, (pss_cons (ps_set (i := 3) sc__law_operand.nd rfl (Or.inl rfl) (pe_call G__law_draw hr (by rfl) m__law_draw k__law_draw b__law_draw .nil pass0 (pa_cons (pv 0) (pa_cons pe_int pa_nil))))
    (pss_cons (ps_if (pt_cmpR op_eq (pv 3) pe_int (nomark _)) (pss_one (ps_ret (pe_tupS (pa_cons pe_str (pa_cons (pe_call G__law_pick hr (by rfl) m__law_pick k__law_pick b__law_pick .nil pass0 (pa_cons (pv 0) (pa_cons (pe_lstS (pa_cons pe_int (pa_cons pe_int (pa_cons pe_int (pa_cons pe_int (pa_cons pe_int (pa_cons pe_int (pa_cons pe_int (pa_cons (pe_call G__law_draw hr (by rfl) m__law_draw k__law_draw b__law_draw .nil pass0 (pa_cons (pv 0) (pa_cons pe_int pa_nil))) pa_nil))))))))) pa_nil))) pa_nil))))) pss_nil)
    (pss_cons (ps_if (PW.pt (pw_and (pt_cmpR op_eq (pv 3) pe_int (nomark _)) (pw_and1 (pt_cmpR op_gt (pe_callB call_len_seq (by rfl) B.len PySem.boot_len (pa_cons (pv 2) pa_nil)) pe_int (nomark _))))) (pss_one (ps_ret (pe_tupS (pa_cons pe_str (pa_cons (pe_ix ix_tup (pe_call G__law_pick hr (by rfl) m__law_pick k__law_pick b__law_pick .nil pass0 (pa_cons (pv 0) (pa_cons (pv 2) pa_nil))) pe_int (fun _ _ => rfl)) pa_nil))))) pss_nil)
    (pss_cons (ps_asg (pe_call G__law_pick hr (by rfl) m__law_pick k__law_pick b__law_pick .nil pass0 (pa_cons (pv 0) (pa_cons (pv 1) pa_nil))) (pg_tup rfl (pgs_cons (pg_name (i := 4) sc__law_operand.nd rfl (Or.inl rfl)) (pgs_cons (pg_name (i := 5) sc__law_operand.nd rfl (Or.inl rfl)) (pgs_cons (pg_name (i := 6) sc__law_operand.nd rfl (Or.inl rfl)) pgs_nil)))))
    (pss_one (ps_ret (pe_tupS (pa_cons pe_str (pa_cons (pv 4) (pa_cons (pv 5) pa_nil)))))))))), ?_⟩
  refine ⟨_, rfl, st, c, 3, rfl, g, by decide, by decide, fun n H1 n0 n1 k1 g1 => ?_⟩
  refine ⟨_, rfl, rfl, _, rfl, ?_⟩
  by_cases h0 : V.int n = V.int 0
  · refine ifE h0 ?_
    refine ⟨_, rfl, _, rfl, st, c, 40, rfl, g1, by decide, by decide, fun n2 H2 n20 n21 k2 g2 => ⟨by walk_at "le", fun p H3 hp s3 e3 => ⟨st, c, p, _, rfl, g2.same s3, e3, g2.nin hp, by simp, by simp, fun i x H4 hx k4 g4 => ⟨by walk_at "le", fun t H5 ht s5 e5 => ?_⟩⟩⟩⟩
    obtain ⟨m, hm, hat⟩ := (AtL.ints (H := H4) (ns := [0, 1, 7, 255, 256, 65535, 4294967295, n2])).getM hx
    obtain rfl := hat.int_inv
    have hNu : Nu m := by
      have : ∀ m ∈ [0, 1, 7, 255, 256, 65535, 4294967295, n2], 0 ≤ m ∧ m ≤ 4294967295 := by
        intro m hm
        simp only [List.mem_cons, List.not_mem_nil, or_false] at hm
        omega
      exact this m (List.mem_of_getElem? hm)
    have kk := ((k1.trans k2).trans (Kp.same s3)).trans k4
    exact q _ _ (.num m) hNu (kk.trans (Kp.same s5)) (g4.same s5) (at_tup (g4.dm kk) ht e5 (.cons (.str _) (.cons (.int _) .nil)))
  refine ifN h0 ?_
  obtain ⟨pa, px, rfl, hpa, hpan, hpl, _, hpick⟩ := (hP.kp k1).pick
  have asfld : (tSeq (tAsg (tCall spPick [] E0 (tCons (tVar 0) (tCons (tVar 1) tNil))) (gTup K 3 (gCons (gName 4) (gCons (gName 5) (gCons (gName 6) gNil))))) (tRet (tTupS (tCons (tC (.str "field")) (tCons (tVar 4) (tCons (tVar 5) tNil)))))) { nx := fun _ H' => Q .non H', rt := Q } [some (.ref st), some R, some (.ref pa), some (.int n), none, none, none] H1 := by
    obtain ⟨ra, rx, rfl, hra, hran, hrne, hrl, _, rpick⟩ := (hR.kp k1).pick
    refine ⟨_, rfl, _, rfl, st, c, ra, rx, rfl, g1, hra, hran, hrne, hrl, fun i x H2 hx k2 g2 => ?_⟩
    obtain ⟨ta, ow, nm, wd, rfl, hta, hw⟩ := rpick i x H2 hx k2
    refine ⟨_, _, rfl, SqT.of hta, rfl, _, _, rfl, _, _, rfl, _, _, rfl, rfl, ?_⟩
    refine ⟨_, rfl, _, rfl, by walk_at "le", fun t H3 ht s3 e3 => ?_⟩
    have kk := k1.trans k2
    exact q _ _ (.fld ow nm) hw.1 (kk.trans (Kp.same s3)) (g2.same s3) (at_tup (g2.dm kk) ht e3 (.cons (.str _) (.cons (.str _) (.cons (.str _) .nil))))
  refine ⟨_, rfl, rfl, _, rfl, ?_⟩
  by_cases h1 : V.int n = V.int 1
  · refine ifE h1 ⟨_, rfl, pa, px, rfl, .inl (SqL.of hpa), _, _, rfl, rfl, _, rfl, ?_⟩
    by_cases hp0 : (0 : Int) < (px.length : Int)
    · rw [decide_eq_true hp0]
      refine ⟨_, rfl, _, rfl, st, c, pa, px, rfl, g1, hpa, hpan, fun e => by rw [e] at hp0; simp at hp0, hpl, fun i x H2 hx k2 g2 => ?_⟩
      obtain ⟨ta, nm, wd, rfl, hta, hw⟩ := hpick i x H2 hx k2
      refine ⟨_, _, _, _, rfl, rfl, SqT.of hta, at0, by walk_at "le", fun t H3 ht s3 e3 => ?_⟩
      have kk := k1.trans k2
      exact q _ _ (.par nm) hw.1 (kk.trans (Kp.same s3)) (g2.same s3) (at_tup (g2.dm kk) ht e3 (.cons (.str _) (.cons (.str _) .nil)))
    · rw [decide_eq_false hp0]
      exact asfld
  · exact ifN h1 asfld
abbrev s__law_expression : Stmt := top 68
abbrev n__law_expression : List Str := ["_law_state_here", "_law_refs_here", "_law_params", "_law_first"]
theorem sc__law_expression : FnScope n__law_expression ["_law_state_here", "_law_refs_here", "_law_params"] (defScope s__law_expression) := ⟨rfl, rfl, rfl, by decide +kernel, rfl, by decide +kernel, by decide +kernel⟩
/- slots: 0 _law_state_here, 1 _law_refs_here, 2 _law_params, 3 _law_first -/
theorem ok__law_expression (B : Bt mg) (h : Has K mg "_law_expression" s__law_expression ["_law_state_here", "_law_refs_here", "_law_params"]) (c1 : Ok P w K mg base k "_law_draw" ["_law_state_here", "_law_many"] spDraw) (c2 : Ok P w K mg base k "_law_pick" ["_law_state_here", "_law_row"] spPick)
    (c3 : Ok P w K mg base k "_law_operand" ["_law_state_here", "_law_refs_here", "_law_params"] spOperand) : Ok P w K mg base (k + 1) "_law_expression" ["_law_state_here", "_law_refs_here", "_law_params"] spExpr := by
  obtain ⟨_, _, G__law_draw, m__law_draw, k__law_draw, b__law_draw⟩ := c1.ex
  obtain ⟨_, _, G__law_pick, m__law_pick, k__law_pick, b__law_pick⟩ := c2.ex
  obtain ⟨_, _, G__law_operand, m__law_operand, k__law_operand, b__law_operand⟩ := c3.ex
  refine h.ok sc__law_expression (fun vs H Q E h => ?_) (fun f0 cdv A outer s H vs Q E hr h => ?_)
  · obtain ⟨_, _, _, _, _, _, rfl, _⟩ := h; rfl
  obtain ⟨st, c, R, rs, Pv, ps, rfl, g, hR, hP, q⟩ := h
  refine ⟨_, (pss_cons (ps_set (i := 3) sc__law_expression.nd rfl (Or.inl rfl) (pe_call G__law_operand hr (by rfl) m__law_operand k__law_operand b__law_operand .nil pass0 (pa_cons (pv 0) (pa_cons (pv 1) (pa_cons (pv 2) pa_nil)))))
    (pss_cons (ps_if (pt_cmpR op_eq (pe_call G__law_draw hr (by rfl) m__law_draw k__law_draw b__law_draw .nil pass0 (pa_cons (pv 0) (pa_cons pe_int pa_nil))) pe_int (nomark _)) (pss_one (ps_ret (pv 3))) pss_nil)
    (pss_one (ps_ret (pe_tupS (pa_cons (pe_call G__law_pick hr (by rfl) m__law_pick k__law_pick b__law_pick .nil pass0 (pa_cons (pv 0) (pa_cons (pe_lstS (pa_cons pe_str (pa_cons pe_str (pa_cons pe_str (pa_cons pe_str (pa_cons pe_str pa_nil)))))) pa_nil))) (pa_cons (pv 3) (pa_cons (pe_call G__law_operand hr (by rfl) m__law_operand k__law_operand b__law_operand .nil pass0 (pa_cons (pv 0) (pa_cons (pv 1) (pa_cons (pv 2) pa_nil)))) pa_nil)))))))), ?_⟩
  refine ⟨_, rfl, _, rfl, _, rfl, st, c, R, rs, Pv, ps, rfl, g, hR, hP, fun v1 H1 x1 w1 k1 g1 h1 => ?_⟩
  refine ⟨_, rfl, st, c, 3, rfl, g1, by decide, by decide, fun n H2 n0 n1 k2 g2 => ⟨rfl, _, rfl, ?_⟩⟩
  by_cases h0 : V.int n = V.int 0
  · exact ifE h0 ⟨_, rfl, q _ _ (.one x1) w1 (k1.trans k2) g2 (h1.mono (nw1 k2 g.mm))⟩
  refine ifN h0 ⟨_, rfl, by walk_at "le", fun p H3 hp s3 e3 => ⟨st, c, p, _, rfl, g2.same s3, e3, g2.nin hp, by simp, by simp, fun i x H4 hx k4 g4 => ?_⟩⟩
  have ho : ∃ o : Bop, x = .str o.s := by
    obtain ⟨y, hy, hat⟩ := (AtL.strs (H := H4) (ss := ["+", "-", "&", "|", "^"])).getM hx
    obtain rfl := hat.str_inv
    have hm := List.mem_of_getElem? hy
    simp only [List.mem_cons, List.not_mem_nil, or_false] at hm
    rcases hm with rfl | rfl | rfl | rfl | rfl
    · exact ⟨.add, rfl⟩
    · exact ⟨.sub, rfl⟩
    · exact ⟨.and, rfl⟩
    · exact ⟨.or, rfl⟩
    · exact ⟨.xor, rfl⟩
  obtain ⟨o, rfl⟩ := ho
  have k14 := (k2.trans (Kp.same s3)).trans k4
  have k04 := k1.trans k14
  refine ⟨_, rfl, _, rfl, _, rfl, _, rfl, st, c, R, rs, Pv, ps, rfl, g4, hR.kp k04, hP.kp k04, fun v5 H5 x5 w5 k5 g5 h5 => ⟨by walk_at "le", fun t H6 ht s6 e6 => ?_⟩⟩
  have kk := k04.trans k5
  exact q _ _ (.bin o x1 x5) ⟨w1, w5⟩ (kk.trans (Kp.same s6)) (g5.same s6) (at_tup (g5.dm kk) ht e6 (.cons (.str _) (.cons ((h1.mono (nw1 (k14.trans k5) g.mm)).mono (nws s6)) (.cons ((h5.mono (nw0 (g4.dm k04))).mono (nws s6)) .nil))))
end
end WP
namespace WP
open PySem PySem.Spec PyProof.Rows L2 TL
local macro_rules | `(tactic| walk_at "len") => `(tactic| (show _ ≤ sizeLine; rw [sizeLine_eq]; (try simp only [al, lit_len]); (try simp) <;> omega))
local macro_rules | `(tactic| walk_at "lt") => `(tactic| (show _ < sizeLine; rw [sizeLine_eq]; (try simp only [List.length_map, List.length_append, List.length_cons, List.length_nil, List.length_take]); omega))
local macro_rules | `(tactic| walk_at "le") => `(tactic| (show _ ≤ sizeLine; rw [sizeLine_eq]; (try simp only [List.length_map, List.length_append, List.length_cons, List.length_nil, List.length_take]); omega))
local macro_rules | `(tactic| walk_at "now") => `(tactic| first | assumption | (refine (by assumption : Same _ _) _ _ ?_; walk_at "now"))
local macro_rules | `(tactic| walk_at "at") => `(tactic| first | exact at0 | exact at1 | exact at2 | exact at3 | exact at4 | exact at5 | exact at6 | exact at7 | exact at8)
local macro_rules | `(tactic| walk_at "v") => `(tactic| refine ⟨_, rfl, ?_⟩)
local macro_rules | `(tactic| walk_at "ix") => `(tactic| refine ⟨_, _, _, _, rfl, rfl, SqT.of (by walk_at "now"), (by walk_at "at"), ?_⟩)
local macro_rules | `(tactic| walk_at "ixl") => `(tactic| refine ⟨_, _, _, _, rfl, rfl, SqL.of (by walk_at "now"), (by walk_at "at"), ?_⟩)
local macro_rules | `(tactic| walk_at "str") => `(tactic| refine ⟨_, _, rfl, rfl, (by walk_at "len"), ?_⟩)
local macro_rules | `(tactic| walk_at "int") => `(tactic| refine ⟨_, _, rfl, rfl, ?_⟩)
local macro_rules | `(tactic| walk_at "eq") => `(tactic| refine ⟨rfl, _, rfl, ?_⟩)
local macro_rules | `(tactic| walk_at "app") => `(tactic| refine ⟨_, _, _, rfl, rfl, (by walk_at "now"), (by walk_at "lt"), ?_⟩)
local macro_rules | `(tactic| walk_at "ext") => `(tactic| refine ⟨_, _, _, _, rfl, rfl, (by walk_at "now"), (by walk_at "now"), (by walk_at "le"), ?_⟩)
local macro_rules | `(tactic| walk_at "cat") => `(tactic| refine ⟨_, _, _, _, rfl, rfl, (by walk_at "now"), (by walk_at "now"), (by walk_at "le"), ?_⟩)
local macro_rules | `(tactic| walk_at "num") => `(tactic| refine ⟨(by assumption : Nu _), ?_⟩)
local macro_rules | `(tactic| walk_at "ty") => `(tactic| refine ⟨Or.inl ⟨rfl, _, SqL.of (by walk_at "now")⟩, ?_⟩)
local macro_rules | `(tactic| walk_at "un2") => `(tactic| refine ⟨_, _, rfl, SqT.of (by walk_at "now"), rfl, _, _, rfl, _, _, rfl, rfl, ?_⟩)
local macro_rules | `(tactic| walk_at "un3") => `(tactic| refine ⟨_, _, rfl, SqT.of (by walk_at "now"), rfl, _, _, rfl, _, _, rfl, _, _, rfl, rfl, ?_⟩)
local macro_rules | `(tactic| walk_at "un4") => `(tactic| refine ⟨_, _, rfl, SqT.of (by walk_at "now"), rfl, _, _, rfl, _, _, rfl, _, _, rfl, _, _, rfl, rfl, ?_⟩)
local macro_rules | `(tactic| walk_at "un6") => `(tactic| refine ⟨_, _, rfl, SqT.of (by walk_at "now"), rfl, _, _, rfl, _, _, rfl, _, _, rfl, _, _, rfl, _, _, rfl, _, _, rfl, rfl, ?_⟩)
local macro_rules | `(tactic| walk_at "un9") => `(tactic| refine ⟨_, _, rfl, SqT.of (by walk_at "now"), rfl, _, _, rfl, _, _, rfl, _, _, rfl, _, _, rfl, _, _, rfl, _, _, rfl, _, _, rfl, _, _, rfl, _, _, rfl, rfl, ?_⟩)
local macro_rules | `(tactic| walk_at "go") => `(tactic| repeat (first | walk_at "v" | walk_at "eq" | walk_at "ix" | walk_at "str" | walk_at "ty" | walk_at "num"))

theorem RfA.tail {st c a p : Addr} {H H' : Hp} {rs : List Ref} {xs : List V} (h : RfA st c H (.ref a) rs) (ha : H a = some (.lst xs)) (s : Same H H') (hp : p ∉ [st, c]) (e : H' p = some (.lst (xs.drop 1))) (hl : 1 < xs.length) : RfA st c H' (.ref p) (rs.drop 1) := by
  obtain ⟨a', xs', e1, ha', hx⟩ := h.at'.lst_inv
  cases e1
  rw [(out_some ha').2] at ha
  cases ha
  have hlen := hx.len
  rw [List.length_map] at hlen
  refine ⟨.lst (by rw [out_of hp]; exact e) ?_, fun e => ?_, by have := h.few; rw [List.length_drop]; omega, fun r hr => h.ok r (List.mem_of_mem_drop hr)⟩
  · rw [List.map_drop]
    exact (hx.mono (out_mono s)).drop 1
  · have := congrArg List.length e
    rw [List.length_drop, List.length_nil] at this
    omega
section
variable {P : Program} {w : World} {K : PySem.W.Frag} {mg : Str → Option Value} {base : Heap} {k : Nat}
abbrev s__law_operation : Stmt := top 69
abbrev n__law_operation : List Str := ["_law_state_here", "_law_headers_here", "_law_refs_here", "_law_params", "_law_kind", "_law_owner", "_law_name_here", "_law_width"]
theorem sc__law_operation : FnScope n__law_operation ["_law_state_here", "_law_headers_here", "_law_refs_here", "_law_params"] (defScope s__law_operation) := ⟨rfl, rfl, rfl, by decide +kernel, rfl, by decide +kernel, by decide +kernel⟩
/- slots: 0 _law_state_here, 1 _law_headers_here, 2 _law_refs_here, 3 _law_params, 4 _law_kind, 5 _law_owner, 6 _law_name_here, 7 _law_width -/
theorem ok__law_operation (B : Bt mg) (h : Has K mg "_law_operation" s__law_operation ["_law_state_here", "_law_headers_here", "_law_refs_here", "_law_params"]) (c1 : Ok P w K mg base k "_law_draw" ["_law_state_here", "_law_many"] spDraw) (c2 : Ok P w K mg base k "_law_pick" ["_law_state_here", "_law_row"] spPick)
    (c3 : Ok P w K mg base k "_law_expression" ["_law_state_here", "_law_refs_here", "_law_params"] spExpr) : Ok P w K mg base (k + 1) "_law_operation" ["_law_state_here", "_law_headers_here", "_law_refs_here", "_law_params"] spOper := by
  obtain ⟨_, _, G__law_draw, m__law_draw, k__law_draw, b__law_draw⟩ := c1.ex
  obtain ⟨_, _, G__law_pick, m__law_pick, k__law_pick, b__law_pick⟩ := c2.ex
  obtain ⟨_, _, G__law_expression, m__law_expression, k__law_expression, b__law_expression⟩ := c3.ex
  refine h.ok sc__law_operation (fun vs H Q E h => ?_) (fun f0 cdv A outer s H vs Q E hr h => ?_)
  · obtain ⟨_, _, _, _, _, _, _, _, rfl, _⟩ := h; rfl
  obtain ⟨st, c, hv, hs, R, rs, Pv, ps, rfl, g, hH, hR, hP, q⟩ := h
  refine ⟨_, (pss_cons (ps_set (i := 4) sc__law_operation.nd rfl (Or.inl rfl) (pe_call G__law_draw hr (by rfl) m__law_draw k__law_draw b__law_draw .nil pass0 (pa_cons (pv 0) (pa_cons pe_int pa_nil))))
    (Evl.pss_cut (ps_if (pt_cmpR op_lt (pv 4) pe_int (nomark _)) (pss_cons (ps_asg (pe_ix ix_list (pv 2) pe_int (fun _ _ => rfl)) (pg_tup rfl (pgs_cons (pg_name (i := 5) sc__law_operation.nd rfl (Or.inl rfl)) (pgs_cons (pg_name (i := 6) sc__law_operation.nd rfl (Or.inl rfl)) (pgs_cons (pg_name (i := 7) sc__law_operation.nd rfl (Or.inl rfl)) pgs_nil)))))
    (pss_one (ps_if (pt_cmpR op_gt (pe_callB call_len_seq (by rfl) B.len PySem.boot_len (pa_cons (pv 2) pa_nil)) pe_int (nomark _)) (pss_cons (ps_asg (pe_call G__law_pick hr (by rfl) m__law_pick k__law_pick b__law_pick .nil pass0 (pa_cons (pv 0) (pa_cons (pe_slice sl_listS (pv 2) (po_some pe_int) po_none) pa_nil))) (pg_tup rfl (pgs_cons (pg_name (i := 5) sc__law_operation.nd rfl (Or.inl rfl)) (pgs_cons (pg_name (i := 6) sc__law_operation.nd rfl (Or.inl rfl)) (pgs_cons (pg_name (i := 7) sc__law_operation.nd rfl (Or.inl rfl)) pgs_nil)))))
    (pss_one (ps_ret (pe_tupS (pa_cons pe_str (pa_cons (pe_tupS (pa_cons (pv 5) (pa_cons (pv 6) pa_nil))) (pa_cons (pe_call G__law_expression hr (by rfl) m__law_expression k__law_expression b__law_expression .nil pass0 (pa_cons (pv 0) (pa_cons (pv 2) (pa_cons (pv 3) pa_nil)))) pa_nil))))))) pss_nil))) pss_nil)
    (pss_cons (ps_if (pt_cmpR op_eq (pv 4) pe_int (nomark _)) (pss_one (ps_ret (pe_tupS (pa_cons pe_str pa_nil)))) pss_nil)
    (pss_cons (ps_if (pt_cmpR op_eq (pv 4) pe_int (nomark _)) (pss_one (ps_ret (pe_tupS (pa_cons pe_str (pa_cons (pe_ix ix_tup (pe_call G__law_pick hr (by rfl) m__law_pick k__law_pick b__law_pick .nil pass0 (pa_cons (pv 0) (pa_cons (pv 1) pa_nil))) pe_int (fun _ _ => rfl)) pa_nil))))) pss_nil)
    (pss_cons (ps_if (pt_cmpR op_eq (pv 4) pe_int (nomark _)) (pss_one (ps_ret (pe_tupS (pa_cons pe_str (pa_cons (pe_ix ix_tup (pe_call G__law_pick hr (by rfl) m__law_pick k__law_pick b__law_pick .nil pass0 (pa_cons (pv 0) (pa_cons (pv 1) pa_nil))) pe_int (fun _ _ => rfl)) pa_nil))))) pss_nil)
    (pss_cons (ps_if (pt_cmpR op_eq (pv 4) pe_int (nomark _)) (pss_one (ps_ret (pe_tupS (pa_cons pe_str (pa_cons (pe_call G__law_expression hr (by rfl) m__law_expression k__law_expression b__law_expression .nil pass0 (pa_cons (pv 0) (pa_cons (pv 2) (pa_cons (pv 3) pa_nil)))) pa_nil))))) pss_nil)
    (pss_one (ps_ret (pe_tupS (pa_cons pe_str (pa_cons (pe_call G__law_pick hr (by rfl) m__law_pick k__law_pick b__law_pick .nil pass0 (pa_cons (pv 0) (pa_cons (pe_lstS (pa_cons (pe_tupS (pa_cons pe_str (pa_cons (pe_call G__law_draw hr (by rfl) m__law_draw k__law_draw b__law_draw .nil pass0 (pa_cons (pv 0) (pa_cons pe_int pa_nil))) pa_nil))) (pa_cons (pe_tupS (pa_cons pe_str (pa_cons pe_str (pa_cons pe_str pa_nil)))) pa_nil))) pa_nil))) pa_nil))))))))))), ?_⟩
  refine ⟨_, rfl, st, c, 9, rfl, g, by decide, by decide, fun n H1 n0 n1 k1 g1 => ?_⟩
  refine ⟨fun σ' H2 => (∃ x y z, σ' = [some (.ref st), some hv, some R, some Pv, some (.int n), x, y, z]) ∧ H2 = H1, ?_, ?_⟩
  · refine ⟨_, rfl, _, _, rfl, rfl, _, rfl, ?_⟩
    by_cases h4 : n < 4
    · rw [decide_eq_true h4]
      obtain ⟨ra, rx, rfl, hra, hran, hrne, hrl, hrlen, rpick⟩ := (hR.kp k1).pick
      have hp0 : 0 < rx.length := List.length_pos_iff.mpr hrne
      obtain ⟨ta, ow, nm, wd, e1, hta, hw⟩ := rpick 0 rx[0] H1 (List.getElem?_eq_getElem hp0) Kp.refl
      refine iteT ⟨_, rfl, _, _, _, _, rfl, rfl, SqL.of hra, atI_nat (j := 0) (by rw [List.getElem?_eq_getElem hp0, e1]), _, _, rfl, SqT.of hta, rfl, _, _, rfl, _, _, rfl, _, _, rfl, rfl, ?_⟩
      refine ⟨_, rfl, ra, rx, rfl, .inl (SqL.of hra), _, _, rfl, rfl, _, rfl, ?_⟩
      by_cases h1 : (1 : Int) < (rx.length : Int)
      · rw [decide_eq_true h1]
        refine ⟨_, rfl, _, rfl, _, rfl, ra, rx, rfl, hra, fun p H2 hp s2 e2 => ?_⟩
        have ec : cutV rx (some 1) none = rx.drop 1 := cutV_from rx 1
        rw [ec] at e2
        have g2 := g1.same s2
        have hpn := g1.nin hp
        have hR2 := (hR.kp k1).tail hra s2 hpn e2 (by omega)
        obtain ⟨ra2, rx2, er, hra2, hran2, hrne2, hrl2, hrlen2, rpick2⟩ := hR2.pick
        cases er
        rw [e2] at hra2
        cases hra2
        refine ⟨st, c, p, _, rfl, g2, e2, hpn, hrne2, hrl2, fun i x H3 hx k3 g3 => ?_⟩
        obtain ⟨ta, ow, nm, wd, rfl, hta, hw⟩ := rpick2 i x H3 hx k3
        refine ⟨_, _, rfl, SqT.of hta, rfl, _, _, rfl, _, _, rfl, _, _, rfl, rfl, ?_⟩
        have k03 := (k1.trans (Kp.same s2)).trans k3
        refine ⟨_, rfl, _, rfl, by walk_at "le", fun t H4 ht s4 e4 => ?_⟩
        have k04 := k03.trans (Kp.same s4)
        refine ⟨_, rfl, _, rfl, _, rfl, st, c, _, rs, Pv, ps, rfl, g3.same s4, hR.kp k04, hP.kp k04, fun v5 H5 x5 w5 k5 g5 h5 => ⟨by walk_at "le", fun t2 H6 ht2 s6 e6 => ?_⟩⟩
        have kk := k04.trans k5
        have d04 : Dm H H4 := (g3.same s4).dm k04
        exact q _ _ (.set (ow, nm) x5) ⟨hw.1, w5⟩ (kk.trans (Kp.same s6)) (g5.same s6) (at_tup (g5.dm kk) ht2 e6 (.cons (.str _) (.cons (((at_tup (g3.dm k03) ht e4 (.cons (.str _) (.cons (.str _) .nil))).mono (nw1 k5 g.mm)).mono (nws s6)) (.cons ((h5.mono (nw0 d04)).mono (nws s6)) .nil))))
      · rw [decide_eq_false h1]
        exact ⟨⟨_, _, _, rfl⟩, rfl⟩
    · rw [decide_eq_false h4]
      exact ⟨⟨_, _, _, rfl⟩, rfl⟩
  rintro σ' H2 ⟨⟨x, y, z, rfl⟩, rfl⟩
  obtain ⟨ha, hx, rfl, hha, hhan, hhne, hhl, _, hpick⟩ := (hH.kp k1).pick
  refine ⟨_, rfl, rfl, _, rfl, ?_⟩
  by_cases h4 : V.int n = V.int 4
  · exact ifE h4 ⟨by walk_at "le", fun t H3 ht s3 e3 => q _ _ .drop trivial (k1.trans (Kp.same s3)) (g1.same s3) (at_tup (g1.dm k1) ht e3 (.cons (.str _) .nil))⟩
  refine ifN h4 ⟨_, rfl, rfl, _, rfl, ?_⟩
  by_cases h5 : V.int n = V.int 5
  · refine ifE h5 ⟨_, rfl, _, rfl, st, c, ha, hx, rfl, g1, hha, hhan, hhne, hhl, fun i x H3 hxi k3 g3 => ?_⟩
    obtain ⟨ta, nm, yy, rfl, hta, hw⟩ := hpick i x H3 hxi k3
    refine ⟨_, _, _, _, rfl, rfl, SqT.of hta, at1, by walk_at "le", fun t H4 ht s4 e4 => ?_⟩
    have kk := k1.trans k3
    exact q _ _ (.add nm) hw (kk.trans (Kp.same s4)) (g3.same s4) (at_tup (g3.dm kk) ht e4 (.cons (.str _) (.cons (.str _) .nil)))
  refine ifN h5 ⟨_, rfl, rfl, _, rfl, ?_⟩
  by_cases h6 : V.int n = V.int 6
  · refine ifE h6 ⟨_, rfl, _, rfl, st, c, ha, hx, rfl, g1, hha, hhan, hhne, hhl, fun i x H3 hxi k3 g3 => ?_⟩
    obtain ⟨ta, nm, yy, rfl, hta, hw⟩ := hpick i x H3 hxi k3
    refine ⟨_, _, _, _, rfl, rfl, SqT.of hta, at1, by walk_at "le", fun t H4 ht s4 e4 => ?_⟩
    have kk := k1.trans k3
    exact q _ _ (.rem nm) hw (kk.trans (Kp.same s4)) (g3.same s4) (at_tup (g3.dm kk) ht e4 (.cons (.str _) (.cons (.str _) .nil)))
  refine ifN h6 ⟨_, rfl, rfl, _, rfl, ?_⟩
  by_cases h7 : V.int n = V.int 7
  · refine ifE h7 ⟨_, rfl, _, rfl, _, rfl, st, c, R, rs, Pv, ps, rfl, g1, hR.kp k1, hP.kp k1, fun v3 H3 x3 w3 k3 g3 h3 => ⟨by walk_at "le", fun t H4 ht s4 e4 => ?_⟩⟩
    have kk := k1.trans k3
    exact q _ _ (.send x3) w3 (kk.trans (Kp.same s4)) (g3.same s4) (at_tup (g3.dm kk) ht e4 (.cons (.str _) (.cons ((h3.mono (nw0 (g1.dm k1))).mono (nws s4)) .nil)))
  refine ifN h7 ?_
  refine ⟨_, rfl, _, rfl, st, c, 9, rfl, g1, by decide, by decide, fun n3 H3 n30 n31 k3 g3 => ⟨by walk_at "le", fun t4 H4 ht4 s4 e4 => ⟨by walk_at "le", fun t5 H5 ht5 s5 e5 => ⟨by walk_at "le", fun p H6 hp s6 e6 => ?_⟩⟩⟩⟩
  have g6 := ((g3.same s4).same s5).same s6
  have k03 := k1.trans k3
  have k06 := ((k03.trans (Kp.same s4)).trans (Kp.same s5)).trans (Kp.same s6)
  have d03 := g3.dm k03
  refine ⟨st, c, p, _, rfl, g6, e6, ((g3.same s4).same s5).nin hp, by simp, by simp, fun i x H7 hx k7 g7 => ?_⟩
  have hit : ∃ o : Opd, wOpd o ∧ At (Nw H H6) x (eOpd o) := by
    rcases i with _ | _ | i
    · cases hx
      exact ⟨.num n3, ⟨n30, by omega⟩, .tup (nw_of (d03 t4 ht4) (s6 _ _ (s5 _ _ e4))) (.cons (.str _) (.cons (.int _) .nil))⟩
    · cases hx
      exact ⟨.fld "packet" "port", ⟨.inr (.inl rfl), port_nm⟩, .tup (nw_of (d03 t5 (Same.dm s4 t5 ht5)) (s6 _ _ e5)) (.cons (.str _) (.cons (.str _) (.cons (.str _) .nil)))⟩
    · simp at hx
  obtain ⟨o, ho, hat⟩ := hit
  refine ⟨by walk_at "le", fun t8 H8 ht8 s8 e8 => ?_⟩
  have kk := k06.trans k7
  exact q _ _ (.send (.one o)) ho (kk.trans (Kp.same s8)) (g7.same s8) (at_tup (g7.dm kk) ht8 e8 (.cons (.str _) (.cons ((hat.mono (nw1 k7 g.mm)).mono (nws s8)) .nil)))
end
end WP
namespace WP
open PySem PySem.Spec PyProof.Rows L2 TL
local macro_rules | `(tactic| walk_at "len") => `(tactic| (show _ ≤ sizeLine; rw [sizeLine_eq]; (try simp only [al, lit_len]); (try simp) <;> omega))
local macro_rules | `(tactic| walk_at "lt") => `(tactic| (show _ < sizeLine; rw [sizeLine_eq]; (try simp only [List.length_map, List.length_append, List.length_cons, List.length_nil, List.length_take]); omega))
local macro_rules | `(tactic| walk_at "le") => `(tactic| (show _ ≤ sizeLine; rw [sizeLine_eq]; (try simp only [List.length_map, List.length_append, List.length_cons, List.length_nil, List.length_take]); omega))
local macro_rules | `(tactic| walk_at "now") => `(tactic| first | assumption | (refine (by assumption : Same _ _) _ _ ?_; walk_at "now"))
local macro_rules | `(tactic| walk_at "at") => `(tactic| first | exact at0 | exact at1 | exact at2 | exact at3 | exact at4 | exact at5 | exact at6 | exact at7 | exact at8)
local macro_rules | `(tactic| walk_at "v") => `(tactic| refine ⟨_, rfl, ?_⟩)
local macro_rules | `(tactic| walk_at "ix") => `(tactic| refine ⟨_, _, _, _, rfl, rfl, SqT.of (by walk_at "now"), (by walk_at "at"), ?_⟩)
local macro_rules | `(tactic| walk_at "ixl") => `(tactic| refine ⟨_, _, _, _, rfl, rfl, SqL.of (by walk_at "now"), (by walk_at "at"), ?_⟩)
local macro_rules | `(tactic| walk_at "str") => `(tactic| refine ⟨_, _, rfl, rfl, (by walk_at "len"), ?_⟩)
local macro_rules | `(tactic| walk_at "int") => `(tactic| refine ⟨_, _, rfl, rfl, ?_⟩)
local macro_rules | `(tactic| walk_at "eq") => `(tactic| refine ⟨rfl, _, rfl, ?_⟩)
local macro_rules | `(tactic| walk_at "app") => `(tactic| refine ⟨_, _, _, rfl, rfl, (by walk_at "now"), (by walk_at "lt"), ?_⟩)
local macro_rules | `(tactic| walk_at "ext") => `(tactic| refine ⟨_, _, _, _, rfl, rfl, (by walk_at "now"), (by walk_at "now"), (by walk_at "le"), ?_⟩)
local macro_rules | `(tactic| walk_at "cat") => `(tactic| refine ⟨_, _, _, _, rfl, rfl, (by walk_at "now"), (by walk_at "now"), (by walk_at "le"), ?_⟩)
local macro_rules | `(tactic| walk_at "num") => `(tactic| refine ⟨(by assumption : Nu _), ?_⟩)
local macro_rules | `(tactic| walk_at "ty") => `(tactic| refine ⟨Or.inl ⟨rfl, _, SqL.of (by walk_at "now")⟩, ?_⟩)
local macro_rules | `(tactic| walk_at "un2") => `(tactic| refine ⟨_, _, rfl, SqT.of (by walk_at "now"), rfl, _, _, rfl, _, _, rfl, rfl, ?_⟩)
local macro_rules | `(tactic| walk_at "un3") => `(tactic| refine ⟨_, _, rfl, SqT.of (by walk_at "now"), rfl, _, _, rfl, _, _, rfl, _, _, rfl, rfl, ?_⟩)
local macro_rules | `(tactic| walk_at "un4") => `(tactic| refine ⟨_, _, rfl, SqT.of (by walk_at "now"), rfl, _, _, rfl, _, _, rfl, _, _, rfl, _, _, rfl, rfl, ?_⟩)
local macro_rules | `(tactic| walk_at "un6") => `(tactic| refine ⟨_, _, rfl, SqT.of (by walk_at "now"), rfl, _, _, rfl, _, _, rfl, _, _, rfl, _, _, rfl, _, _, rfl, _, _, rfl, rfl, ?_⟩)
local macro_rules | `(tactic| walk_at "un9") => `(tactic| refine ⟨_, _, rfl, SqT.of (by walk_at "now"), rfl, _, _, rfl, _, _, rfl, _, _, rfl, _, _, rfl, _, _, rfl, _, _, rfl, _, _, rfl, _, _, rfl, _, _, rfl, rfl, ?_⟩)
local macro_rules | `(tactic| walk_at "go") => `(tactic| repeat (first | walk_at "v" | walk_at "eq" | walk_at "ix" | walk_at "str" | walk_at "ty" | walk_at "num"))

structure wGA (a : Act) : Prop where
  nm : Nm a.name
  few : a.params.length ≤ 16
  ps : ∀ p ∈ a.params, wGP p
  ops : Few wOpn a.ops
def spActions : Sp := fun vs H Q _ => ∃ st c hv hs R rs, vs = [.ref st, hv, R] ∧ Gs st c H ∧ HdA st c H hv hs ∧ RfA st c H R rs ∧ ∀ v H' l, Kp [st, c] H H' → Gs st c H' → At (Nw H H') v (.list (List.map eAct l)) → 1 ≤ l.length → l.length ≤ 8 → (∀ x ∈ l, wGA x) → Q v H'
theorem pick_int {ns : List Int} {lo hi : Int} (h : ∀ w ∈ ns, lo ≤ w ∧ w ≤ hi) {i : Nat} {x : V} (hx : (ns.map V.int)[i]? = some x) : ∃ n, x = .int n ∧ lo ≤ n ∧ n ≤ hi := by
  rw [List.getElem?_map] at hx
  cases e : ns[i]? with
  | none => rw [e] at hx; cases hx
  | some n =>
    rw [e] at hx
    cases hx
    exact ⟨n, rfl, h n (List.mem_of_getElem? e)⟩
section
variable {P : Program} {w : World} {K : PySem.W.Frag} {mg : Str → Option Value} {base : Heap} {k : Nat}
abbrev s__law_actions : Stmt := top 70
abbrev n__law_actions : List Str := ["_law_state_here", "_law_headers_here", "_law_refs_here", "_law_actions_here", "_law_k", "_law_many", "_law_params", "_law_ops", "_law_j"]
theorem sc__law_actions : FnScope n__law_actions ["_law_state_here", "_law_headers_here", "_law_refs_here"] (defScope s__law_actions) := ⟨rfl, rfl, rfl, by decide +kernel, rfl, by decide +kernel, by decide +kernel⟩
/- slots: 0 _law_state_here(c), 1 _law_headers_here(c), 2 _law_refs_here(c), 3 _law_actions_here, 4 _law_k, 5 _law_many, 6 _law_params(c), 7 _law_ops, 8 _law_j -/
theorem ok__law_actions (B : Bt mg) (h : Has K mg "_law_actions" s__law_actions ["_law_state_here", "_law_headers_here", "_law_refs_here"]) (c1 : Ok P w K mg base k "_law_draw" ["_law_state_here", "_law_many"] spDraw) (c2 : Ok P w K mg base k "_law_pick" ["_law_state_here", "_law_row"] spPick)
    (c3 : Ok P w K mg base k "_law_name" ["_law_state_here", "_law_k"] spName) (c4 : Ok P w K mg base k "_law_operation" ["_law_state_here", "_law_headers_here", "_law_refs_here", "_law_params"] spOper) : Ok P w K mg base (k + 1) "_law_actions" ["_law_state_here", "_law_headers_here", "_law_refs_here"] spActions := by
  obtain ⟨_, _, G__law_draw, m__law_draw, k__law_draw, b__law_draw⟩ := c1.ex
  obtain ⟨_, _, G__law_pick, m__law_pick, k__law_pick, b__law_pick⟩ := c2.ex
  obtain ⟨_, _, G__law_name, m__law_name, k__law_name, b__law_name⟩ := c3.ex
  obtain ⟨_, _, G__law_operation, m__law_operation, k__law_operation, b__law_operation⟩ := c4.ex
  refine h.ok sc__law_actions (fun vs H Q E h => ?_) (fun f0 cdv A outer s H vs Q E hr h => ?_)
  · obtain ⟨_, _, _, _, _, _, rfl, _⟩ := h; rfl
  obtain ⟨st, c, hv, hs, R, rs, rfl, g, hH, hR, q⟩ := h
  refine ⟨_, (pss_cons (ps_set (i := 3) sc__law_actions.nd rfl (Or.inl rfl) (pe_lstS pa_nil))
    (pss_cons (ps_for PassesOwn.never rfl (pi_range1 (by rfl) B.range (pa_cons (pe_op op_add pe_int (pe_call G__law_draw hr (by rfl) m__law_draw k__law_draw b__law_draw .nil pass0 (pa_cons (pv 0) (pa_cons (pe_call G__law_pick hr (by rfl) m__law_pick k__law_pick b__law_pick .nil pass0 (pa_cons (pv 0) (pa_cons (pe_lstS (pa_cons pe_int (pa_cons pe_int (pa_cons pe_int pa_nil)))) pa_nil))) pa_nil)))) pa_nil)) (pg_name (i := 4) sc__law_actions.nd rfl (Or.inl rfl)) (pss_cons (ps_set (i := 5) sc__law_actions.nd rfl (Or.inl rfl) (pe_call G__law_draw hr (by rfl) m__law_draw k__law_draw b__law_draw .nil pass0 (pa_cons (pv 0) (pa_cons (pe_call G__law_pick hr (by rfl) m__law_pick k__law_pick b__law_pick .nil pass0 (pa_cons (pv 0) (pa_cons (pe_lstS (pa_cons pe_int (pa_cons pe_int (pa_cons pe_int pa_nil)))) pa_nil))) pa_nil))))
    (pss_cons (ps_set (i := 6) sc__law_actions.nd rfl (Or.inr rfl) (pe_lc (own := [("_law_j", 8)]) rfl sc__law_actions.nd (pi_range1 (by rfl) B.range (pa_cons (pv 5) pa_nil)) (blkOk_by (N := n__law_actions) (sc := defScope s__law_actions) (by decide +kernel)) (fun _ _ _ _ _ => (pg_name (i := 8) sc__law_actions.nd rfl (Or.inl rfl) (Or.inr rfl))) (fun _ _ _ _ _ => pts_nil) (fun _ _ _ _ _ => (pe_tupS (pa_cons (pe_call G__law_name hr (by rfl) m__law_name k__law_name b__law_name .nil pass0 (pa_cons (pv 0) (pa_cons (pv 8) pa_nil))) (pa_cons (pe_call G__law_pick hr (by rfl) m__law_pick k__law_pick b__law_pick .nil pass0 (pa_cons (pv 0) (pa_cons (pe_lstS (pa_cons pe_int (pa_cons pe_int (pa_cons pe_int (pa_cons pe_int pa_nil))))) pa_nil))) pa_nil))))))
    (pss_cons (ps_setLc (i := 7) (own := [("_law_j", 8)]) rfl sc__law_actions.nd rfl rfl (sw_true rfl rfl rfl (by decide +kernel)) (pi_range1 (by rfl) B.range (pa_cons (pe_call G__law_draw hr (by rfl) m__law_draw k__law_draw b__law_draw .nil pass0 (pa_cons (pv 0) (pa_cons (pe_call G__law_pick hr (by rfl) m__law_pick k__law_pick b__law_pick .nil pass0 (pa_cons (pv 0) (pa_cons (pe_lstS (pa_cons pe_int (pa_cons pe_int (pa_cons pe_int pa_nil)))) pa_nil))) pa_nil))) pa_nil)) (blkOk_by (N := n__law_actions) (sc := defScope s__law_actions) (by decide +kernel)) (fun _ _ _ _ _ => (pg_name (i := 8) sc__law_actions.nd rfl (Or.inl rfl) (Or.inr rfl))) (fun _ _ _ _ _ => pts_nil) (fun _ _ _ _ _ => (pe_call G__law_operation hr (by rfl) m__law_operation k__law_operation b__law_operation .nil pass0 (pa_cons (pv 0) (pa_cons (pv 1) (pa_cons (pv 2) (pa_cons (pv 6) pa_nil)))))))
    (pss_one (ps_expr (pe_bm PySem.F.plainAttrs_list PySem.F.slot_list_append PySem.F.type_list_append mt_appendS (pv 3) (pa_cons (pe_tupS (pa_cons pe_str (pa_cons (pe_call G__law_name hr (by rfl) m__law_name k__law_name b__law_name .nil pass0 (pa_cons (pv 0) (pa_cons (pv 4) pa_nil))) (pa_cons (pv 6) (pa_cons (pv 7) pa_nil))))) pa_nil))))))))
    (pss_one (ps_ret (pv 3))))), ?_⟩
  refine ⟨by walk_at "le", fun L H1 hL s1 e1 => ?_⟩
  have lb1 := GB.start g.mm hL s1 e1
  have nL := g.nin hL
  have g1 := g.same s1
  refine ⟨_, rfl, _, rfl, by walk_at "le", fun p H2 hp s2 e2 => ⟨st, c, p, _, rfl, g1.same s2, e2, g1.nin hp, by simp, by simp, fun i x H3 hx k3 g3 => ?_⟩⟩
  obtain ⟨mx, rfl, m3, m8⟩ := pick_int (ns := [3, 3, 8]) (lo := 3) (hi := 8) (by decide) hx
  refine ⟨st, c, mx, rfl, g3, by omega, by omega, fun n H4 n0 n1 k4 g4 => ⟨_, _, rfl, rfl, _, rfl, by omega, by omega, ?_⟩⟩
  have k14 := ((Kp.same s2).trans k3).trans k4
  have lb4 := lb1.go k14 (g4.dm k14)
  clear k14 g3 k4 k3 e2 hp s2 lb1 g1 e1 s1
  refine for_range (fun j σ' H' => ∃ (l : List Act) (x y z u : Option V), σ' = [some (.ref st), some hv, some R, some (.ref L), x, y, z, u, none] ∧ l.length = j ∧ GB [st, c] L H H' (l.map eAct) ∧ Gs st c H' ∧ ∀ a ∈ l, wGA a) ⟨[], _, _, _, _, rfl, rfl, lb4, g4, by simp⟩ ?_ ?_
  · rintro j σ' H5 hj ⟨l, x, y, z, u, rfl, hlj, lb, g5, hw⟩
    refine ⟨_, rfl, _, rfl, by walk_at "le", fun p H6 hp s6 e6 => ⟨st, c, p, _, rfl, g5.same s6, e6, g5.nin hp, by simp, by simp, fun i x H7 hx k7 g7 => ?_⟩⟩
    obtain ⟨mx, rfl, m3, m5⟩ := pick_int (ns := [3, 3, 5]) (lo := 3) (hi := 5) (by decide) hx
    refine ⟨st, c, mx, rfl, g7, by omega, by omega, fun many H8 mn0 mn1 k8 g8 => ?_⟩
    have k58 := ((Kp.same s6).trans k7).trans k8
    clear k7 k8 g7 s6 e6 hp
    -- the parameters
    refine ⟨_, rfl, _, rfl, by omega, by omega, fun D hD => lc_range (fun i H' => ∃ ps : List Par, ps.length = i ∧ (∀ p ∈ ps, wGP p) ∧ GB [st, c] D H8 H' (ps.map ePar) ∧ Gs st c H') ⟨[], rfl, by simp, GB.start g8.mm hD (Same.new hD) upd_same, g8.same (Same.new hD)⟩ (fun i H9 hi ⟨ps, e9, w9, b9, g9⟩ => ?_) (fun H9 ⟨ps, e9, w9, b9, g9⟩ => ?_)⟩
    · refine ⟨rfl, _, rfl, _, rfl, st, c, _, rfl, g9, by omega, by omega, fun nm H10 hnm k10 g10 => ?_⟩
      refine ⟨_, rfl, by walk_at "le", fun p H11 hp s11 e11 => ⟨st, c, p, _, rfl, g10.same s11, e11, g10.nin hp, by simp, by simp, fun i x H12 hx k12 g12 => ?_⟩⟩
      obtain ⟨wd, rfl, wd1, wd2⟩ := pick_int (ns := [1, 3, 8, 32]) (lo := 1) (hi := 32) (by decide) hx
      have k912 := (k10.trans (Kp.same s11)).trans k12
      refine ⟨by walk_at "le", fun t H13 ht s13 e13 => ?_⟩
      obtain ⟨us, eu, hlt, go⟩ := b9.ap (d := ePar (nm, wd)) (k912.trans (Kp.same s13)) ((g12.dm k912).trans (Same.dm s13)) (at_tup (g12.dm k912) ht e13 (.cons (.str _) (.cons (.int _) .nil))) (by simp; omega)
      refine ⟨us, eu, hlt, ps ++ [(nm, wd)], by simp [e9], fun p hp => ?_, ?_, (g12.same s13).ap b9.nM (Kp.wr (by simp))⟩
      · rcases List.mem_append.mp hp with hp | hp
        · exact w9 p hp
        · rw [List.mem_singleton.mp hp]; exact ⟨hnm, wd1, wd2⟩
      · rw [List.map_append]
        exact go _ (Kp.wr (by simp)) upd_same
    have k59 := k58.trans b9.kp
    have hP9 : PsA st c H9 (.ref D) ps := ⟨b9.at.mono (nw_out g8.mm), by omega, w9⟩
    have pat := b9.at.mono (nw0 (g8.dm k58))
    -- the operations
    refine ⟨_, rfl, _, rfl, by walk_at "le", fun p H10 hp s10 e10 => ⟨st, c, p, _, rfl, g9.same s10, e10, g9.nin hp, by simp, by simp, fun i x H11 hx k11 g11 => ?_⟩⟩
    obtain ⟨mx, rfl, m5', m9⟩ := pick_int (ns := [5, 5, 9]) (lo := 5) (hi := 9) (by decide) hx
    refine ⟨st, c, mx, rfl, g11, by omega, by omega, fun no H12 no0 no1 k12 g12 => ?_⟩
    have k912 := ((Kp.same s10).trans k11).trans k12
    have k512 := k59.trans k912
    have k012 := lb.kp.trans k512
    have hP12 := hP9.kp k912
    clear k11 k12 g11 s10 e10 hp
    refine ⟨_, rfl, by omega, by omega, fun D2 hD2 => lc_range (fun i H' => ∃ os : List Opn, os.length = i ∧ (∀ o ∈ os, wOpn o) ∧ GB [st, c] D2 H12 H' (os.map eOpn) ∧ Gs st c H') ⟨[], rfl, by simp, GB.start g12.mm hD2 (Same.new hD2) upd_same, g12.same (Same.new hD2)⟩ (fun i H13 hi ⟨os, e13, w13, b13, g13⟩ => ?_) (fun H13 ⟨os, e13, w13, b13, g13⟩ => ?_)⟩
    · refine ⟨rfl, _, rfl, _, rfl, _, rfl, _, rfl, st, c, hv, hs, R, rs, _, ps, rfl, g13, hH.kp (k012.trans b13.kp), hR.kp (k012.trans b13.kp), hP12.kp b13.kp, fun v14 H14 x14 w14 k14 g14 h14 => ?_⟩
      obtain ⟨us, eu, hlt, go⟩ := b13.ap (d := eOpn x14) k14 (g14.dm k14) h14 (by simp; omega)
      refine ⟨us, eu, hlt, os ++ [x14], by simp [e13], fun o ho => ?_, ?_, g14.ap b13.nM (Kp.wr (by simp))⟩
      · rcases List.mem_append.mp ho with ho | ho
        · exact w13 o ho
        · rw [List.mem_singleton.mp ho]; exact w14
      · rw [List.map_append]
        exact go _ (Kp.wr (by simp)) upd_same
    have k513 := k512.trans b13.kp
    have lb13 := lb.go k513 (g13.dm k513)
    refine ⟨_, rfl, lb13.ty, _, rfl, _, rfl, st, c, _, rfl, g13, by omega, by omega, fun nm H14 hnm k14 g14 => ⟨_, rfl, _, rfl, by walk_at "le", fun p H15 hp s15 e15 => ?_⟩⟩
    have k514 := k513.trans k14
    have i1 := ((pat.mono (nw1 (k912.trans (b13.kp.trans k14)) g5.mm)).mono (nws s15))
    have i2 := ((b13.at.mono (nw0 (g12.dm k512))).mono (nw1 k14 g5.mm)).mono (nws s15)
    obtain ⟨us, e, hlt, go⟩ := lb.ap (d := eAct ⟨nm, ps, os⟩) (k514.trans (Kp.same s15)) ((g14.dm k514).trans (Same.dm s15)) (at_tup (g14.dm k514) hp e15 (.cons (.str _) (.cons (.str _) (.cons i1 (.cons i2 .nil))))) (by simp; omega)
    refine ⟨_, _, _, rfl, rfl, e, hlt, fun H16 k16 e16 => ?_⟩
    refine ⟨l ++ [⟨nm, ps, os⟩], _, _, _, _, rfl, by simp [hlj], ?_, (g14.same s15).ap nL k16, fun a ha => ?_⟩
    · rw [List.map_append]; exact go H16 k16 e16
    · rcases List.mem_append.mp ha with ha | ha
      · exact hw a ha
      · rw [List.mem_singleton.mp ha]
        exact ⟨hnm, by show ps.length ≤ 16; omega, w9, by show os.length ≤ 16; omega, w13⟩
  · rintro σ' H5 ⟨l, x, y, z, u, rfl, hlj, lb, g5, hw⟩
    exact ⟨_, rfl, q _ _ l lb.kp g5 lb.at (by omega) (by omega) hw⟩
end
end WP
namespace WP
open PySem PySem.Spec PyProof.Rows L2 TL
local macro_rules | `(tactic| walk_at "len") => `(tactic| (show _ ≤ sizeLine; rw [sizeLine_eq]; (try simp only [al, lit_len]); (try simp) <;> omega))
local macro_rules | `(tactic| walk_at "lt") => `(tactic| (show _ < sizeLine; rw [sizeLine_eq]; (try simp only [List.length_map, List.length_append, List.length_cons, List.length_nil, List.length_take]); omega))
local macro_rules | `(tactic| walk_at "le") => `(tactic| (show _ ≤ sizeLine; rw [sizeLine_eq]; (try simp only [List.length_map, List.length_append, List.length_cons, List.length_nil, List.length_take]); omega))
local macro_rules | `(tactic| walk_at "now") => `(tactic| first | assumption | (refine (by assumption : Same _ _) _ _ ?_; walk_at "now"))
local macro_rules | `(tactic| walk_at "at") => `(tactic| first | exact at0 | exact at1 | exact at2 | exact at3 | exact at4 | exact at5 | exact at6 | exact at7 | exact at8)
local macro_rules | `(tactic| walk_at "v") => `(tactic| refine ⟨_, rfl, ?_⟩)
local macro_rules | `(tactic| walk_at "ix") => `(tactic| refine ⟨_, _, _, _, rfl, rfl, SqT.of (by walk_at "now"), (by walk_at "at"), ?_⟩)
local macro_rules | `(tactic| walk_at "ixl") => `(tactic| refine ⟨_, _, _, _, rfl, rfl, SqL.of (by walk_at "now"), (by walk_at "at"), ?_⟩)
local macro_rules | `(tactic| walk_at "str") => `(tactic| refine ⟨_, _, rfl, rfl, (by walk_at "len"), ?_⟩)
local macro_rules | `(tactic| walk_at "int") => `(tactic| refine ⟨_, _, rfl, rfl, ?_⟩)
local macro_rules | `(tactic| walk_at "eq") => `(tactic| refine ⟨rfl, _, rfl, ?_⟩)
local macro_rules | `(tactic| walk_at "app") => `(tactic| refine ⟨_, _, _, rfl, rfl, (by walk_at "now"), (by walk_at "lt"), ?_⟩)
local macro_rules | `(tactic| walk_at "ext") => `(tactic| refine ⟨_, _, _, _, rfl, rfl, (by walk_at "now"), (by walk_at "now"), (by walk_at "le"), ?_⟩)
local macro_rules | `(tactic| walk_at "cat") => `(tactic| refine ⟨_, _, _, _, rfl, rfl, (by walk_at "now"), (by walk_at "now"), (by walk_at "le"), ?_⟩)
local macro_rules | `(tactic| walk_at "num") => `(tactic| refine ⟨(by assumption : Nu _), ?_⟩)
local macro_rules | `(tactic| walk_at "ty") => `(tactic| refine ⟨Or.inl ⟨rfl, _, SqL.of (by walk_at "now")⟩, ?_⟩)
local macro_rules | `(tactic| walk_at "un2") => `(tactic| refine ⟨_, _, rfl, SqT.of (by walk_at "now"), rfl, _, _, rfl, _, _, rfl, rfl, ?_⟩)
local macro_rules | `(tactic| walk_at "un3") => `(tactic| refine ⟨_, _, rfl, SqT.of (by walk_at "now"), rfl, _, _, rfl, _, _, rfl, _, _, rfl, rfl, ?_⟩)
local macro_rules | `(tactic| walk_at "un4") => `(tactic| refine ⟨_, _, rfl, SqT.of (by walk_at "now"), rfl, _, _, rfl, _, _, rfl, _, _, rfl, _, _, rfl, rfl, ?_⟩)
local macro_rules | `(tactic| walk_at "un6") => `(tactic| refine ⟨_, _, rfl, SqT.of (by walk_at "now"), rfl, _, _, rfl, _, _, rfl, _, _, rfl, _, _, rfl, _, _, rfl, _, _, rfl, rfl, ?_⟩)
local macro_rules | `(tactic| walk_at "un9") => `(tactic| refine ⟨_, _, rfl, SqT.of (by walk_at "now"), rfl, _, _, rfl, _, _, rfl, _, _, rfl, _, _, rfl, _, _, rfl, _, _, rfl, _, _, rfl, _, _, rfl, _, _, rfl, rfl, ?_⟩)
local macro_rules | `(tactic| walk_at "go") => `(tactic| repeat (first | walk_at "v" | walk_at "eq" | walk_at "ix" | walk_at "str" | walk_at "ty" | walk_at "num"))

structure ActA (st c : Addr) (H : Hp) (R : V) (as : List Act) : Prop where
  at' : At (Out [st, c] H) R (.list (as.map eAct))
  one : 1 ≤ as.length
  few : as.length ≤ 8
  ok : ∀ a ∈ as, wGA a
theorem ActA.kp {st c : Addr} {H H' : Hp} {R : V} {as : List Act} (h : ActA st c H R as) (k : Kp [st, c] H H') : ActA st c H' R as := ⟨h.at'.mono k.out, h.one, h.few, h.ok⟩
def spArgs : Sp := fun vs H Q _ => ∃ st c Av as nm, vs = [.ref st, Av, .str nm] ∧ Gs st c H ∧ ActA st c H Av as ∧ (∃ a ∈ as, a.name = nm) ∧ ∀ v H' l, Kp [st, c] H H' → Gs st c H' → At (Nw H H') v (.list (List.map PyData.int l)) → l.length ≤ 16 → (∀ n ∈ l, Nu n) → Q v H'
theorem run_lt {c : Nat} (h : isRun c = true) : c < 128 := by
  unfold isRun isLet isDig at h
  simp only [Bool.or_eq_true, Bool.and_eq_true, decide_eq_true_eq, beq_iff_eq] at h
  omega
theorem nm_sok {s : Str} (h : Nm s) : PyData.strOk s = true := by
  unfold PyData.strOk
  rw [← Array.all_toList]
  refine List.all_eq_true.mpr fun c hc => ?_
  have := run_lt (h.run c hc)
  exact decide_eq_true (by omega)
theorem own_sok {s : Str} (h : Own s) : PyData.strOk s = true := by
  rcases h with rfl | rfl | h
  · decide +kernel
  · decide +kernel
  · exact nm_sok h
theorem fld_shaped {f : Fld} (h : wFld f) : SeqAt.shaped (eFld f) = true := by
  simp [SeqAt.shaped, eFld, PyData.canLay0, PyData.canLayAll0, PyData.depth, PyData.depthAll, own_sok h.1, nm_sok h.2]
theorem flds_lay : ∀ {l : List Fld}, (∀ f ∈ l, wFld f) → PyData.canLayAll0 (l.map eFld) = true ∧ PyData.depthAll (l.map eFld) ≤ 2
  | [], _ => ⟨by simp [PyData.canLayAll0], by simp [PyData.depthAll]⟩
  | f :: l, h => by
    have h1 := h f (by simp)
    obtain ⟨h2, h3⟩ := flds_lay (l := l) fun g hg => h g (List.mem_cons_of_mem _ hg)
    refine ⟨?_, ?_⟩
    · simp only [List.map_cons, PyData.canLayAll0, Bool.and_eq_true]
      exact ⟨by simp [eFld, PyData.canLay0, PyData.canLayAll0, own_sok h1.1, nm_sok h1.2], h2⟩
    · have : (eFld f).depth ≤ 2 := by simp [eFld, PyData.depth, PyData.depthAll]
      simp only [List.map_cons, PyData.depthAll]
      omega
theorem flds_shaped {l : List Fld} (h : ∀ f ∈ l, wFld f) : SeqAt.shaped (.list (l.map eFld)) = true := by
  obtain ⟨h1, h2⟩ := flds_lay h
  show (PyData.canLay0 (.list (l.map eFld)) && decide (PyData.depth (.list (l.map eFld)) ≤ 64)) = true
  rw [Bool.and_eq_true]
  exact ⟨by simp only [PyData.canLay0]; exact h1, decide_eq_true (by simp only [PyData.depth]; omega)⟩
section
variable {P : Program} {w : World} {K : PySem.W.Frag} {mg : Str → Option Value} {base : Heap} {k : Nat}
abbrev s__law_args : Stmt := top 71
abbrev n__law_args : List Str := ["_law_state_here", "_law_actions_here", "_law_name_here", "_law_params", "_law_action", "_law_param"]
theorem sc__law_args : FnScope n__law_args ["_law_state_here", "_law_actions_here", "_law_name_here"] (defScope s__law_args) := ⟨rfl, rfl, rfl, by decide +kernel, rfl, by decide +kernel, by decide +kernel⟩
/- slots: 0 _law_state_here(c), 1 _law_actions_here, 2 _law_name_here(c), 3 _law_params, 4 _law_action, 5 _law_param -/
theorem ok__law_args (B : Bt mg) (h : Has K mg "_law_args" s__law_args ["_law_state_here", "_law_actions_here", "_law_name_here"]) (c1 : Ok P w K mg base k "_law_draw" ["_law_state_here", "_law_many"] spDraw) (c2 : Ok P w K mg base k "_law_pick" ["_law_state_here", "_law_row"] spPick) : Ok P w K mg base (k + 1) "_law_args" ["_law_state_here", "_law_actions_here", "_law_name_here"] spArgs := by
  obtain ⟨_, _, G__law_draw, m__law_draw, k__law_draw, b__law_draw⟩ := c1.ex
  obtain ⟨_, _, G__law_pick, m__law_pick, k__law_pick, b__law_pick⟩ := c2.ex
  refine h.ok sc__law_args (fun vs H Q E h => ?_) (fun f0 cdv A outer s H vs Q E hr h => ?_)
  · obtain ⟨_, _, _, _, _, rfl, _⟩ := h; rfl
  obtain ⟨st, c, Av, as, nm, rfl, g, hA, ⟨a0, ha0, hn0⟩, q⟩ := h
  refine ⟨_, (pss_cons (ps_set (i := 3) sc__law_args.nd rfl (Or.inl rfl) (pe_ix ix_list (pe_lc (own := [("_law_action", 4)]) rfl sc__law_args.nd (pi_list (pv 1)) (blkOk_by (N := n__law_args) (sc := defScope s__law_args) (by decide +kernel)) (fun _ _ _ _ _ => (pg_name (i := 4) sc__law_args.nd rfl (Or.inl rfl) (Or.inr rfl))) (fun _ _ _ _ _ => (pts_one (pt_cmpR op_eq (pe_ix (ix_tupK (K := K) rfl) (pv 4) pe_int (fun _ _ => rfl)) (pv 2) (nomark _)))) (fun _ _ _ _ _ => (pe_ix (ix_tupK (K := K) rfl) (pv 4) pe_int (fun _ _ => rfl)))) pe_int (fun _ _ => rfl)))
    (pss_one (ps_ret (pe_lc (own := [("_law_param", 5)]) rfl sc__law_args.nd (pi_list (pv 3)) (blkOk_by (N := n__law_args) (sc := defScope s__law_args) (by decide +kernel)) (fun _ _ _ _ _ => (pg_name (i := 5) sc__law_args.nd rfl (Or.inl rfl) (Or.inr rfl))) (fun _ _ _ _ _ => pts_nil) (fun _ _ _ _ _ => (pe_call G__law_draw hr (by rfl) m__law_draw k__law_draw b__law_draw .nil pass0 (pa_cons (pv 0) (pa_cons (pe_call G__law_pick hr (by rfl) m__law_pick k__law_pick b__law_pick .nil pass0 (pa_cons (pv 0) (pa_cons (pe_lstS (pa_cons (pe_callB (call_min2 rfl) (by rfl) B.min (by decide +kernel) (pa_cons pe_int (pa_cons (pe_op op_shl pe_int (pe_ix (ix_tupK (K := K) rfl) (pv 5) pe_int (fun _ _ => rfl))) pa_nil))) (pa_cons (pe_op op_shl pe_int (pe_ix (ix_tupK (K := K) rfl) (pv 5) pe_int (fun _ _ => rfl))) pa_nil))) pa_nil))) pa_nil)))))))), ?_⟩
  obtain ⟨aa, ax, rfl, haa, hax⟩ := hA.at'.lst_inv
  have haa' := (out_some haa).2
  have hlen : ax.length = as.length := by rw [hax.len, List.length_map]
  have h8 := hA.few
  refine ⟨_, rfl, aa, rfl, ⟨_, SqL.of haa'⟩, fun D hD => lc_list (xs := ax) (fun i H' => Same H H' ∧ ∃ acc : List V, H' D = some (.lst acc) ∧ acc.length ≤ i ∧ (∀ v ∈ acc, ∃ ps, PsA st c H v ps) ∧ ((∃ a ∈ as.take i, a.name = nm) → acc ≠ [])) ⟨Same.new hD, [], upd_same, Nat.le_refl _, by simp, by simp⟩ (fun i H' _ h => SqL.of (h.1 _ _ haa')) (fun i x H1 hi ⟨s1, acc, d1, l1, w1, n1⟩ => ?_) (fun H1 ⟨s1, acc, d1, l1, w1, n1⟩ => ?_)⟩
  · obtain ⟨a, ha, hat⟩ := hax.getM hi
    have hi8 := (List.getElem?_eq_some_iff.mp hi).1
    have hwa := hA.ok a (List.mem_of_getElem? ha)
    obtain ⟨ta, x1, x2, x3, x4, rfl, hta, i1, i2, i3, i4⟩ := At.t4 hat
    obtain rfl := i1.str_inv
    obtain rfl := i2.str_inv
    have hta1 := s1 _ _ (out_some hta).2
    refine ⟨rfl, _, rfl, _, _, _, _, rfl, rfl, SqT.of hta1, at1, _, rfl, rfl, _, rfl, ?_⟩
    by_cases he : V.str a.name = V.str nm
    · refine ifE he ⟨_, rfl, _, _, _, _, rfl, rfl, SqT.of hta1, at2, acc, d1, szl (by omega), sapp s1 hD (Kp.wr (by simp)), acc ++ [x3], upd_same, by simp; omega, fun v hv => ?_, fun _ => by simp⟩
      rcases List.mem_append.mp hv with hv | hv
      · exact w1 v hv
      · rw [List.mem_singleton.mp hv]; exact ⟨a.params, i3, hwa.few, hwa.ps⟩
    · refine ifN he ⟨s1, acc, d1, by omega, w1, fun ⟨b, hb, hbn⟩ => ?_⟩
      rw [take_s ha] at hb
      rcases List.mem_append.mp hb with hb | hb
      · exact n1 ⟨b, hb, hbn⟩
      · rw [List.mem_singleton.mp hb] at hbn
        exact absurd (by rw [hbn]) he
  have hne : acc ≠ [] := n1 ⟨a0, by rw [hlen, List.take_length]; exact ha0, hn0⟩
  obtain ⟨pv, acc', rfl⟩ : ∃ x xs, acc = x :: xs := by
    cases acc with
    | nil => exact absurd rfl hne
    | cons x xs => exact ⟨x, xs, rfl⟩
  obtain ⟨ps, hP⟩ := w1 pv (by simp)
  have g1 := g.same s1
  have hP1 := hP.kp (Kp.same s1)
  obtain ⟨pa, px, rfl, hpa, hpan, hpl, hplen, hpick⟩ := hP1.pick
  have hpf := hP.few
  refine ⟨_, _, _, _, rfl, rfl, SqL.of d1, at0, ?_⟩
  refine ⟨_, rfl, pa, rfl, ⟨_, SqL.of hpa⟩, fun D2 hD2 => lc_list (xs := px) (fun i H' => ∃ l : List Int, l.length = i ∧ (∀ n ∈ l, Nu n) ∧ GB [st, c] D2 H1 H' (l.map .int) ∧ Gs st c H') ⟨[], rfl, by simp, GB.start g1.mm hD2 (Same.new hD2) upd_same, g1.same (Same.new hD2)⟩ (fun i H' _ ⟨_, _, _, b, _⟩ => SqL.of (b.kp _ _ hpan hpa)) (fun i x H2 hi ⟨l, e2, w2, b2, g2⟩ => ?_) (fun H2 ⟨l, e2, w2, b2, g2⟩ => ?_)⟩
  · have hi8 := (List.getElem?_eq_some_iff.mp hi).1
    obtain ⟨ta, pn, wd, rfl, hta, hw⟩ := hpick i x H2 hi b2.kp
    obtain ⟨sh1, sh2⟩ := sh_ok hw.2.1 hw.2.2
    have hw2 := hw.2
    dsimp only at hw2
    refine ⟨rfl, _, rfl, _, rfl, _, rfl, _, _, _, _, rfl, rfl, SqT.of hta, at1, _, _, rfl, rfl, ⟨by omega, by omega, by decide⟩, _, _, rfl, _, rfl, _, _, _, _, rfl, rfl, SqT.of hta, at1, _, _, rfl, rfl, ⟨by omega, by omega, by decide⟩, by walk_at "le", fun p H3 hp s3 e3 => ?_⟩
    have g3 := g2.same s3
    refine ⟨st, c, p, _, rfl, g3, e3, g2.nin hp, by simp, by simp, fun i x H4 hx k4 g4 => ?_⟩
    have hm : ∃ m : Int, x = .int m ∧ 0 < m ∧ m ≤ 4294967296 := by
      rcases i with _ | _ | i
      · cases hx
        exact ⟨_, rfl, by split <;> omega, by split <;> omega⟩
      · cases hx
        exact ⟨_, rfl, sh1, sh2⟩
      · simp at hx
    obtain ⟨m, rfl, m1, m2⟩ := hm
    refine ⟨st, c, m, rfl, g4, m1, m2, fun n H5 n0 n1 k5 g5 => ?_⟩
    have k25 := ((Kp.same s3).trans k4).trans k5
    obtain ⟨us, eu, hlt, go⟩ := b2.ap (d := .int n) k25 (g5.dm k25) (.int n) (by simp; omega)
    refine ⟨us, eu, hlt, l ++ [n], by simp [e2], fun o ho => ?_, ?_, g5.ap b2.nM (Kp.wr (by simp))⟩
    · rcases List.mem_append.mp ho with ho | ho
      · exact w2 o ho
      · rw [List.mem_singleton.mp ho]; exact ⟨n0, by omega⟩
    · rw [List.map_append]
      exact go _ (Kp.wr (by simp)) upd_same
  · exact q _ _ l ((Kp.same s1).trans b2.kp) g2 (b2.at.mono (nw0 (Same.dm s1))) (by omega) w2
end
end WP
namespace WP
open PySem PySem.Spec PyProof.Rows L2 TL
local macro_rules | `(tactic| walk_at "len") => `(tactic| (show _ ≤ sizeLine; rw [sizeLine_eq]; (try simp only [al, lit_len]); (try simp) <;> omega))
local macro_rules | `(tactic| walk_at "lt") => `(tactic| (show _ < sizeLine; rw [sizeLine_eq]; (try simp only [List.length_map, List.length_append, List.length_cons, List.length_nil, List.length_take]); omega))
local macro_rules | `(tactic| walk_at "le") => `(tactic| (show _ ≤ sizeLine; rw [sizeLine_eq]; (try simp only [List.length_map, List.length_append, List.length_cons, List.length_nil, List.length_take]); omega))
local macro_rules | `(tactic| walk_at "now") => `(tactic| first | assumption | (refine (by assumption : Same _ _) _ _ ?_; walk_at "now"))
local macro_rules | `(tactic| walk_at "at") => `(tactic| first | exact at0 | exact at1 | exact at2 | exact at3 | exact at4 | exact at5 | exact at6 | exact at7 | exact at8)
local macro_rules | `(tactic| walk_at "v") => `(tactic| refine ⟨_, rfl, ?_⟩)
local macro_rules | `(tactic| walk_at "ix") => `(tactic| refine ⟨_, _, _, _, rfl, rfl, SqT.of (by walk_at "now"), (by walk_at "at"), ?_⟩)
local macro_rules | `(tactic| walk_at "ixl") => `(tactic| refine ⟨_, _, _, _, rfl, rfl, SqL.of (by walk_at "now"), (by walk_at "at"), ?_⟩)
local macro_rules | `(tactic| walk_at "str") => `(tactic| refine ⟨_, _, rfl, rfl, (by walk_at "len"), ?_⟩)
local macro_rules | `(tactic| walk_at "int") => `(tactic| refine ⟨_, _, rfl, rfl, ?_⟩)
local macro_rules | `(tactic| walk_at "eq") => `(tactic| refine ⟨rfl, _, rfl, ?_⟩)
local macro_rules | `(tactic| walk_at "app") => `(tactic| refine ⟨_, _, _, rfl, rfl, (by walk_at "now"), (by walk_at "lt"), ?_⟩)
local macro_rules | `(tactic| walk_at "ext") => `(tactic| refine ⟨_, _, _, _, rfl, rfl, (by walk_at "now"), (by walk_at "now"), (by walk_at "le"), ?_⟩)
local macro_rules | `(tactic| walk_at "cat") => `(tactic| refine ⟨_, _, _, _, rfl, rfl, (by walk_at "now"), (by walk_at "now"), (by walk_at "le"), ?_⟩)
local macro_rules | `(tactic| walk_at "num") => `(tactic| refine ⟨(by assumption : Nu _), ?_⟩)
local macro_rules | `(tactic| walk_at "ty") => `(tactic| refine ⟨Or.inl ⟨rfl, _, SqL.of (by walk_at "now")⟩, ?_⟩)
local macro_rules | `(tactic| walk_at "un2") => `(tactic| refine ⟨_, _, rfl, SqT.of (by walk_at "now"), rfl, _, _, rfl, _, _, rfl, rfl, ?_⟩)
local macro_rules | `(tactic| walk_at "un3") => `(tactic| refine ⟨_, _, rfl, SqT.of (by walk_at "now"), rfl, _, _, rfl, _, _, rfl, _, _, rfl, rfl, ?_⟩)
local macro_rules | `(tactic| walk_at "un4") => `(tactic| refine ⟨_, _, rfl, SqT.of (by walk_at "now"), rfl, _, _, rfl, _, _, rfl, _, _, rfl, _, _, rfl, rfl, ?_⟩)
local macro_rules | `(tactic| walk_at "un6") => `(tactic| refine ⟨_, _, rfl, SqT.of (by walk_at "now"), rfl, _, _, rfl, _, _, rfl, _, _, rfl, _, _, rfl, _, _, rfl, _, _, rfl, rfl, ?_⟩)
local macro_rules | `(tactic| walk_at "un9") => `(tactic| refine ⟨_, _, rfl, SqT.of (by walk_at "now"), rfl, _, _, rfl, _, _, rfl, _, _, rfl, _, _, rfl, _, _, rfl, _, _, rfl, _, _, rfl, _, _, rfl, _, _, rfl, rfl, ?_⟩)
local macro_rules | `(tactic| walk_at "go") => `(tactic| repeat (first | walk_at "v" | walk_at "eq" | walk_at "ix" | walk_at "str" | walk_at "ty" | walk_at "num"))

section
variable {M Ls : List Addr} {L : Addr} {Hi H H2 : Hp}
theorem lxs_ap (hL : L ∈ Ls) (k : Kp [L] H H2) : Same (Out Ls (Nw Hi H)) (Out Ls (Nw Hi H2)) := fun c o hc => by
  obtain ⟨n, hc⟩ := out_some hc
  obtain ⟨c1, c2⟩ := nw_some hc
  rw [out_of n]
  exact nw_of c1 (k c o (fun z => n (by rw [List.mem_singleton.mp z]; exact hL)) c2)
theorem lxs_new (h : ∀ L ∈ Ls, H L ≠ none) (d : Dm Hi H) : Same (Nw H H2) (Out Ls (Nw Hi H2)) := fun c o hc => by
  obtain ⟨c1, c2⟩ := nw_some hc
  rw [out_of fun z => h c z c1]
  exact nw_of (d c c1) c2
end
def spTable : Sp := fun vs H Q _ => ∃ st c k Av as R rs, vs = [.ref st, .int k, Av, R] ∧ 0 ≤ k ∧ k ≤ 999 ∧ Gs st c H ∧ ActA st c H Av as ∧ RfA st c H R rs ∧ ∀ v H' t, wTab t → Kp [st, c] H H' → Gs st c H' → At (Nw H H') v (eTab t) → Q v H'
/-- keys and used ones under way, and the kinds -/
structure TB (st c Lk Lu Ka : Addr) (H H' : Hp) (ks : List (Fld × Kd)) (fl : List Fld) : Prop where
  kp : Kp [st, c] H H'
  gs : Gs st c H'
  k1 : ∃ xs, H' Lk = some (.lst xs) ∧ AtL (Out [Lk, Lu] (Nw H H')) xs (ks.map eKey)
  u1 : ∃ xs, H' Lu = some (.lst xs) ∧ AtL (Out [Lk, Lu] (Nw H H')) xs (fl.map eFld)
  kd : ∃ kds : List Kd, H' Ka = some (.lst (kds.map fun k => V.str k.s)) ∧ kds ≠ [] ∧ kds.length ≤ 4
  n1 : Ka ∉ [st, c]
  n2 : Ka ≠ Lk ∧ Ka ≠ Lu
theorem TB.go {st c Lk Lu Ka : Addr} {H H1 H2 : Hp} {ks : List (Fld × Kd)} {fl : List Fld} (h : TB st c Lk Lu Ka H H1 ks fl) (g0 : Gs st c H) (nk : H Lk = none) (nu : H Lu = none) (k : Kp [st, c] H1 H2) (g : Gs st c H2) : TB st c Lk Lu Ka H H2 ks fl := by
  obtain ⟨xs, e1, a1⟩ := h.k1
  obtain ⟨us, e2, a2⟩ := h.u1
  obtain ⟨kds, e3, n3⟩ := h.kd
  have m : Same (Out [Lk, Lu] (Nw H H1)) (Out [Lk, Lu] (Nw H H2)) := out_mono (nw1 k g0.mm)
  exact ⟨h.kp.trans k, g, ⟨xs, k _ _ (g0.nin nk) e1, a1.mono m⟩, ⟨us, k _ _ (g0.nin nu) e2, a2.mono m⟩, ⟨kds, k _ _ h.n1 e3, n3⟩, h.n1, h.n2⟩
section
variable {P : Program} {w : World} {K : PySem.W.Frag} {mg : Str → Option Value} {base : Heap} {k : Nat}
abbrev s__law_table : Stmt := top 72
abbrev n__law_table : List Str := ["_law_state_here", "_law_k", "_law_actions_here", "_law_refs_here", "_law_keys", "_law_used", "_law_kinds", "_law_j", "_law_owner", "_law_name_here", "_law_width", "_law_kind", "_law_start", "_law_uses", "_law_action"]
theorem sc__law_table : FnScope n__law_table ["_law_state_here", "_law_k", "_law_actions_here", "_law_refs_here"] (defScope s__law_table) := ⟨rfl, rfl, rfl, by decide +kernel, rfl, by decide +kernel, by decide +kernel⟩
/- slots: 0 _law_state_here, 1 _law_k, 2 _law_actions_here, 3 _law_refs_here, 4 _law_keys, 5 _law_used, 6 _law_kinds, 7 _law_j, 8 _law_owner, 9 _law_name_here, 10 _law_width, 11 _law_kind, 12 _law_start, 13 _law_uses, 14 _law_action -/
theorem ok__law_table (B : Bt mg) (h : Has K mg "_law_table" s__law_table ["_law_state_here", "_law_k", "_law_actions_here", "_law_refs_here"]) (c1 : Ok P w K mg base k "_law_draw" ["_law_state_here", "_law_many"] spDraw) (c2 : Ok P w K mg base k "_law_pick" ["_law_state_here", "_law_row"] spPick)
    (c3 : Ok P w K mg base k "_law_name" ["_law_state_here", "_law_k"] spName) (c4 : Ok P w K mg base k "_law_args" ["_law_state_here", "_law_actions_here", "_law_name_here"] spArgs) : Ok P w K mg base (k + 1) "_law_table" ["_law_state_here", "_law_k", "_law_actions_here", "_law_refs_here"] spTable := by
  obtain ⟨_, _, G__law_draw, m__law_draw, k__law_draw, b__law_draw⟩ := c1.ex
  obtain ⟨_, _, G__law_pick, m__law_pick, k__law_pick, b__law_pick⟩ := c2.ex
  obtain ⟨_, _, G__law_name, m__law_name, k__law_name, b__law_name⟩ := c3.ex
  obtain ⟨_, _, G__law_args, m__law_args, k__law_args, b__law_args⟩ := c4.ex
  refine h.ok sc__law_table (fun vs H Q E h => ?_) (fun f0 cdv A outer s H vs Q E hr h => ?_)
  · obtain ⟨_, _, _, _, _, _, _, rfl, _⟩ := h; rfl
  obtain ⟨st, c, kk, Av, as, R, rs, rfl, hk0, hk1, g, hA, hR, q⟩ := h
  have hu65 : (cxOf CX0 P w K mg base n__law_table "_law_table" (defScope s__law_table) f0 cdv A outer s H E).nox.A.units + 65 < cLine := by
    have := hr.un
    show (A.deeper _).units + 65 < cLine
    omega
  refine ⟨_, (pss_cons (ps_set (i := 4) sc__law_table.nd rfl (Or.inl rfl) (pe_lstS pa_nil))
    (pss_cons (ps_set (i := 5) sc__law_table.nd rfl (Or.inl rfl) (pe_lstS pa_nil))
    (pss_cons (ps_set (i := 6) sc__law_table.nd rfl (Or.inl rfl) (pe_lstS (pa_cons pe_str (pa_cons pe_str (pa_cons pe_str (pa_cons pe_str pa_nil))))))
    (pss_cons (ps_for PassesOwn.never rfl (pi_range1 (by rfl) B.range (pa_cons (pe_call G__law_draw hr (by rfl) m__law_draw k__law_draw b__law_draw .nil pass0 (pa_cons (pv 0) (pa_cons (pe_call G__law_pick hr (by rfl) m__law_pick k__law_pick b__law_pick .nil pass0 (pa_cons (pv 0) (pa_cons (pe_lstS (pa_cons pe_int (pa_cons pe_int (pa_cons pe_int pa_nil)))) pa_nil))) pa_nil))) pa_nil)) (pg_name (i := 7) sc__law_table.nd rfl (Or.inl rfl)) (pss_cons (ps_asg (pe_call G__law_pick hr (by rfl) m__law_pick k__law_pick b__law_pick .nil pass0 (pa_cons (pv 0) (pa_cons (pv 3) pa_nil))) (pg_tup rfl (pgs_cons (pg_name (i := 8) sc__law_table.nd rfl (Or.inl rfl)) (pgs_cons (pg_name (i := 9) sc__law_table.nd rfl (Or.inl rfl)) (pgs_cons (pg_name (i := 10) sc__law_table.nd rfl (Or.inl rfl)) pgs_nil)))))
    (pss_one (ps_if (pt_cmpR (op_notInD hu65) (pe_tupS (pa_cons (pv 8) (pa_cons (pv 9) pa_nil))) (pv 5) (by with_unfolding_all rfl)) (pss_cons (ps_set (i := 11) sc__law_table.nd rfl (Or.inl rfl) (pe_call G__law_pick hr (by rfl) m__law_pick k__law_pick b__law_pick .nil pass0 (pa_cons (pv 0) (pa_cons (pv 6) pa_nil))))
    (Evl.pss_cut (ps_if (pt_cmpR op_eq (pv 11) pe_str (nomark _)) (pss_one (ps_set (i := 6) sc__law_table.nd rfl (Or.inl rfl) (pe_lstS (pa_cons pe_str (pa_cons pe_str pa_nil))))) pss_nil)
    (pss_cons (ps_expr (pe_bm PySem.F.plainAttrs_list PySem.F.slot_list_append PySem.F.type_list_append mt_appendS (pv 5) (pa_cons (pe_tupS (pa_cons (pv 8) (pa_cons (pv 9) pa_nil))) pa_nil)))
    (pss_one (ps_expr (pe_bm PySem.F.plainAttrs_list PySem.F.slot_list_append PySem.F.type_list_append mt_appendS (pv 4) (pa_cons (pe_tupS (pa_cons (pe_tupS (pa_cons (pv 8) (pa_cons (pv 9) pa_nil))) (pa_cons (pv 11) pa_nil))) pa_nil))))))) pss_nil))))
    (pss_cons (ps_set (i := 12) sc__law_table.nd rfl (Or.inl rfl) (pe_call G__law_draw hr (by rfl) m__law_draw k__law_draw b__law_draw .nil pass0 (pa_cons (pv 0) (pa_cons (pe_callB call_len_seq (by rfl) B.len PySem.boot_len (pa_cons (pv 2) pa_nil)) pa_nil))))
    (pss_cons (ps_setLc (i := 13) (own := [("_law_action", 14)]) rfl sc__law_table.nd rfl rfl (sw_true rfl rfl rfl (by decide +kernel)) (pi_list (pe_slice sl_listS (pv 2) (po_some (pv 12)) po_none)) (blkOk_by (N := n__law_table) (sc := defScope s__law_table) (by decide +kernel)) (fun _ _ _ _ _ => (pg_name (i := 14) sc__law_table.nd rfl (Or.inl rfl) (Or.inr rfl))) (fun _ _ _ _ _ => pts_nil) (fun _ _ _ _ _ => (pe_ix (ix_tupK (K := K) rfl) (pv 14) pe_int (fun _ _ => rfl))))
    (pss_cons (ps_set (i := 9) sc__law_table.nd rfl (Or.inl rfl) (pe_call G__law_pick hr (by rfl) m__law_pick k__law_pick b__law_pick .nil pass0 (pa_cons (pv 0) (pa_cons (pv 13) pa_nil))))
    (pss_one (ps_ret (pe_tupS (pa_cons pe_str (pa_cons (pe_call G__law_name hr (by rfl) m__law_name k__law_name b__law_name .nil pass0 (pa_cons (pv 0) (pa_cons (pv 1) pa_nil))) (pa_cons (pv 4) (pa_cons (pv 13) (pa_cons (pe_tupS (pa_cons (pv 9) (pa_cons (pe_call G__law_args hr (by rfl) m__law_args k__law_args b__law_args .nil pass0 (pa_cons (pv 0) (pa_cons (pv 2) (pa_cons (pv 9) pa_nil)))) pa_nil))) (pa_cons (pe_op op_add pe_int (pe_call G__law_draw hr (by rfl) m__law_draw k__law_draw b__law_draw .nil pass0 (pa_cons (pv 0) (pa_cons (pe_call G__law_pick hr (by rfl) m__law_pick k__law_pick b__law_pick .nil pass0 (pa_cons (pv 0) (pa_cons (pe_lstS (pa_cons pe_int (pa_cons pe_int (pa_cons pe_int pa_nil)))) pa_nil))) pa_nil)))) pa_nil)))))))))))))))), ?_⟩
  refine ⟨by walk_at "le", fun Lk H1 hLk s1 e1 => ⟨by walk_at "le", fun Lu H2 hLu s2 e2 => ⟨by walk_at "le", fun Ka H3 hKa s3 e3 => ?_⟩⟩⟩
  have nk := hLk
  have nu : H Lu = none := Same.dm s1 Lu hLu
  have nka : H Ka = none := Same.dm s1 Ka (Same.dm s2 Ka hKa)
  have s03 := (Same.trans s1 s2).trans s3
  have hne1 : Ka ≠ Lk := fun e => by rw [e, s2 _ _ e1] at hKa; cases hKa
  have hne2 : Ka ≠ Lu := fun e => by rw [e, e2] at hKa; cases hKa
  have hne3 : Lu ≠ Lk := fun e => by rw [e, e1] at hLu; cases hLu
  have g3 := g.same s03
  have tb3 : TB st c Lk Lu Ka H H3 [] [] := ⟨Kp.same s03, g3, ⟨[], s3 _ _ (s2 _ _ e1), .nil⟩, ⟨[], s3 _ _ e2, .nil⟩, ⟨[.exact, .mask, .pfx, .exact], e3, by simp, by simp⟩, g.nin nka, hne1, hne2⟩
  clear s1 s2 s3 e1 e2 e3 hLu hKa hne1 hne2 nka
  refine ⟨_, rfl, _, rfl, by walk_at "le", fun p H4 hp s4 e4 => ⟨st, c, p, _, rfl, g3.same s4, e4, g3.nin hp, by simp, by simp, fun i x H5 hx k5 g5 => ?_⟩⟩
  obtain ⟨mx, rfl, m3, m5⟩ := pick_int (ns := [3, 3, 5]) (lo := 3) (hi := 5) (by decide) hx
  refine ⟨st, c, mx, rfl, g5, by omega, by omega, fun many H6 mn0 mn1 k6 g6 => ⟨_, rfl, by omega, by omega, ?_⟩⟩
  have tb6 := tb3.go g nk nu (((Kp.same s4).trans k5).trans k6) g6
  clear s4 k5 k6 g5 e4 hp tb3 g3 s03
  refine for_range (fun j σ' H' => ∃ (ks : List (Fld × Kd)) (fl : List Fld) (Kx : Addr) (x1 x2 x3 x4 x5 : Option V), σ' = [some (.ref st), some (.int kk), some Av, some R, some (.ref Lk), some (.ref Lu), some (.ref Kx), x1, x2, x3, x4, x5, none, none, none] ∧ ks.length ≤ j ∧ fl.length ≤ j ∧ TB st c Lk Lu Kx H H' ks fl ∧ (∀ k ∈ ks, wKey k) ∧ ∀ f ∈ fl, wFld f) ⟨[], [], Ka, _, _, _, _, _, rfl, by simp, by simp, tb6, by simp, by simp⟩ ?_ ?_
  · rintro j σ' H7 hj ⟨ks, fl, Kx, x1, x2, x3, x4, x5, rfl, hks, hfl, tb, wk, wf⟩
    obtain ⟨ra, rx, rfl, hra, hran, hrne, hrl, _, rpick⟩ := (hR.kp tb.kp).pick
    refine ⟨_, rfl, _, rfl, st, c, ra, rx, rfl, tb.gs, hra, hran, hrne, hrl, fun i x H8 hx k8 g8 => ?_⟩
    obtain ⟨ta, ow, nm, wd, rfl, hta, hw⟩ := rpick i x H8 hx k8
    have tb8 := tb.go g nk nu k8 g8
    refine ⟨_, _, rfl, SqT.of hta, rfl, _, _, rfl, _, _, rfl, _, _, rfl, rfl, ?_⟩
    refine ⟨_, rfl, _, rfl, by walk_at "le", fun t9 H9 ht9 s9 e9 => ⟨_, rfl, ?_⟩⟩
    have tb9 := tb8.go g nk nu (Kp.same s9) (g8.same s9)
    obtain ⟨us, eu, au⟩ := tb9.u1
    have hd : At H9 (.ref t9) (eFld (ow, nm)) := .tup e9 (.cons (.str _) (.cons (.str _) .nil))
    have hl : At H9 (.ref Lu) (.list (fl.map eFld)) := .lst eu ((au.mono out_le).mono nw_le)
    have wfl : wFld (ow, nm) := hw.1
    refine ⟨_, _, hd.dp, hl.dp, fld_shaped wfl, flds_shaped wf, _, rfl, ?_⟩
    generalize (!(fl.map eFld).any fun z => PyData.eqv z (eFld (ow, nm))) = bb
    cases bb with
    | false =>
      exact ⟨ks, fl, Kx, _, _, _, _, _, rfl, by omega, by omega, tb9, wk, wf⟩
    | true =>
      obtain ⟨kds, ek, kn, kl⟩ := tb9.kd
      refine iteT ⟨_, rfl, _, rfl, st, c, Kx, _, rfl, tb9.gs, ek, tb9.n1, by simpa using kn, by simp; omega, fun i x H10 hx k10 g10 => ?_⟩
      obtain ⟨kd, rfl⟩ : ∃ kd : Kd, x = .str kd.s := by
        rw [List.getElem?_map] at hx
        cases e : kds[i]? with
        | none => rw [e] at hx; cases hx
        | some n => rw [e] at hx; cases hx; exact ⟨n, rfl⟩
      have tb10 := tb9.go g nk nu k10 g10
      refine ⟨fun σ' H11 => ∃ Kx, σ' = [some (.ref st), some (.int kk), some Av, some (.ref ra), some (.ref Lk), some (.ref Lu), some (.ref Kx), some (.int (0 + (j : Int))), some (.str ow), some (.str nm), some (.int wd), some (.str kd.s), none, none, none] ∧ TB st c Lk Lu Kx H H11 ks fl, ?_, ?_⟩
      · refine ⟨_, rfl, rfl, _, rfl, ?_⟩
        by_cases hpre : V.str kd.s = V.str "prefix"
        · refine ifE hpre ⟨by walk_at "le", fun K2 H11 hK2 s11 e11 => ?_⟩
          have tb11 := tb10.go g nk nu (Kp.same s11) (g10.same s11)
          obtain ⟨xs1, ex1, _⟩ := tb10.k1
          obtain ⟨xs2, ex2, _⟩ := tb10.u1
          exact ⟨K2, rfl, tb11.kp, tb11.gs, tb11.k1, tb11.u1, ⟨[.exact, .mask], e11, by simp, by simp⟩, g10.nin hK2, ⟨(fun e => by rw [e, ex1] at hK2; cases hK2), (fun e => by rw [e, ex2] at hK2; cases hK2)⟩⟩
        · exact ifN hpre ⟨Kx, rfl, tb10⟩
      rintro σ' H11 ⟨K2, rfl, tb11⟩
      obtain ⟨us, eu, au⟩ := tb11.u1
      have hus := au.len
      rw [List.length_map] at hus
      refine ⟨_, rfl, .inl ⟨rfl, _, SqL.of eu⟩, _, rfl, _, rfl, by walk_at "le", fun t12 H12 ht12 s12 e12 => ?_⟩
      have tb12 := tb11.go g nk nu (Kp.same s12) (tb11.gs.same s12)
      refine ⟨Lu, _, _, rfl, rfl, s12 _ _ eu, szl (by omega), fun H13 k13 e13 => ?_⟩
      obtain ⟨xs1, ex1, ax1⟩ := tb11.k1
      have nL12 : ∀ L ∈ [Lk, Lu], H11 L ≠ none := by
        intro L hL
        simp only [List.mem_cons, List.not_mem_nil, or_false] at hL
        rcases hL with rfl | rfl
        · rw [ex1]; simp
        · rw [eu]; simp
      have d11 : Dm H H11 := tb11.gs.dm tb11.kp
      have hcell : At (Out [Lk, Lu] (Nw H H12)) (.ref t12) (eFld (ow, nm)) := (At.tup (nw_of ht12 e12) (.cons (.str _) (.cons (.str _) .nil))).mono (lxs_new nL12 d11)
      have mAp : Same (Out [Lk, Lu] (Nw H H12)) (Out [Lk, Lu] (Nw H H13)) := lxs_ap (by simp) k13
      have mS : Same (Out [Lk, Lu] (Nw H H11)) (Out [Lk, Lu] (Nw H H12)) := out_mono (nws s12)
      have kpLu : ∀ {Ha Hb : Hp}, Kp [st, c] H Ha → Kp [Lu] Ha Hb → Kp [st, c] H Hb := fun ka kb b o hb he => kb b o (fun z => by
        have : b = Lu := by simpa using z
        rw [this, nu] at he; cases he) (ka b o hb he)
      have kpLk : ∀ {Ha Hb : Hp}, Kp [st, c] H Ha → Kp [Lk] Ha Hb → Kp [st, c] H Hb := fun ka kb b o hb he => kb b o (fun z => by
        have : b = Lk := by simpa using z
        rw [this, nk] at he; cases he) (ka b o hb he)
      have g13 := tb12.gs.ap (g.nin nu) k13
      obtain ⟨kds2, ek2, kn2, kl2⟩ := tb12.kd
      have tb13 : TB st c Lk Lu K2 H H13 ks (fl ++ [(ow, nm)]) := ⟨kpLu tb12.kp k13, g13, ⟨xs1, k13 _ _ (by simpa using hne3.symm) (s12 _ _ ex1), (ax1.mono mS).mono mAp⟩, ⟨_, e13, by rw [List.map_append]; exact ((au.mono mS).mono mAp).snoc (hcell.mono mAp)⟩, ⟨kds2, k13 _ _ (by simpa using tb12.n2.2) ek2, kn2, kl2⟩, tb12.n1, tb12.n2⟩
      clear mAp mS hcell au eu k13 e13 tb12 s12 e12 ht12 hus nL12 d11 ax1 ex1 ek2
      obtain ⟨xs1, ex1, ax1⟩ := tb13.k1
      obtain ⟨us1, eu1, au1⟩ := tb13.u1
      have hxl := ax1.len
      rw [List.length_map] at hxl
      refine ⟨_, rfl, .inl ⟨rfl, _, SqL.of ex1⟩, _, rfl, _, rfl, by walk_at "le", fun t14 H14 ht14 s14 e14 => ⟨_, rfl, by walk_at "le", fun t15 H15 ht15 s15 e15 => ?_⟩⟩
      have s1315 := s14.trans s15
      have tb15 := tb13.go g nk nu (Kp.same s1315) (tb13.gs.same s1315)
      refine ⟨Lk, _, _, rfl, rfl, s1315 _ _ ex1, szl (by omega), fun H16 k16 e16 => ?_⟩
      have nL13 : ∀ L ∈ [Lk, Lu], H13 L ≠ none := by
        intro L hL
        simp only [List.mem_cons, List.not_mem_nil, or_false] at hL
        rcases hL with rfl | rfl
        · rw [ex1]; simp
        · rw [eu1]; simp
      have d13 : Dm H H13 := tb13.gs.dm tb13.kp
      have hcell : At (Out [Lk, Lu] (Nw H H15)) (.ref t15) (eKey ((ow, nm), kd)) := (At.tup (nw_of (Same.dm s14 t15 ht15) e15) (.cons (.tup (nw_of ht14 (s15 _ _ e14)) (.cons (.str _) (.cons (.str _) .nil))) (.cons (.str _) .nil))).mono (lxs_new nL13 d13)
      have mAp : Same (Out [Lk, Lu] (Nw H H15)) (Out [Lk, Lu] (Nw H H16)) := lxs_ap (by simp) k16
      have mS : Same (Out [Lk, Lu] (Nw H H13)) (Out [Lk, Lu] (Nw H H15)) := out_mono (nws s1315)
      obtain ⟨kds2, ek2, kn2, kl2⟩ := tb15.kd
      have tb16 : TB st c Lk Lu K2 H H16 (ks ++ [((ow, nm), kd)]) (fl ++ [(ow, nm)]) := ⟨kpLk tb15.kp k16, tb15.gs.ap (g.nin nk) k16, ⟨_, e16, by rw [List.map_append]; exact ((ax1.mono mS).mono mAp).snoc (hcell.mono mAp)⟩, ⟨us1, k16 _ _ (by simpa using hne3) (s1315 _ _ eu1), (au1.mono mS).mono mAp⟩, ⟨kds2, k16 _ _ (by simpa using tb15.n2.1) ek2, kn2, kl2⟩, tb15.n1, tb15.n2⟩
      refine ⟨_, _, K2, _, _, _, _, _, rfl, by simp; omega, by simp; omega, tb16, fun k hk => ?_, fun f hf => ?_⟩
      · rcases List.mem_append.mp hk with hk | hk
        · exact wk k hk
        · rw [List.mem_singleton.mp hk]; exact wfl
      · rcases List.mem_append.mp hf with hf | hf
        · exact wf f hf
        · rw [List.mem_singleton.mp hf]; exact wfl
  · rintro σ' H7 ⟨ks, fl, Kx, x1, x2, x3, x4, x5, rfl, hks, hfl, tb, wk, wf⟩
    have g7 := tb.gs
    have hA7 := hA.kp tb.kp
    obtain ⟨aa, ax, rfl, haa, hax⟩ := hA7.at'.lst_inv
    obtain ⟨han, haa'⟩ := out_some haa
    have hlen : ax.length = as.length := by rw [hax.len, List.length_map]
    have h1 := hA.one
    have h8 := hA.few
    refine ⟨_, rfl, _, rfl, aa, ax, rfl, .inl (SqL.of haa'), st, c, _, rfl, g7, by omega, by omega, fun n H8 n0 n1 k8 g8 => ?_⟩
    obtain ⟨ix, rfl⟩ := Int.eq_ofNat_of_zero_le n0
    have haa8 := k8 _ _ han haa'
    refine ⟨_, rfl, _, rfl, _, rfl, aa, ax, rfl, haa8, fun p9 H9 hp9 s9 e9 => ?_⟩
    rw [cutV_from] at e9
    have hax9 : AtL H9 (ax.drop ix) ((as.drop ix).map eAct) := by
      rw [List.map_drop]
      exact (((hax.mono k8.out).mono out_le).mono s9).drop ix
    refine ⟨p9, rfl, ⟨_, SqL.of e9⟩, fun D hD => lc_map (as.drop ix) eAct (fun a => V.str a.name) hD e9 hax9 (by rw [List.length_drop]; omega) (fun a x H10 C C' ha hat s10 cc => ?_) fun H10 s10 e10 => ?_⟩
    · obtain ⟨ta, x1, x2, x3, x4, rfl, hta, i1, i2, i3, i4⟩ := At.t4 hat
      obtain rfl := i2.str_inv
      exact ⟨rfl, _, rfl, _, _, _, _, rfl, rfl, SqT.of hta, at1, cc _ (Same.refl _)⟩
    have k710 := (k8.trans (Kp.same s9)).trans (Kp.same s10)
    have g10 := (g8.same s9).same s10
    have hDn : D ∉ [st, c] := (g8.same s9).nin hD
    have hlx : (as.drop ix).length = as.length - ix := List.length_drop
    refine ⟨_, rfl, _, rfl, st, c, D, _, rfl, g10, e10, hDn, fun e => ?_, by rw [List.length_map]; omega, fun i x H11 hx k11 g11 => ?_⟩
    · have := congrArg List.length e
      rw [List.length_map, List.length_nil] at this
      omega
    obtain ⟨a1, ha1, rfl⟩ : ∃ a ∈ as.drop ix, x = .str a.name := by
      rw [List.getElem?_map] at hx
      cases e : (as.drop ix)[i]? with
      | none => rw [e] at hx; cases hx
      | some n => rw [e] at hx; cases hx; exact ⟨n, List.mem_of_getElem? e, rfl⟩
    have hma1 := List.mem_of_mem_drop ha1
    have k711 := k710.trans k11
    refine ⟨_, rfl, _, rfl, st, c, kk, rfl, g11, hk0, hk1, fun nm H12 hnm k12 g12 => ⟨_, rfl, _, rfl, _, rfl, _, rfl, _, rfl, _, rfl, st, c, _, as, a1.name, rfl, g12, hA7.kp (k711.trans k12), ⟨a1, hma1, rfl⟩, fun va H13 l13 k13 g13 h13 b13 w13 => ⟨by walk_at "le", fun t14 H14 ht14 s14 e14 => ?_⟩⟩⟩
    have g14 := g13.same s14
    refine ⟨_, rfl, _, rfl, by walk_at "le", fun p H15 hp s15 e15 => ⟨st, c, p, _, rfl, g14.same s15, e15, g14.nin hp, by simp, by simp, fun i x H16 hx k16 g16 => ?_⟩⟩
    obtain ⟨mx, rfl, m6, m16⟩ := pick_int (ns := [6, 6, 16]) (lo := 6) (hi := 16) (by decide) hx
    refine ⟨st, c, mx, rfl, g16, by omega, by omega, fun sz0 H17 sz1 sz2 k17 g17 => ⟨_, _, rfl, rfl, by walk_at "le", fun T H18 hT s18 e18 => ?_⟩⟩
    have k1017 : Kp [st, c] H10 H17 := ((((((k11.trans k12).trans k13).trans (Kp.same s14)).trans (Kp.same s15)).trans k16).trans k17)
    have k717 := k710.trans k1017
    have k017 := tb.kp.trans k717
    have d017 := g17.dm k017
    have k1417 : Kp [st, c] H14 H17 := ((Kp.same s15).trans k16).trans k17
    have k013 : Kp [st, c] H H13 := ((tb.kp.trans k711).trans k12).trans k13
    have wa := hA.ok a1 hma1
    refine q _ _ ⟨nm, ks, (as.drop ix).map (·.name), a1.name, l13, 1 + sz0⟩ ⟨hnm, ⟨by show ks.length ≤ 16; omega, wk⟩, ⟨by rw [List.length_map]; omega, fun u hu => ?_⟩, wa.nm, ⟨b13, w13⟩, ⟨by show 0 ≤ 1 + sz0; omega, by show 1 + sz0 ≤ _; omega⟩⟩ (k017.trans (Kp.same s18)) (g17.same s18) (at_tup d017 hT e18 (.cons (.str _) (.cons (.str _) (.cons ?_ (.cons ?_ (.cons ?_ (.cons (.int _) .nil)))))))
    · obtain ⟨b, hb, rfl⟩ := List.mem_map.mp hu
      exact (hA.ok b (List.mem_of_mem_drop hb)).nm
    · obtain ⟨xs1, ex1, ax1⟩ := tb.k1
      exact ((At.lst (nw_of nk ex1) (ax1.mono out_le)).mono (nw1 k717 g.mm)).mono (nws s18)
    · refine .lst (nws s18 _ _ (nw1 k1017 g.mm _ _ (nw_of ?_ e10))) ?_
      · exact (g8.same s9).dm ((tb.kp.trans k8).trans (Kp.same s9)) D hD
      · have : ∀ l : List Act, List.map (fun a => V.str a.name) l = (l.map (·.name)).map V.str := fun l => by rw [List.map_map]; rfl
        rw [this]
        exact AtL.strs
    · refine ((At.tup (nw_of ((g13.dm k013) t14 ht14) e14) (.cons (.str _) (.cons (((h13.mono (nw0 (g12.dm ((tb.kp.trans k711).trans k12))))).mono (nws s14)) .nil))).mono (nw1 k1417 g.mm)).mono (nws s18)
end
end WP
namespace WP
open PySem PySem.Spec PyProof.Rows L2 TL
local macro_rules | `(tactic| walk_at "len") => `(tactic| (show _ ≤ sizeLine; rw [sizeLine_eq]; (try simp only [al, lit_len]); (try simp) <;> omega))
local macro_rules | `(tactic| walk_at "lt") => `(tactic| (show _ < sizeLine; rw [sizeLine_eq]; (try simp only [List.length_map, List.length_append, List.length_cons, List.length_nil, List.length_take]); omega))
local macro_rules | `(tactic| walk_at "le") => `(tactic| (show _ ≤ sizeLine; rw [sizeLine_eq]; (try simp only [List.length_map, List.length_append, List.length_cons, List.length_nil, List.length_take]); omega))
local macro_rules | `(tactic| walk_at "now") => `(tactic| first | assumption | (refine (by assumption : Same _ _) _ _ ?_; walk_at "now"))
local macro_rules | `(tactic| walk_at "at") => `(tactic| first | exact at0 | exact at1 | exact at2 | exact at3 | exact at4 | exact at5 | exact at6 | exact at7 | exact at8)
local macro_rules | `(tactic| walk_at "v") => `(tactic| refine ⟨_, rfl, ?_⟩)
local macro_rules | `(tactic| walk_at "ix") => `(tactic| refine ⟨_, _, _, _, rfl, rfl, SqT.of (by walk_at "now"), (by walk_at "at"), ?_⟩)
local macro_rules | `(tactic| walk_at "ixl") => `(tactic| refine ⟨_, _, _, _, rfl, rfl, SqL.of (by walk_at "now"), (by walk_at "at"), ?_⟩)
local macro_rules | `(tactic| walk_at "str") => `(tactic| refine ⟨_, _, rfl, rfl, (by walk_at "len"), ?_⟩)
local macro_rules | `(tactic| walk_at "int") => `(tactic| refine ⟨_, _, rfl, rfl, ?_⟩)
local macro_rules | `(tactic| walk_at "eq") => `(tactic| refine ⟨rfl, _, rfl, ?_⟩)
local macro_rules | `(tactic| walk_at "app") => `(tactic| refine ⟨_, _, _, rfl, rfl, (by walk_at "now"), (by walk_at "lt"), ?_⟩)
local macro_rules | `(tactic| walk_at "ext") => `(tactic| refine ⟨_, _, _, _, rfl, rfl, (by walk_at "now"), (by walk_at "now"), (by walk_at "le"), ?_⟩)
local macro_rules | `(tactic| walk_at "cat") => `(tactic| refine ⟨_, _, _, _, rfl, rfl, (by walk_at "now"), (by walk_at "now"), (by walk_at "le"), ?_⟩)
local macro_rules | `(tactic| walk_at "num") => `(tactic| refine ⟨(by assumption : Nu _), ?_⟩)
local macro_rules | `(tactic| walk_at "ty") => `(tactic| refine ⟨Or.inl ⟨rfl, _, SqL.of (by walk_at "now")⟩, ?_⟩)
local macro_rules | `(tactic| walk_at "un2") => `(tactic| refine ⟨_, _, rfl, SqT.of (by walk_at "now"), rfl, _, _, rfl, _, _, rfl, rfl, ?_⟩)
local macro_rules | `(tactic| walk_at "un3") => `(tactic| refine ⟨_, _, rfl, SqT.of (by walk_at "now"), rfl, _, _, rfl, _, _, rfl, _, _, rfl, rfl, ?_⟩)
local macro_rules | `(tactic| walk_at "un4") => `(tactic| refine ⟨_, _, rfl, SqT.of (by walk_at "now"), rfl, _, _, rfl, _, _, rfl, _, _, rfl, _, _, rfl, rfl, ?_⟩)
local macro_rules | `(tactic| walk_at "un6") => `(tactic| refine ⟨_, _, rfl, SqT.of (by walk_at "now"), rfl, _, _, rfl, _, _, rfl, _, _, rfl, _, _, rfl, _, _, rfl, _, _, rfl, rfl, ?_⟩)
local macro_rules | `(tactic| walk_at "un9") => `(tactic| refine ⟨_, _, rfl, SqT.of (by walk_at "now"), rfl, _, _, rfl, _, _, rfl, _, _, rfl, _, _, rfl, _, _, rfl, _, _, rfl, _, _, rfl, _, _, rfl, _, _, rfl, rfl, ?_⟩)
local macro_rules | `(tactic| walk_at "go") => `(tactic| repeat (first | walk_at "v" | walk_at "eq" | walk_at "ix" | walk_at "str" | walk_at "ty" | walk_at "num"))

theorem wTst_valid {n : Nat} {s : Str} (h : Nm s) : wTst n (.valid s) := by cases n <;> exact h
theorem wTst_cmp {n : Nat} {sg : Bool} {f : Fld} {x : Int} (h : wFld f) (k : Nu x) : wTst n (.cmp sg f x) := by cases n <;> exact ⟨h, k⟩
theorem wTst_nt {n : Nat} {t : Tst} (h : wTst n t) : wTst (n + 1) (.nt t) := ⟨n, rfl, h⟩
theorem wTst_mono : ∀ {t : Tst} {n m : Nat}, wTst n t → n ≤ m → wTst m t
  | .nt t, n, m, h, hm => by
    obtain ⟨k, e, h⟩ : ∃ k, n = k + 1 ∧ wTst k t := by cases n <;> exact h
    obtain ⟨m', rfl⟩ : ∃ m', m = m' + 1 := ⟨m - 1, by omega⟩
    exact wTst_nt (wTst_mono h (by omega))
  | .valid s, n, m, h, _ => wTst_valid (by cases n <;> exact h)
  | .cmp sg f x, n, m, h, _ => by
    have h : wFld f ∧ Nu x := by cases n <;> exact h
    exact wTst_cmp h.1 h.2
def spTstG : Nat → Sp
  | 0 => fun _ _ _ _ => False
  | n + 1 => fun vs H Q _ => ∃ (st c : Addr) (hv : V) (hs : List Hdr) (R : V) (rs : List Ref) (d : Nat), vs = [.ref st, hv, R, .int (d : Int)] ∧ d ≤ n ∧ Gs st c H ∧ HdA st c H hv hs ∧ RfA st c H R rs ∧ ∀ v H' t, wTst d t → Kp [st, c] H H' → Gs st c H' → At (Nw H H') v (eTst t) → Q v H'
section
variable {P : Program} {w : World} {K : PySem.W.Frag} {mg : Str → Option Value} {base : Heap} {k : Nat}
abbrev s__law_test : Stmt := top 73
abbrev n__law_test : List Str := ["_law_state_here", "_law_headers_here", "_law_refs_here", "_law_deep", "_law_kind", "_law_owner", "_law_name_here", "_law_width", "_law_number"]
theorem sc__law_test : FnScope n__law_test ["_law_state_here", "_law_headers_here", "_law_refs_here", "_law_deep"] (defScope s__law_test) := ⟨rfl, rfl, rfl, by decide +kernel, rfl, by decide +kernel, by decide +kernel⟩
/- slots: 0 _law_state_here, 1 _law_headers_here, 2 _law_refs_here, 3 _law_deep, 4 _law_kind, 5 _law_owner, 6 _law_name_here, 7 _law_width, 8 _law_number -/
theorem ok__law_test (B : Bt mg) (h : Has K mg "_law_test" s__law_test ["_law_state_here", "_law_headers_here", "_law_refs_here", "_law_deep"]) (c1 : Ok P w K mg base k "_law_draw" ["_law_state_here", "_law_many"] spDraw) (c2 : Ok P w K mg base k "_law_pick" ["_law_state_here", "_law_row"] spPick)
    (n : Nat) (c3 : Ok P w K mg base k "_law_test" ["_law_state_here", "_law_headers_here", "_law_refs_here", "_law_deep"] (spTstG n)) : Ok P w K mg base (k + 1) "_law_test" ["_law_state_here", "_law_headers_here", "_law_refs_here", "_law_deep"] (spTstG (n + 1)) := by
  obtain ⟨_, _, G__law_draw, m__law_draw, k__law_draw, b__law_draw⟩ := c1.ex
  obtain ⟨_, _, G__law_pick, m__law_pick, k__law_pick, b__law_pick⟩ := c2.ex
  obtain ⟨_, _, G__law_test, m__law_test, k__law_test, b__law_test⟩ := c3.ex
  refine h.ok sc__law_test (fun vs H Q E h => ?_) (fun f0 cdv A outer s H vs Q E hr h => ?_)
  · obtain ⟨_, _, _, _, _, _, _, rfl, _⟩ := h; rfl
  obtain ⟨st, c, hv, hs, R, rs, d, rfl, hdn, g, hH, hR, q⟩ := h
  refine ⟨_, (pss_cons (ps_set (i := 4) sc__law_test.nd rfl (Or.inl rfl) (pe_call G__law_draw hr (by rfl) m__law_draw k__law_draw b__law_draw .nil pass0 (pa_cons (pv 0) (pa_cons pe_int pa_nil))))
    (pss_cons (ps_if (PW.pt (pw_and (pt_cmpR op_eq (pv 4) pe_int (nomark _)) (pw_and1 (pt_cmpR op_gt (pv 3) pe_int (nomark _))))) (pss_one (ps_ret (pe_tupS (pa_cons pe_str (pa_cons (pe_call G__law_test hr (by rfl) m__law_test k__law_test b__law_test .nil pass0 (pa_cons (pv 0) (pa_cons (pv 1) (pa_cons (pv 2) (pa_cons (pe_op op_sub (pv 3) pe_int) pa_nil))))) pa_nil))))) pss_nil)
    (pss_cons (ps_if (pt_cmpR op_eq (pv 4) pe_int (nomark _)) (pss_one (ps_ret (pe_tupS (pa_cons pe_str (pa_cons (pe_ix ix_tup (pe_call G__law_pick hr (by rfl) m__law_pick k__law_pick b__law_pick .nil pass0 (pa_cons (pv 0) (pa_cons (pv 1) pa_nil))) pe_int (fun _ _ => rfl)) pa_nil))))) pss_nil)
    (pss_cons (ps_asg (pe_call G__law_pick hr (by rfl) m__law_pick k__law_pick b__law_pick .nil pass0 (pa_cons (pv 0) (pa_cons (pv 2) pa_nil))) (pg_tup rfl (pgs_cons (pg_name (i := 5) sc__law_test.nd rfl (Or.inl rfl)) (pgs_cons (pg_name (i := 6) sc__law_test.nd rfl (Or.inl rfl)) (pgs_cons (pg_name (i := 7) sc__law_test.nd rfl (Or.inl rfl)) pgs_nil)))))
    (pss_cons (ps_set (i := 8) sc__law_test.nd rfl (Or.inl rfl) (pe_call G__law_draw hr (by rfl) m__law_draw k__law_draw b__law_draw .nil pass0 (pa_cons (pv 0) (pa_cons (pe_call G__law_pick hr (by rfl) m__law_pick k__law_pick b__law_pick .nil pass0 (pa_cons (pv 0) (pa_cons (pe_lstS (pa_cons (pe_callB (call_min2 rfl) (by rfl) B.min (by decide +kernel) (pa_cons pe_int (pa_cons (pe_op op_shl pe_int (pv 7)) pa_nil))) (pa_cons (pe_op op_shl pe_int (pv 7)) pa_nil))) pa_nil))) pa_nil))))
    (pss_one (ps_ret (pe_tupS (pa_cons (pe_call G__law_pick hr (by rfl) m__law_pick k__law_pick b__law_pick .nil pass0 (pa_cons (pv 0) (pa_cons (pe_lstS (pa_cons pe_str (pa_cons pe_str pa_nil))) pa_nil))) (pa_cons (pe_tupS (pa_cons (pv 5) (pa_cons (pv 6) pa_nil))) (pa_cons (pv 8) pa_nil))))))))))), ?_⟩
  refine ⟨_, rfl, st, c, 5, rfl, g, by decide, by decide, fun n1 H1 n10 n11 k1 g1 => ?_⟩
  -- a comparison
  have cmpr : (tSeq (tAsg (tCall spPick [] E0 (tCons (tVar 0) (tCons (tVar 2) tNil))) (gTup K 3 (gCons (gName 5) (gCons (gName 6) (gCons (gName 7) gNil)))))
      (tSeq (tAsg (tCall spDraw [] E0 (tCons (tVar 0) (tCons (tCall spPick [] E0 (tCons (tVar 0) (tCons (tLstS (tCons (tCB (fun xs H Q => ∃ i j, xs = [.int i, .int j] ∧ Q (.int (if j < i then j else i)) H) (tCons (tC (.int 5)) (tCons (tOp (rI CPow fun i j => .int (i * 2 ^ j.toNat)) (tC (.int 1)) (tVar 7)) tNil))) (tCons (tOp (rI CPow fun i j => .int (i * 2 ^ j.toNat)) (tC (.int 1)) (tVar 7)) tNil))) tNil))) tNil))) (gName 8))
      (tRet (tTupS (tCons (tCall spPick [] E0 (tCons (tVar 0) (tCons (tLstS (tCons (tC (.str "==")) (tCons (tC (.str "<")) tNil))) tNil))) (tCons (tTupS (tCons (tVar 5) (tCons (tVar 6) tNil))) (tCons (tVar 8) tNil))))))) { nx := fun _ H' => Q .non H', rt := Q } [some (.ref st), some hv, some R, some (.int (d : Int)), some (.int n1), none, none, none, none] H1 := by
    obtain ⟨ra, rx, rfl, hra, hran, hrne, hrl, _, rpick⟩ := (hR.kp k1).pick
    refine ⟨_, rfl, _, rfl, st, c, ra, rx, rfl, g1, hra, hran, hrne, hrl, fun i x H2 hx k2 g2 => ?_⟩
    obtain ⟨ta, ow, nm, wd, rfl, hta, hw⟩ := rpick i x H2 hx k2
    refine ⟨_, _, rfl, SqT.of hta, rfl, _, _, rfl, _, _, rfl, _, _, rfl, rfl, ?_⟩
    obtain ⟨sh1, sh2⟩ := sh_ok hw.2.1 hw.2.2
    have hw2 := hw.2
    dsimp only at hw2
    refine ⟨_, rfl, _, rfl, _, rfl, _, _, rfl, rfl, ⟨by omega, by omega, by decide⟩, _, _, rfl, _, rfl, _, _, rfl, rfl, ⟨by omega, by omega, by decide⟩, by walk_at "le", fun p H3 hp s3 e3 => ?_⟩
    have g3 := g2.same s3
    refine ⟨st, c, p, _, rfl, g3, e3, g2.nin hp, by simp, by simp, fun i x H4 hx k4 g4 => ?_⟩
    have hm : ∃ m : Int, x = .int m ∧ 0 < m ∧ m ≤ 4294967296 := by
      rcases i with _ | _ | i
      · cases hx
        exact ⟨_, rfl, by split <;> omega, by split <;> omega⟩
      · cases hx
        exact ⟨_, rfl, sh1, sh2⟩
      · simp at hx
    obtain ⟨m, rfl, m1, m2⟩ := hm
    refine ⟨st, c, m, rfl, g4, m1, m2, fun nn H5 n0 n1 k5 g5 => ?_⟩
    refine ⟨_, rfl, by walk_at "le", fun p H6 hp s6 e6 => ⟨st, c, p, _, rfl, g5.same s6, e6, g5.nin hp, by simp, by simp, fun i x H7 hx k7 g7 => ?_⟩⟩
    obtain ⟨sg, rfl⟩ : ∃ sg : Bool, x = .str (cmpS sg) := by
      rcases i with _ | _ | i
      · cases hx; exact ⟨true, rfl⟩
      · cases hx; exact ⟨false, rfl⟩
      · simp at hx
    have kk := (((((k1.trans k2).trans (Kp.same s3)).trans k4).trans k5).trans (Kp.same s6)).trans k7
    refine ⟨_, rfl, _, rfl, by walk_at "le", fun t8 H8 ht8 s8 e8 => ⟨_, rfl, by walk_at "le", fun t9 H9 ht9 s9 e9 => ?_⟩⟩
    have k8 := kk.trans (Kp.same s8)
    exact q _ _ (.cmp sg (ow, nm) nn) (wTst_cmp hw.1 ⟨n0, by omega⟩) (k8.trans (Kp.same s9)) ((g7.same s8).same s9) (at_tup ((g7.same s8).dm k8) ht9 e9 (.cons (.str _) (.cons ((at_tup (g7.dm kk) ht8 e8 (.cons (.str _) (.cons (.str _) .nil))).mono (nws s9)) (.cons (.int _) .nil))))
  have rest : ∀ D : Ends, D.rt = Q → (∀ σ H, σ = [some (.ref st), some hv, some R, some (.int (d : Int)), some (.int n1), none, none, none, none] → H = H1 → D.nx σ H) → tIfS (tTest (tOp rEq (tVar 4) (tC (.int 1)))) (tRet (tTupS (tCons (tC (.str "valid")) (tCons (tOp (rIxT K) (tCall spPick [] E0 (tCons (tVar 0) (tCons (tVar 1) tNil))) (tC (.int 1))) tNil)))) tNext D [some (.ref st), some hv, some R, some (.int (d : Int)), some (.int n1), none, none, none, none] H1 := by
    intro D hrt hnx
    refine ⟨_, rfl, rfl, _, rfl, ?_⟩
    by_cases h1 : V.int n1 = V.int 1
    · obtain ⟨ha, hx, rfl, hha, hhan, hhne, hhl, _, hpick⟩ := (hH.kp k1).pick
      refine ifE h1 ⟨_, rfl, _, rfl, st, c, ha, hx, rfl, g1, hha, hhan, hhne, hhl, fun i x H3 hxi k3 g3 => ?_⟩
      obtain ⟨ta, nm, yy, rfl, hta, hw⟩ := hpick i x H3 hxi k3
      refine ⟨_, _, _, _, rfl, rfl, SqT.of hta, at1, by walk_at "le", fun t H4 ht s4 e4 => ?_⟩
      have kk := k1.trans k3
      rw [hrt]
      exact q _ _ (.valid nm) (wTst_valid hw) (kk.trans (Kp.same s4)) (g3.same s4) (at_tup (g3.dm kk) ht e4 (.cons (.str _) (.cons (.str _) .nil)))
    · exact ifN h1 (hnx _ _ rfl rfl)
  refine ⟨_, rfl, rfl, _, rfl, ?_⟩
  by_cases h0 : V.int n1 = V.int 0
  · refine ifE h0 ⟨_, rfl, _, _, rfl, rfl, _, rfl, ?_⟩
    by_cases hd : (0 : Int) < (d : Int)
    · rw [decide_eq_true hd]
      obtain ⟨d', rfl⟩ : ∃ d', d = d' + 1 := ⟨d - 1, by omega⟩
      obtain ⟨n', rfl⟩ : ∃ n', n = n' + 1 := ⟨n - 1, by omega⟩
      refine ⟨_, rfl, _, rfl, _, rfl, _, rfl, _, _, rfl, rfl, st, c, hv, hs, R, rs, d', by show [V.ref st, hv, R, V.int (((d' + 1 : Nat) : Int) - 1)] = _; rw [show ((d' + 1 : Nat) : Int) - 1 = (d' : Int) from by omega], by omega, g1, hH.kp k1, hR.kp k1, fun v3 H3 t3 w3 k3 g3 h3 => ⟨by walk_at "le", fun t H4 ht s4 e4 => ?_⟩⟩
      have kk := k1.trans k3
      exact q _ _ (.nt t3) (wTst_nt w3) (kk.trans (Kp.same s4)) (g3.same s4) (at_tup (g3.dm kk) ht e4 (.cons (.str _) (.cons ((h3.mono (nw0 (g1.dm k1))).mono (nws s4)) .nil)))
    · rw [decide_eq_false hd]
      exact rest _ rfl fun σ H e1 e2 => by rw [e1, e2]; exact cmpr
  · exact ifN h0 (rest _ rfl fun σ H e1 e2 => by rw [e1, e2]; exact cmpr)
theorem ok__law_test_all (B : Bt mg) (h : Has K mg "_law_test" s__law_test ["_law_state_here", "_law_headers_here", "_law_refs_here", "_law_deep"]) (c1 : Ok P w K mg base k "_law_draw" ["_law_state_here", "_law_many"] spDraw) (c2 : Ok P w K mg base k "_law_pick" ["_law_state_here", "_law_row"] spPick) : ∀ n : Nat, Ok P w K mg base (k + n) "_law_test" ["_law_state_here", "_law_headers_here", "_law_refs_here", "_law_deep"] (spTstG n)
  | 0 => (h.none fun _ _ _ _ => id).mono (Nat.zero_le _)
  | n + 1 => ok__law_test B h (c1.mono (Nat.le_add_right _ _)) (c2.mono (Nat.le_add_right _ _)) n (ok__law_test_all B h c1 c2 n)
end
end WP
namespace WP
open PySem PySem.Spec PyProof.Rows L2 TL
local macro_rules | `(tactic| walk_at "len") => `(tactic| (show _ ≤ sizeLine; rw [sizeLine_eq]; (try simp only [al, lit_len]); (try simp) <;> omega))
local macro_rules | `(tactic| walk_at "lt") => `(tactic| (show _ < sizeLine; rw [sizeLine_eq]; (try simp only [List.length_map, List.length_append, List.length_cons, List.length_nil, List.length_take]); omega))
local macro_rules | `(tactic| walk_at "le") => `(tactic| (show _ ≤ sizeLine; rw [sizeLine_eq]; (try simp only [List.length_map, List.length_append, List.length_cons, List.length_nil, List.length_take]); omega))
local macro_rules | `(tactic| walk_at "now") => `(tactic| first | assumption | (refine (by assumption : Same _ _) _ _ ?_; walk_at "now"))
local macro_rules | `(tactic| walk_at "at") => `(tactic| first | exact at0 | exact at1 | exact at2 | exact at3 | exact at4 | exact at5 | exact at6 | exact at7 | exact at8)
local macro_rules | `(tactic| walk_at "v") => `(tactic| refine ⟨_, rfl, ?_⟩)
local macro_rules | `(tactic| walk_at "ix") => `(tactic| refine ⟨_, _, _, _, rfl, rfl, SqT.of (by walk_at "now"), (by walk_at "at"), ?_⟩)
local macro_rules | `(tactic| walk_at "ixl") => `(tactic| refine ⟨_, _, _, _, rfl, rfl, SqL.of (by walk_at "now"), (by walk_at "at"), ?_⟩)
local macro_rules | `(tactic| walk_at "str") => `(tactic| refine ⟨_, _, rfl, rfl, (by walk_at "len"), ?_⟩)
local macro_rules | `(tactic| walk_at "int") => `(tactic| refine ⟨_, _, rfl, rfl, ?_⟩)
local macro_rules | `(tactic| walk_at "eq") => `(tactic| refine ⟨rfl, _, rfl, ?_⟩)
local macro_rules | `(tactic| walk_at "app") => `(tactic| refine ⟨_, _, _, rfl, rfl, (by walk_at "now"), (by walk_at "lt"), ?_⟩)
local macro_rules | `(tactic| walk_at "ext") => `(tactic| refine ⟨_, _, _, _, rfl, rfl, (by walk_at "now"), (by walk_at "now"), (by walk_at "le"), ?_⟩)
local macro_rules | `(tactic| walk_at "cat") => `(tactic| refine ⟨_, _, _, _, rfl, rfl, (by walk_at "now"), (by walk_at "now"), (by walk_at "le"), ?_⟩)
local macro_rules | `(tactic| walk_at "num") => `(tactic| refine ⟨(by assumption : Nu _), ?_⟩)
local macro_rules | `(tactic| walk_at "ty") => `(tactic| refine ⟨Or.inl ⟨rfl, _, SqL.of (by walk_at "now")⟩, ?_⟩)
local macro_rules | `(tactic| walk_at "un2") => `(tactic| refine ⟨_, _, rfl, SqT.of (by walk_at "now"), rfl, _, _, rfl, _, _, rfl, rfl, ?_⟩)
local macro_rules | `(tactic| walk_at "un3") => `(tactic| refine ⟨_, _, rfl, SqT.of (by walk_at "now"), rfl, _, _, rfl, _, _, rfl, _, _, rfl, rfl, ?_⟩)
local macro_rules | `(tactic| walk_at "un4") => `(tactic| refine ⟨_, _, rfl, SqT.of (by walk_at "now"), rfl, _, _, rfl, _, _, rfl, _, _, rfl, _, _, rfl, rfl, ?_⟩)
local macro_rules | `(tactic| walk_at "un6") => `(tactic| refine ⟨_, _, rfl, SqT.of (by walk_at "now"), rfl, _, _, rfl, _, _, rfl, _, _, rfl, _, _, rfl, _, _, rfl, _, _, rfl, rfl, ?_⟩)
local macro_rules | `(tactic| walk_at "un9") => `(tactic| refine ⟨_, _, rfl, SqT.of (by walk_at "now"), rfl, _, _, rfl, _, _, rfl, _, _, rfl, _, _, rfl, _, _, rfl, _, _, rfl, _, _, rfl, _, _, rfl, _, _, rfl, rfl, ?_⟩)
local macro_rules | `(tactic| walk_at "go") => `(tactic| repeat (first | walk_at "v" | walk_at "eq" | walk_at "ix" | walk_at "str" | walk_at "ty" | walk_at "num"))

/-! ### statements behind one another -/
def bapp : Blk → Blk → Blk
  | .nil, y => y
  | .app t r, y => .app t (bapp r y)
  | .ifs t a b r, y => .ifs t a b (bapp r y)
theorem eB_app : ∀ (x y : Blk), eB (bapp x y) = eB x ++ eB y
  | .nil, _ => rfl
  | .app t r, y => by simp [bapp, eB, eB_app r y]
  | .ifs t a b r, y => by simp [bapp, eB, eB_app r y]
theorem wB_app {n : Nat} : ∀ {x y : Blk}, wB n x → wB n y → wB n (bapp x y)
  | .nil, _, _, h => h
  | .app t r, y, h, k => ⟨h.1, wB_app h.2 k⟩
  | .ifs t a b r, y, h, k => ⟨h.1, h.2.1, wB_app h.2.2 k⟩
theorem count_app : ∀ (x y : Blk), (bapp x y).count = x.count + y.count
  | .nil, _ => by simp [bapp, Blk.count]
  | .app t r, y => by simp [bapp, Blk.count, count_app r y]; omega
  | .ifs t a b r, y => by simp [bapp, Blk.count, count_app r y]; omega
theorem eB_len : ∀ x : Blk, (eB x).length ≤ x.count
  | .nil => Nat.zero_le _
  | .app t r => by have := eB_len r; simp [eB, Blk.count]; omega
  | .ifs t a b r => by have := eB_len r; simp [eB, Blk.count]; omega
theorem erase_map {α β : Type} (f : α → β) : ∀ (l : List α) (i : Nat), (l.map f).eraseIdx i = (l.eraseIdx i).map f
  | [], _ => rfl
  | x :: l, 0 => rfl
  | x :: l, i + 1 => by
    show f x :: (l.map f).eraseIdx i = f x :: (l.eraseIdx i).map f
    rw [erase_map f l i]
theorem tifs_cut {c : TT} {t u : TS} {D : Ends} {σ : L2.St} {H : Hp} (Pt Pe : Hp → Prop) (key : ∀ Qb : Bool → Hp → Prop, (∀ H', Pt H' → Qb true H') → (∀ H', Pe H' → Qb false H') → c σ H Qb) (ht : ∀ H', Pt H' → t D σ H') (he : ∀ H', Pe H' → u D σ H') : tIfS c t u D σ H :=
  key _ (fun H' h => iteT (ht H' h)) (fun H' h => iteF (he H' h))
structure Cs (st c nl lf : Addr) (H : Hp) (names : List Str) (left : Int) : Prop where
  gs : Gs st c H
  e1 : H nl = some (.lst (names.map V.str))
  e2 : H lf = some (.lst [.int left])
  n1 : nl ∉ [st, c]
  n2 : lf ∉ [st, c]
  n3 : nl ≠ lf
  l0 : 0 ≤ left
  l1 : left ≤ 12
  few : names.length ≤ 16
  ok : ∀ n ∈ names, Nm n
section
variable {st c nl lf : Addr} {H H' : Hp} {names : List Str} {left : Int}
theorem Cs.kp (h : Cs st c nl lf H names left) (k : Kp [st, c] H H') (g : Gs st c H') : Cs st c nl lf H' names left := ⟨g, k _ _ h.n1 h.e1, k _ _ h.n2 h.e2, h.n1, h.n2, h.n3, h.l0, h.l1, h.few, h.ok⟩
theorem Cs.same (h : Cs st c nl lf H names left) (s : Same H H') : Cs st c nl lf H' names left := h.kp (Kp.same s) (h.gs.same s)
theorem Cs.mm (h : Cs st c nl lf H names left) : ∀ b ∈ [st, c, nl, lf], H b ≠ none := by
  intro b hb
  simp only [List.mem_cons, List.not_mem_nil, or_false] at hb
  rcases hb with rfl | rfl | rfl | rfl
  · exact h.gs.mm _ (by simp)
  · exact h.gs.mm _ (by simp)
  · rw [h.e1]; simp
  · rw [h.e2]; simp
theorem Cs.dm (h : Cs st c nl lf H' names left) {H : Hp} (k : Kp [st, c, nl, lf] H H') : Dm H H' := k.dm h.mm
theorem Cs.setl (h : Cs st c nl lf H names left) {l' : Int} (k : Kp [lf] H H') (e : H' lf = some (.lst [.int l'])) (h0 : 0 ≤ l') (h1 : l' ≤ 12) : Cs st c nl lf H' names l' :=
  ⟨h.gs.ap h.n2 k, k _ _ (by simpa using h.n3) h.e1, e, h.n1, h.n2, h.n3, h0, h1, h.few, h.ok⟩
theorem Cs.pop (h : Cs st c nl lf H names left) {i : Nat} (k : Kp [nl] H H') (e : H' nl = some (.lst ((names.map V.str).eraseIdx i))) : Cs st c nl lf H' (names.eraseIdx i) left := by
  refine ⟨h.gs.ap h.n1 k, by rw [e, erase_map], k _ _ (by simpa using h.n3.symm) h.e2, h.n1, h.n2, h.n3, h.l0, h.l1, ?_, fun n hn => h.ok n (List.mem_of_mem_eraseIdx hn)⟩
  have := h.few
  have := List.length_eraseIdx_le names i
  omega
theorem Cs.ap (h : Cs st c nl lf H names left) {L : Addr} (n : L ∉ [st, c, nl, lf]) (k : Kp [L] H H') : Cs st c nl lf H' names left := by
  simp only [List.mem_cons, List.not_mem_nil, or_false, not_or] at n
  exact ⟨h.gs.ap (by simp [n.1, n.2.1]) k, k _ _ (by simpa using fun e => n.2.2.1 e.symm) h.e1, k _ _ (by simpa using fun e => n.2.2.2 e.symm) h.e2, h.n1, h.n2, h.n3, h.l0, h.l1, h.few, h.ok⟩
end
structure CA (M : List Addr) (H : Hp) (hv : V) (hs : List Hdr) (R : V) (rs : List Ref) : Prop where
  ha : At (Out M H) hv (.list (hs.map eHdr))
  hw : wGHs hs
  ra : At (Out M H) R (.list (rs.map eRef))
  ne : rs ≠ []
  few : rs.length ≤ 1000
  ok : ∀ r ∈ rs, wRef r
theorem CA.kp {M : List Addr} {H H' : Hp} {hv : V} {hs : List Hdr} {R : V} {rs : List Ref} (h : CA M H hv hs R rs) (k : Kp M H H') : CA M H' hv hs R rs := ⟨h.ha.mono k.out, h.hw, h.ra.mono k.out, h.ne, h.few, h.ok⟩
theorem CA.hd {st c nl lf : Addr} {H : Hp} {hv : V} {hs : List Hdr} {R : V} {rs : List Ref} (h : CA [st, c, nl, lf] H hv hs R rs) : HdA st c H hv hs := ⟨h.ha.mono (same_out (by simp)), h.hw⟩
theorem CA.rf {st c nl lf : Addr} {H : Hp} {hv : V} {hs : List Hdr} {R : V} {rs : List Ref} (h : CA [st, c, nl, lf] H hv hs R rs) : RfA st c H R rs := ⟨h.ra.mono (same_out (by simp)), h.ne, h.few, h.ok⟩
theorem kp4 {st c nl lf : Addr} {H H' : Hp} (k : Kp [st, c] H H') : Kp [st, c, nl, lf] H H' := k.more (by simp)
def spCtl : Nat → Sp
  | 0 => fun _ _ _ _ => False
  | n + 1 => fun vs H Q _ => ∃ (st c nl lf : Addr) (hv : V) (hs : List Hdr) (R : V) (rs : List Ref) (names : List Str) (left : Int) (d : Nat), vs = [.ref st, hv, R, .ref nl, .int (d : Int), .ref lf] ∧ d ≤ n ∧ Cs st c nl lf H names left ∧ CA [st, c, nl, lf] H hv hs R rs ∧
    ∀ v H' x names' left', wB d x → Kp [st, c, nl, lf] H H' → Cs st c nl lf H' names' left' → left' + (x.count : Int) ≤ left → At (Nw H H') v (.list (eB x)) → Q v H'
section
variable {P : Program} {w : World} {K : PySem.W.Frag} {mg : Str → Option Value} {base : Heap} {k : Nat}
abbrev s__law_control : Stmt := top 74
abbrev n__law_control : List Str := ["_law_state_here", "_law_headers_here", "_law_refs_here", "_law_names", "_law_nested", "_law_left", "_law_control_here", "_law_k", "_law_test_here", "_law_then"]
theorem sc__law_control : FnScope n__law_control ["_law_state_here", "_law_headers_here", "_law_refs_here", "_law_names", "_law_nested", "_law_left"] (defScope s__law_control) := ⟨rfl, rfl, rfl, by decide +kernel, rfl, by decide +kernel, by decide +kernel⟩
/- slots: 0 _law_state_here, 1 _law_headers_here, 2 _law_refs_here, 3 _law_names, 4 _law_nested, 5 _law_left, 6 _law_control_here, 7 _law_k, 8 _law_test_here, 9 _law_then -/
theorem ok__law_control (B : Bt mg) (h : Has K mg "_law_control" s__law_control ["_law_state_here", "_law_headers_here", "_law_refs_here", "_law_names", "_law_nested", "_law_left"]) (c1 : Ok P w K mg base k "_law_draw" ["_law_state_here", "_law_many"] spDraw)
    (c2 : Ok P w K mg base k "_law_test" ["_law_state_here", "_law_headers_here", "_law_refs_here", "_law_deep"] (spTstG 4)) (n : Nat) (c3 : Ok P w K mg base k "_law_control" ["_law_state_here", "_law_headers_here", "_law_refs_here", "_law_names", "_law_nested", "_law_left"] (spCtl n)) :
    Ok P w K mg base (k + 1) "_law_control" ["_law_state_here", "_law_headers_here", "_law_refs_here", "_law_names", "_law_nested", "_law_left"] (spCtl (n + 1)) := by
  obtain ⟨_, _, G__law_draw, m__law_draw, k__law_draw, b__law_draw⟩ := c1.ex
  obtain ⟨_, _, G__law_test, m__law_test, k__law_test, b__law_test⟩ := c2.ex
  obtain ⟨_, _, G__law_control, m__law_control, k__law_control, b__law_control⟩ := c3.ex
  refine h.ok sc__law_control (fun vs H Q E h => ?_) (fun f0 cdv A outer s H vs Q E hr h => ?_)
  · obtain ⟨_, _, _, _, _, _, _, _, _, _, _, rfl, _⟩ := h; rfl
  obtain ⟨st, c, nl, lf, hv, hs, R, rs, names, left, d, rfl, hdn, cs, ca, q⟩ := h
  refine ⟨_, (pss_cons (ps_set (i := 6) sc__law_control.nd rfl (Or.inl rfl) (pe_lstS pa_nil))
    (pss_cons (ps_for PassesOwn.never rfl (pi_range1 (by rfl) B.range (pa_cons (pe_call G__law_draw hr (by rfl) m__law_draw k__law_draw b__law_draw .nil pass0 (pa_cons (pv 0) (pa_cons pe_int pa_nil))) pa_nil)) (pg_name (i := 7) sc__law_control.nd rfl (Or.inl rfl)) (pss_one (ps_if (PW.pt (pw_and (pt_cmpR op_gt (pv 4) pe_int (nomark _)) (pw_and (pt_cmpR op_gt (pe_ix ix_list (pv 5) pe_int (fun _ _ => rfl)) pe_int (nomark _)) (pw_and1 (pt_cmpR op_eq (pe_call G__law_draw hr (by rfl) m__law_draw k__law_draw b__law_draw .nil pass0 (pa_cons (pv 0) (pa_cons pe_int pa_nil))) pe_int (nomark _)))))) (pss_cons (ps_asg (pe_op op_sub (pe_ix ix_list (pv 5) pe_int (fun _ _ => rfl)) pe_int) (pg_sub (pv 5) pe_int set_listS))
    (pss_cons (ps_set (i := 8) sc__law_control.nd rfl (Or.inl rfl) (pe_call G__law_test hr (by rfl) m__law_test k__law_test b__law_test .nil pass0 (pa_cons (pv 0) (pa_cons (pv 1) (pa_cons (pv 2) (pa_cons pe_int pa_nil))))))
    (pss_cons (ps_set (i := 9) sc__law_control.nd rfl (Or.inl rfl) (pe_call G__law_control hr (by rfl) m__law_control k__law_control b__law_control .nil pass0 (pa_cons (pv 0) (pa_cons (pv 1) (pa_cons (pv 2) (pa_cons (pv 3) (pa_cons (pe_op op_sub (pv 4) pe_int) (pa_cons (pv 5) pa_nil))))))))
    (pss_one (ps_expr (pe_bm PySem.F.plainAttrs_list PySem.F.slot_list_append PySem.F.type_list_append mt_appendS (pv 6) (pa_cons (pe_tupS (pa_cons pe_str (pa_cons (pv 8) (pa_cons (pv 9) (pa_cons (pe_call G__law_control hr (by rfl) m__law_control k__law_control b__law_control .nil pass0 (pa_cons (pv 0) (pa_cons (pv 1) (pa_cons (pv 2) (pa_cons (pv 3) (pa_cons (pe_op op_sub (pv 4) pe_int) (pa_cons (pv 5) pa_nil))))))) pa_nil))))) pa_nil))))))) (pss_one (ps_if (PW.pt (pw_and (pt_cmpR op_gt (pe_callB call_len_seq (by rfl) B.len PySem.boot_len (pa_cons (pv 3) pa_nil)) pe_int (nomark _)) (pw_and1 (pt_cmpR op_gt (pe_ix ix_list (pv 5) pe_int (fun _ _ => rfl)) pe_int (nomark _))))) (pss_cons (ps_asg (pe_op op_sub (pe_ix ix_list (pv 5) pe_int (fun _ _ => rfl)) pe_int) (pg_sub (pv 5) pe_int set_listS))
    (pss_one (ps_expr (pe_bm PySem.F.plainAttrs_list PySem.F.slot_list_append PySem.F.type_list_append mt_appendS (pv 6) (pa_cons (pe_tupS (pa_cons pe_str (pa_cons (pe_bm PySem.F.plainAttrs_list PySem.F.slot_list_pop PySem.F.type_list_pop mt_popAtS (pv 3) (pa_cons (pe_call G__law_draw hr (by rfl) m__law_draw k__law_draw b__law_draw .nil pass0 (pa_cons (pv 0) (pa_cons (pe_callB call_len_seq (by rfl) B.len PySem.boot_len (pa_cons (pv 3) pa_nil)) pa_nil))) pa_nil)) pa_nil))) pa_nil))))) pss_nil)))))
    (pss_one (ps_ret (pv 6))))), ?_⟩
  refine ⟨by walk_at "le", fun L H1 hL s1 e1 => ?_⟩
  have lb1 := GB.start cs.mm hL s1 e1
  have cs1 := cs.same s1
  refine ⟨_, rfl, st, c, 4, rfl, cs1.gs, by decide, by decide, fun n2 H2 n20 n21 k2 g2 => ⟨_, rfl, by omega, by omega, ?_⟩⟩
  have cs2 := cs1.kp k2 g2
  have lb2 := lb1.go (kp4 k2) (cs2.dm (kp4 k2))
  refine for_range (fun j σ' H' => ∃ (x : Blk) (names' : List Str) (left' : Int) (x1 x2 x3 : Option V), σ' = [some (.ref st), some hv, some R, some (.ref nl), some (.int (d : Int)), some (.ref lf), some (.ref L), x1, x2, x3] ∧ wB d x ∧ Cs st c nl lf H' names' left' ∧ left' + (x.count : Int) ≤ left ∧ GB [st, c, nl, lf] L H H' (eB x)) ⟨.nil, names, left, _, _, _, rfl, trivial, cs2, by simp [Blk.count], lb2⟩ ?_ ?_
  · rintro j σ' H3 hj ⟨x, nm3, lf3, x1, x2, x3, rfl, hx, cs3, hc3, lb3⟩
    have fr : H L = none := lb3.fr
    have nL4 := lb3.nM
    have nL2 : L ∉ [st, c] := fun z => nL4 (by simp only [List.mem_cons, List.not_mem_nil, or_false] at z ⊢; rcases z with z | z <;> simp [z])
    have nLn : L ≠ nl := fun e => nL4 (by simp [e])
    have nLf : L ≠ lf := fun e => nL4 (by simp [e])
    refine tifs_cut (fun H' => Kp [st, c] H3 H' ∧ Gs st c H' ∧ 0 < d ∧ 0 < lf3) (fun H' => Kp [st, c] H3 H' ∧ Gs st c H') (fun Qb ht he => ?_) (fun H4 ⟨k4, g4, hd, hl⟩ => ?_) (fun H4 ⟨k4, g4⟩ => ?_)
    · refine ⟨_, rfl, _, _, rfl, rfl, _, rfl, ?_⟩
      by_cases hd : (0 : Int) < (d : Int)
      · rw [decide_eq_true hd]
        refine iteT ⟨_, rfl, _, _, _, _, rfl, rfl, SqL.of cs3.e2, at0, _, _, rfl, rfl, _, rfl, ?_⟩
        by_cases hl : (0 : Int) < lf3
        · rw [decide_eq_true hl]
          refine iteT ⟨_, rfl, st, c, 3, rfl, cs3.gs, by decide, by decide, fun n4 H4 n40 n41 k4 g4 => ⟨rfl, _, rfl, ?_⟩⟩
          by_cases h0 : V.int n4 = V.int 0
          · rw [decide_eq_true h0]; exact ht _ ⟨k4, g4, by omega, hl⟩
          · rw [decide_eq_false h0]; exact he _ ⟨k4, g4⟩
        · rw [decide_eq_false hl]; exact iteF (he _ ⟨Kp.refl, cs3.gs⟩)
      · rw [decide_eq_false hd]; exact iteF (he _ ⟨Kp.refl, cs3.gs⟩)
    · obtain ⟨d', rfl⟩ : ∃ d', d = d' + 1 := ⟨d - 1, by omega⟩
      obtain ⟨n', rfl⟩ : ∃ n', n = n' + 1 := ⟨n - 1, by omega⟩
      have cs4 := cs3.kp k4 g4
      have l12 := cs3.l1
      refine ⟨_, rfl, _, _, _, _, rfl, rfl, SqL.of cs4.e2, at0, _, _, rfl, rfl, _, rfl, lf, _, 0, rfl, rfl, cs4.e2, by simp, fun H5 k5 e5 => ?_⟩
      have cs5 := cs4.setl k5 e5 (by omega) (by omega)
      have k35 : Kp [st, c, nl, lf] H3 H5 := (kp4 k4).trans (k5.more (by simp))
      have k05 := lb3.kp.trans k35
      have ca5 := ca.kp k05
      refine ⟨_, rfl, _, rfl, _, rfl, st, c, hv, hs, R, rs, 3, rfl, by decide, cs5.gs, ca5.hd, ca5.rf, fun v6 H6 t6 w6 k6 g6 h6 => ?_⟩
      have cs6 := cs5.kp k6 g6
      have k06 := k05.trans (kp4 k6)
      refine ⟨_, rfl, _, rfl, _, rfl, _, rfl, _, rfl, _, _, rfl, rfl, _, rfl, st, c, nl, lf, hv, hs, R, rs, _, _, d', by show [V.ref st, hv, R, V.ref nl, V.int (((d' + 1 : Nat) : Int) - 1), V.ref lf] = _; rw [show ((d' + 1 : Nat) : Int) - 1 = (d' : Int) from by omega], by omega, cs6, ca.kp k06, fun v7 H7 xa nm7 lf7 w7 k7 cs7 c7 h7 => ?_⟩
      have k07 := k06.trans k7
      have k37 := (k35.trans (kp4 k6)).trans k7
      have lb7 := lb3.go k37 (cs7.dm k37)
      refine ⟨_, rfl, lb7.ty, _, rfl, _, rfl, _, rfl, _, rfl, _, rfl, _, rfl, _, rfl, _, _, rfl, rfl, _, rfl, st, c, nl, lf, hv, hs, R, rs, _, _, d', by show [V.ref st, hv, R, V.ref nl, V.int (((d' + 1 : Nat) : Int) - 1), V.ref lf] = _; rw [show ((d' + 1 : Nat) : Int) - 1 = (d' : Int) from by omega], by omega, cs7, ca.kp k07, fun v8 H8 xb nm8 lf8 w8 k8 cs8 c8 h8 => ⟨by walk_at "le", fun t9 H9 ht9 s9 e9 => ?_⟩⟩
      have k08 := k07.trans k8
      have k38 := k37.trans k8
      have i6 := ((h6.mono (nw0 (cs5.dm k35))).mono (nw1 (k7.trans k8) cs3.mm)).mono (nws s9)
      have i7 := ((h7.mono (nw0 (cs6.dm (k35.trans (kp4 k6))))).mono (nw1 k8 cs3.mm)).mono (nws s9)
      have i8 := (h8.mono (nw0 (cs7.dm k37))).mono (nws s9)
      have hc8 := cs8.l0
      have hlen := eB_len x
      have hq := cs.l1
      have hq3 := cs3.l0
      have d38 := cs8.dm k38
      obtain ⟨us, eu, hlt, go⟩ := lb3.ap (d := .tuple [.str "if", eTst t6, .list (eB xa), .list (eB xb)]) (k38.trans (Kp.same s9)) (d38.trans (Same.dm s9)) (at_tup d38 ht9 e9 (.cons (.str _) (.cons i6 (.cons i7 (.cons i8 .nil))))) (by omega)
      refine ⟨_, _, _, rfl, rfl, eu, hlt, fun H10 k10 e10 => ?_⟩
      refine ⟨bapp x (.ifs t6 xa xb .nil), nm8, lf8, _, _, _, rfl, wB_app hx ⟨wTst_mono w6 (by decide), ⟨d', rfl, w7, w8⟩, trivial⟩, (cs8.same s9).ap nL4 k10, ?_, ?_⟩
      · rw [count_app]
        simp only [Blk.count]
        omega
      · rw [eB_app]
        exact go H10 k10 e10
    · have cs4 := cs3.kp k4 g4
      have k34 : Kp [st, c, nl, lf] H3 H4 := kp4 k4
      have lb4 := lb3.go k34 (cs4.dm k34)
      have l12 := cs3.l1
      have f16 := cs4.few
      have stay : ∀ H5, Kp [st, c] H3 H5 → Gs st c H5 → GB [st, c, nl, lf] L H H5 (eB x) ∧ Cs st c nl lf H5 nm3 lf3 := fun H5 k g => ⟨lb3.go (kp4 k) ((cs3.kp k g).dm (kp4 k)), cs3.kp k g⟩
      refine ⟨_, rfl, nl, _, rfl, .inl (SqL.of cs4.e1), _, _, rfl, rfl, _, rfl, ?_⟩
      by_cases hn : (0 : Int) < ((nm3.map V.str).length : Int)
      · rw [decide_eq_true hn]
        refine iteT ⟨_, rfl, _, _, _, _, rfl, rfl, SqL.of cs4.e2, at0, _, _, rfl, rfl, _, rfl, ?_⟩
        by_cases hl : (0 : Int) < lf3
        · rw [decide_eq_true hl]
          refine iteT ⟨_, rfl, _, _, _, _, rfl, rfl, SqL.of cs4.e2, at0, _, _, rfl, rfl, _, rfl, lf, _, 0, rfl, rfl, cs4.e2, by simp, fun H5 k5 e5 => ?_⟩
          have cs5 := cs4.setl k5 e5 (by omega) (by omega)
          have k35 : Kp [st, c, nl, lf] H3 H5 := k34.trans (k5.more (by simp))
          have lb5 := lb3.go k35 (cs5.dm k35)
          refine ⟨_, rfl, lb5.ty, _, rfl, .inl ⟨rfl, _, SqL.of cs5.e1⟩, _, rfl, _, rfl, nl, _, rfl, .inl (SqL.of cs5.e1), st, c, _, rfl, cs5.gs, hn, by rw [List.length_map]; omega, fun i H6 i0 i1 k6 g6 => ?_⟩
          obtain ⟨i, rfl⟩ := Int.eq_ofNat_of_zero_le i0
          rw [List.length_map] at i1
          have hil : i < nm3.length := by omega
          have cs6 := cs5.kp k6 g6
          refine ⟨nl, _, i, .str nm3[i], rfl, rfl, cs6.e1, by rw [List.length_map]; omega, by rw [List.getElem?_map, List.getElem?_eq_getElem hil]; rfl, fun H7 k7 e7 => ?_⟩
          have cs7 := cs6.pop k7 e7
          have k37 : Kp [st, c, nl, lf] H3 H7 := (k35.trans (kp4 k6)).trans (k7.more (by simp))
          have d37 := cs7.dm k37
          refine ⟨by walk_at "le", fun t8 H8 ht8 s8 e8 => ?_⟩
          have hlen := eB_len x
          have hq := cs.l1
          obtain ⟨us, eu, hlt, go⟩ := lb3.ap (d := .tuple [.str "apply", .str nm3[i]]) (k37.trans (Kp.same s8)) (d37.trans (Same.dm s8)) (at_tup d37 ht8 e8 (.cons (.str _) (.cons (.str _) .nil))) (by omega)
          refine ⟨_, _, _, rfl, rfl, eu, hlt, fun H9 k9 e9 => ?_⟩
          refine ⟨bapp x (.app nm3[i] .nil), _, _, _, _, _, rfl, wB_app hx ⟨cs3.ok _ (List.getElem_mem hil), trivial⟩, (cs7.same s8).ap nL4 k9, ?_, ?_⟩
          · rw [count_app]
            simp only [Blk.count]
            omega
          · rw [eB_app]
            exact go H9 k9 e9
        · rw [decide_eq_false hl]
          exact iteF ⟨x, nm3, lf3, _, _, _, rfl, hx, cs4, hc3, lb4⟩
      · rw [decide_eq_false hn]
        exact iteF ⟨x, nm3, lf3, _, _, _, rfl, hx, cs4, hc3, lb4⟩
  · rintro σ' H3 ⟨x, nm3, lf3, x1, x2, x3, rfl, hx, cs3, hc3, lb3⟩
    exact ⟨_, rfl, q _ _ x nm3 lf3 hx lb3.kp cs3 hc3 lb3.at⟩
theorem ok__law_control_all (B : Bt mg) (h : Has K mg "_law_control" s__law_control ["_law_state_here", "_law_headers_here", "_law_refs_here", "_law_names", "_law_nested", "_law_left"]) (c1 : Ok P w K mg base k "_law_draw" ["_law_state_here", "_law_many"] spDraw)
    (c2 : Ok P w K mg base k "_law_test" ["_law_state_here", "_law_headers_here", "_law_refs_here", "_law_deep"] (spTstG 4)) : ∀ n : Nat, Ok P w K mg base (k + n) "_law_control" ["_law_state_here", "_law_headers_here", "_law_refs_here", "_law_names", "_law_nested", "_law_left"] (spCtl n)
  | 0 => (h.none fun _ _ _ _ => id).mono (Nat.zero_le _)
  | n + 1 => ok__law_control B h (c1.mono (Nat.le_add_right _ _)) (c2.mono (Nat.le_add_right _ _)) n (ok__law_control_all B h c1 c2 n)
end
end WP
namespace WP
open PySem PySem.Spec PyProof.Rows L2 TL
local macro_rules | `(tactic| walk_at "len") => `(tactic| (show _ ≤ sizeLine; rw [sizeLine_eq]; (try simp only [al, lit_len]); (try simp) <;> omega))
local macro_rules | `(tactic| walk_at "lt") => `(tactic| (show _ < sizeLine; rw [sizeLine_eq]; (try simp only [List.length_map, List.length_append, List.length_cons, List.length_nil, List.length_take]); omega))
local macro_rules | `(tactic| walk_at "le") => `(tactic| (show _ ≤ sizeLine; rw [sizeLine_eq]; (try simp only [List.length_map, List.length_append, List.length_cons, List.length_nil, List.length_take]); omega))
local macro_rules | `(tactic| walk_at "now") => `(tactic| first | assumption | (refine (by assumption : Same _ _) _ _ ?_; walk_at "now"))
local macro_rules | `(tactic| walk_at "at") => `(tactic| first | exact at0 | exact at1 | exact at2 | exact at3 | exact at4 | exact at5 | exact at6 | exact at7 | exact at8)
local macro_rules | `(tactic| walk_at "v") => `(tactic| refine ⟨_, rfl, ?_⟩)
local macro_rules | `(tactic| walk_at "ix") => `(tactic| refine ⟨_, _, _, _, rfl, rfl, SqT.of (by walk_at "now"), (by walk_at "at"), ?_⟩)
local macro_rules | `(tactic| walk_at "ixl") => `(tactic| refine ⟨_, _, _, _, rfl, rfl, SqL.of (by walk_at "now"), (by walk_at "at"), ?_⟩)
local macro_rules | `(tactic| walk_at "str") => `(tactic| refine ⟨_, _, rfl, rfl, (by walk_at "len"), ?_⟩)
local macro_rules | `(tactic| walk_at "int") => `(tactic| refine ⟨_, _, rfl, rfl, ?_⟩)
local macro_rules | `(tactic| walk_at "eq") => `(tactic| refine ⟨rfl, _, rfl, ?_⟩)
local macro_rules | `(tactic| walk_at "app") => `(tactic| refine ⟨_, _, _, rfl, rfl, (by walk_at "now"), (by walk_at "lt"), ?_⟩)
local macro_rules | `(tactic| walk_at "ext") => `(tactic| refine ⟨_, _, _, _, rfl, rfl, (by walk_at "now"), (by walk_at "now"), (by walk_at "le"), ?_⟩)
local macro_rules | `(tactic| walk_at "cat") => `(tactic| refine ⟨_, _, _, _, rfl, rfl, (by walk_at "now"), (by walk_at "now"), (by walk_at "le"), ?_⟩)
local macro_rules | `(tactic| walk_at "num") => `(tactic| refine ⟨(by assumption : Nu _), ?_⟩)
local macro_rules | `(tactic| walk_at "ty") => `(tactic| refine ⟨Or.inl ⟨rfl, _, SqL.of (by walk_at "now")⟩, ?_⟩)
local macro_rules | `(tactic| walk_at "un2") => `(tactic| refine ⟨_, _, rfl, SqT.of (by walk_at "now"), rfl, _, _, rfl, _, _, rfl, rfl, ?_⟩)
local macro_rules | `(tactic| walk_at "un3") => `(tactic| refine ⟨_, _, rfl, SqT.of (by walk_at "now"), rfl, _, _, rfl, _, _, rfl, _, _, rfl, rfl, ?_⟩)
local macro_rules | `(tactic| walk_at "un4") => `(tactic| refine ⟨_, _, rfl, SqT.of (by walk_at "now"), rfl, _, _, rfl, _, _, rfl, _, _, rfl, _, _, rfl, rfl, ?_⟩)
local macro_rules | `(tactic| walk_at "un6") => `(tactic| refine ⟨_, _, rfl, SqT.of (by walk_at "now"), rfl, _, _, rfl, _, _, rfl, _, _, rfl, _, _, rfl, _, _, rfl, _, _, rfl, rfl, ?_⟩)
local macro_rules | `(tactic| walk_at "un9") => `(tactic| refine ⟨_, _, rfl, SqT.of (by walk_at "now"), rfl, _, _, rfl, _, _, rfl, _, _, rfl, _, _, rfl, _, _, rfl, _, _, rfl, _, _, rfl, _, _, rfl, _, _, rfl, rfl, ?_⟩)
local macro_rules | `(tactic| walk_at "go") => `(tactic| repeat (first | walk_at "v" | walk_at "eq" | walk_at "ix" | walk_at "str" | walk_at "ty" | walk_at "num"))

theorem wB_mono : ∀ {x : Blk} {n m : Nat}, wB n x → n ≤ m → wB m x
  | .nil, _, _, _, _ => trivial
  | .app t r, n, m, h, hm => ⟨h.1, wB_mono h.2 hm⟩
  | .ifs t a b r, n, m, h, hm => by
    obtain ⟨h1, ⟨k, e, h2, h3⟩, h4⟩ := h
    exact ⟨h1, ⟨m - 1, by omega, wB_mono h2 (by omega), wB_mono h3 (by omega)⟩, wB_mono h4 hm⟩
def spProgram : Sp := fun vs H Q _ => ∃ st c, vs = [.ref st] ∧ Gs st c H ∧ ∀ v H' p, wPrg p → Kp [st, c] H H' → Gs st c H' → At (Nw H H') v (ePrg p) → Q v H'
theorem out4 {st c nl lf : Addr} {H0 Hx H' : Hp} (g : Gs st c H0) (n1 : Hx nl = none) (n2 : Hx lf = none) (s : Same Hx H') : Same (Nw H0 Hx) (Out [st, c, nl, lf] H') := fun b o hb => by
  obtain ⟨b1, b2⟩ := nw_some hb
  have h1 := g.nin b1
  rw [out_of]
  · exact s _ _ b2
  · simp only [List.mem_cons, List.not_mem_nil, or_false, not_or] at h1 ⊢
    exact ⟨h1.1, h1.2, (fun e => by rw [e, n1] at b2; cases b2), (fun e => by rw [e, n2] at b2; cases b2)⟩
theorem kp42 {st c nl lf : Addr} {Hx H' H2 : Hp} (n1 : Hx nl = none) (n2 : Hx lf = none) (s : Same Hx H') (k : Kp [st, c, nl, lf] H' H2) : Kp [st, c] Hx H2 := fun b o hb he => by
  refine k b o ?_ (s _ _ he)
  simp only [List.mem_cons, List.not_mem_nil, or_false, not_or] at hb ⊢
  exact ⟨hb.1, hb.2, (fun e => by rw [e, n1] at he; cases he), (fun e => by rw [e, n2] at he; cases he)⟩
section
variable {P : Program} {w : World} {K : PySem.W.Frag} {mg : Str → Option Value} {base : Heap} {k : Nat}
abbrev s__law_program : Stmt := top 75
abbrev n__law_program : List Str := ["_law_state_here", "_law_headers_here", "_law_meta", "_law_refs_here", "_law_actions_here", "_law_tables", "_law_nested", "_law_control_here", "_law_emits", "_law_states_here", "_law_j", "_law_k", "_law_table_here", "_law_header"]
theorem sc__law_program : FnScope n__law_program ["_law_state_here"] (defScope s__law_program) := ⟨rfl, rfl, rfl, by decide +kernel, rfl, by decide +kernel, by decide +kernel⟩
/- slots: 0 _law_state_here(c), 1 _law_headers_here, 2 _law_meta, 3 _law_refs_here(c), 4 _law_actions_here(c), 5 _law_tables, 6 _law_nested, 7 _law_control_here, 8 _law_emits, 9 _law_states_here, 10 _law_j, 11 _law_k, 12 _law_table_here, 13 _law_header -/
theorem ok__law_program (B : Bt mg) (h : Has K mg "_law_program" s__law_program ["_law_state_here"]) (c1 : Ok P w K mg base k "_law_draw" ["_law_state_here", "_law_many"] spDraw) (c2 : Ok P w K mg base k "_law_pick" ["_law_state_here", "_law_row"] spPick)
    (c3 : Ok P w K mg base k "_law_name" ["_law_state_here", "_law_k"] spName) (c4 : Ok P w K mg base k "_law_headers" ["_law_state_here"] spHeaders) (c5 : Ok P w K mg base k "_law_refs" ["_law_headers_here", "_law_meta"] spRefs) (c6 : Ok P w K mg base k "_law_actions" ["_law_state_here", "_law_headers_here", "_law_refs_here"] spActions)
    (c7 : Ok P w K mg base k "_law_table" ["_law_state_here", "_law_k", "_law_actions_here", "_law_refs_here"] spTable) (c8 : Ok P w K mg base k "_law_control" ["_law_state_here", "_law_headers_here", "_law_refs_here", "_law_names", "_law_nested", "_law_left"] (spCtl 7)) (c9 : Ok P w K mg base k "_law_states" ["_law_state_here", "_law_headers_here"] spStates) :
    Ok P w K mg base (k + 1) "_law_program" ["_law_state_here"] spProgram := by
  obtain ⟨_, _, G__law_draw, m__law_draw, k__law_draw, b__law_draw⟩ := c1.ex
  obtain ⟨_, _, G__law_pick, m__law_pick, k__law_pick, b__law_pick⟩ := c2.ex
  obtain ⟨_, _, G__law_name, m__law_name, k__law_name, b__law_name⟩ := c3.ex
  obtain ⟨_, _, G__law_headers, m__law_headers, k__law_headers, b__law_headers⟩ := c4.ex
  obtain ⟨_, _, G__law_refs, m__law_refs, k__law_refs, b__law_refs⟩ := c5.ex
  obtain ⟨_, _, G__law_actions, m__law_actions, k__law_actions, b__law_actions⟩ := c6.ex
  obtain ⟨_, _, G__law_table, m__law_table, k__law_table, b__law_table⟩ := c7.ex
  obtain ⟨_, _, G__law_control, m__law_control, k__law_control, b__law_control⟩ := c8.ex
  obtain ⟨_, _, G__law_states, m__law_states, k__law_states, b__law_states⟩ := c9.ex
  refine h.ok sc__law_program (fun vs H Q E h => ?_) (fun f0 cdv A outer s H vs Q E hr h => ?_)
  · obtain ⟨_, _, rfl, _⟩ := h; rfl
  obtain ⟨st, c, rfl, g, q⟩ := h
  refine ⟨_, (pss_cons (ps_set (i := 1) sc__law_program.nd rfl (Or.inl rfl) (pe_call G__law_headers hr (by rfl) m__law_headers k__law_headers b__law_headers .nil pass0 (pa_cons (pv 0) pa_nil)))
    (pss_cons (ps_setLc (i := 2) (own := [("_law_j", 10)]) rfl sc__law_program.nd rfl rfl (sw_true rfl rfl rfl (by decide +kernel)) (pi_range1 (by rfl) B.range (pa_cons (pe_call G__law_draw hr (by rfl) m__law_draw k__law_draw b__law_draw .nil pass0 (pa_cons (pv 0) (pa_cons pe_int pa_nil))) pa_nil)) (blkOk_by (N := n__law_program) (sc := defScope s__law_program) (by decide +kernel)) (fun _ _ _ _ _ => (pg_name (i := 10) sc__law_program.nd rfl (Or.inl rfl) (Or.inr rfl))) (fun _ _ _ _ _ => pts_nil) (fun _ _ _ _ _ => (pe_tupS (pa_cons (pe_call G__law_name hr (by rfl) m__law_name k__law_name b__law_name .nil pass0 (pa_cons (pv 0) (pa_cons (pv 10) pa_nil))) (pa_cons (pe_op op_add pe_int (pe_call G__law_draw hr (by rfl) m__law_draw k__law_draw b__law_draw .nil pass0 (pa_cons (pv 0) (pa_cons pe_int pa_nil)))) pa_nil)))))
    (pss_cons (ps_set (i := 3) sc__law_program.nd rfl (Or.inr rfl) (pe_call G__law_refs hr (by rfl) m__law_refs k__law_refs b__law_refs .nil pass0 (pa_cons (pv 1) (pa_cons (pv 2) pa_nil))))
    (pss_cons (ps_set (i := 4) sc__law_program.nd rfl (Or.inr rfl) (pe_call G__law_actions hr (by rfl) m__law_actions k__law_actions b__law_actions .nil pass0 (pa_cons (pv 0) (pa_cons (pv 1) (pa_cons (pv 3) pa_nil)))))
    (pss_cons (ps_setLc (i := 5) (own := [("_law_k", 11)]) rfl sc__law_program.nd rfl rfl (sw_true rfl rfl rfl (by decide +kernel)) (pi_range1 (by rfl) B.range (pa_cons (pe_op op_add pe_int (pe_call G__law_draw hr (by rfl) m__law_draw k__law_draw b__law_draw .nil pass0 (pa_cons (pv 0) (pa_cons (pe_call G__law_pick hr (by rfl) m__law_pick k__law_pick b__law_pick .nil pass0 (pa_cons (pv 0) (pa_cons (pe_lstS (pa_cons pe_int (pa_cons pe_int (pa_cons pe_int pa_nil)))) pa_nil))) pa_nil)))) pa_nil)) (blkOk_by (N := n__law_program) (sc := defScope s__law_program) (by decide +kernel)) (fun _ _ _ _ _ => (pg_name (i := 11) sc__law_program.nd rfl (Or.inl rfl) (Or.inr rfl))) (fun _ _ _ _ _ => pts_nil) (fun _ _ _ _ _ => (pe_call G__law_table hr (by rfl) m__law_table k__law_table b__law_table .nil pass0 (pa_cons (pv 0) (pa_cons (pv 11) (pa_cons (pv 4) (pa_cons (pv 3) pa_nil)))))))
    (pss_cons (ps_set (i := 6) sc__law_program.nd rfl (Or.inl rfl) (pe_call G__law_pick hr (by rfl) m__law_pick k__law_pick b__law_pick .nil pass0 (pa_cons (pv 0) (pa_cons (pe_lstS (pa_cons pe_int (pa_cons pe_int (pa_cons pe_int (pa_cons pe_int pa_nil))))) pa_nil))))
    (pss_cons (ps_set (i := 7) sc__law_program.nd rfl (Or.inl rfl) (pe_call G__law_control hr (by rfl) m__law_control k__law_control b__law_control .nil pass0 (pa_cons (pv 0) (pa_cons (pv 1) (pa_cons (pv 3) (pa_cons (pe_lc (own := [("_law_table_here", 12)]) rfl sc__law_program.nd (pi_list (pv 5)) (blkOk_by (N := n__law_program) (sc := defScope s__law_program) (by decide +kernel)) (fun _ _ _ _ _ => (pg_name (i := 12) sc__law_program.nd rfl (Or.inl rfl) (Or.inr rfl))) (fun _ _ _ _ _ => pts_nil) (fun _ _ _ _ _ => (pe_ix (ix_tupK (K := K) rfl) (pv 12) pe_int (fun _ _ => rfl)))) (pa_cons (pv 6) (pa_cons (pe_lstS (pa_cons pe_int pa_nil)) pa_nil))))))))
    (Evl.pss_cut (ps_if (pt_cmpR op_eq (pe_callB call_len_seq (by rfl) B.len PySem.boot_len (pa_cons (pv 7) pa_nil)) pe_int (nomark _)) (pss_one (ps_set (i := 7) sc__law_program.nd rfl (Or.inl rfl) (pe_lstS (pa_cons (pe_tupS (pa_cons pe_str (pa_cons (pe_ix ix_tup (pe_ix ix_list (pv 5) pe_int (fun _ _ => rfl)) pe_int (fun _ _ => rfl)) pa_nil))) pa_nil)))) pss_nil)
    (pss_cons (ps_setLc (i := 8) (own := [("_law_header", 13)]) rfl sc__law_program.nd rfl rfl (sw_true rfl rfl rfl (by decide +kernel)) (pi_list (pv 1)) (blkOk_by (N := n__law_program) (sc := defScope s__law_program) (by decide +kernel)) (fun _ _ _ _ _ => (pg_name (i := 13) sc__law_program.nd rfl (Or.inl rfl) (Or.inr rfl))) (fun _ _ _ _ _ => (pts_one (pt_cmpR op_gt (pe_call G__law_draw hr (by rfl) m__law_draw k__law_draw b__law_draw .nil pass0 (pa_cons (pv 0) (pa_cons pe_int pa_nil))) pe_int (nomark _)))) (fun _ _ _ _ _ => (pe_ix (ix_tupK (K := K) rfl) (pv 13) pe_int (fun _ _ => rfl))))
    (Evl.pss_cut (ps_if (pt_cmpR op_eq (pe_call G__law_draw hr (by rfl) m__law_draw k__law_draw b__law_draw .nil pass0 (pa_cons (pv 0) (pa_cons pe_int pa_nil))) pe_int (nomark _)) (pss_one (ps_set (i := 8) sc__law_program.nd rfl (Or.inl rfl) (pe_op op_catS (pe_slice sl_listS (pv 8) (po_some pe_int) po_none) (pe_slice sl_listS (pv 8) po_none (po_some pe_int))))) pss_nil)
    (pss_cons (ps_set (i := 9) sc__law_program.nd rfl (Or.inl rfl) (pe_call G__law_states hr (by rfl) m__law_states k__law_states b__law_states .nil pass0 (pa_cons (pv 0) (pa_cons (pv 1) pa_nil))))
    (pss_one (ps_ret (pe_tupS (pa_cons pe_str (pa_cons (pe_call G__law_name hr (by rfl) m__law_name k__law_name b__law_name .nil pass0 (pa_cons (pv 0) (pa_cons pe_int pa_nil))) (pa_cons (pv 1) (pa_cons (pv 2) (pa_cons (pv 9) (pa_cons (pv 4) (pa_cons (pv 5) (pa_cons (pv 7) (pa_cons (pv 8) pa_nil))))))))))))))))))))))), ?_⟩
  -- headers
  refine ⟨_, rfl, st, c, rfl, g, fun hv H1 hs k1 g1 h1 o1 f1 w1 => ?_⟩
  have whs : wGHs hs := ⟨o1, f1, w1⟩
  have mm := g.mm
  -- meta
  refine ⟨_, rfl, st, c, 3, rfl, g1, by decide, by decide, fun nm H2 nm0 nm1 k2 g2 => ⟨_, rfl, by omega, by omega, fun D hD => lc_range (fun i H' => ∃ ps : List Par, ps.length = i ∧ (∀ p ∈ ps, wGP p) ∧ GB [st, c] D H2 H' (ps.map ePar) ∧ Gs st c H') ⟨[], rfl, by simp, GB.start g2.mm hD (Same.new hD) upd_same, g2.same (Same.new hD)⟩ (fun i H3 hi ⟨ps, e3, w3, b3, g3⟩ => ?_) (fun H3 ⟨me, e3, w3, b3, g3⟩ => ?_)⟩⟩
  · refine ⟨rfl, _, rfl, _, rfl, st, c, _, rfl, g3, by omega, by omega, fun nm H4 hnm k4 g4 => ?_⟩
    refine ⟨_, rfl, st, c, 32, rfl, g4, by decide, by decide, fun wd H5 wd0 wd1 k5 g5 => ⟨_, _, rfl, rfl, by walk_at "le", fun t H6 ht s6 e6 => ?_⟩⟩
    have k35 := k4.trans k5
    obtain ⟨us, eu, hlt, go⟩ := b3.ap (d := ePar (nm, 1 + wd)) (k35.trans (Kp.same s6)) ((g5.dm k35).trans (Same.dm s6)) (at_tup (g5.dm k35) ht e6 (.cons (.str _) (.cons (.int _) .nil))) (by simp; omega)
    refine ⟨us, eu, hlt, ps ++ [(nm, 1 + wd)], by simp [e3], fun p hp => ?_, ?_, (g5.same s6).ap b3.nM (Kp.wr (by simp))⟩
    · rcases List.mem_append.mp hp with hp | hp
      · exact w3 p hp
      · rw [List.mem_singleton.mp hp]; exact ⟨hnm, by show 1 ≤ 1 + wd; omega, by show 1 + wd ≤ 32; omega⟩
    · rw [List.map_append]
      exact go _ (Kp.wr (by simp)) upd_same
  have k02 := k1.trans k2
  have k03 := k02.trans b3.kp
  have h1' := h1.mono (nw1 (k2.trans b3.kp) mm)
  have hme := b3.at.mono (nw0 (g2.dm k02))
  have lme : me.length ≤ 16 := by omega
  -- refs
  refine ⟨_, rfl, _, rfl, hv, _, hs, me, rfl, (h1'.mono nw_le), (hme.mono nw_le), by omega, fun h hh => Nat.le_trans (w1 h hh).2.1 (by decide), lme, fun R H4 s4 hR => ?_⟩
  have k04 := k03.trans (Kp.same s4)
  have g4 := g3.same s4
  have hR' := hR.mono (nw0 (g3.dm k03))
  have wrs : ∀ r ∈ rfAll hs me, wRef r := by
    intro r hr
    unfold rfAll at hr
    rcases List.mem_append.mp hr with hr | hr
    · rcases List.mem_cons.mp hr with rfl | hr
      · exact rfPort_ok
      · obtain ⟨l, hl, hr⟩ := List.mem_flatten.mp hr
        obtain ⟨h, hh, rfl⟩ := List.mem_map.mp hl
        obtain ⟨p, hp, rfl⟩ := List.mem_map.mp hr
        have := (w1 h hh).2.2 p hp
        exact ⟨⟨.inr (.inr (w1 h hh).1), this.1⟩, this.2⟩
    · obtain ⟨p, hp, rfl⟩ := List.mem_map.mp hr
      have := w3 p hp
      exact ⟨⟨.inl rfl, this.1⟩, this.2⟩
  have lrs : (rfAll hs me).length ≤ 1000 := by
    have := rf_len (hs := hs) fun h hh => Nat.le_trans (w1 h hh).2.1 (by decide)
    unfold rfAll
    rw [List.length_append, List.length_cons, List.length_map]
    omega
  have nrs : rfAll hs me ≠ [] := by simp [rfAll]
  generalize rfAll hs me = rs at hR hR' wrs lrs nrs
  have h4h := h1'.mono (nws s4)
  have h4m := hme.mono (nws s4)
  -- actions
  refine ⟨_, rfl, _, rfl, _, rfl, st, c, hv, hs, R, rs, rfl, g4, ⟨h4h.mono (nw_out mm), whs⟩, ⟨hR'.mono (nw_out mm), nrs, lrs, wrs⟩, fun av H5 as k5 g5 h5 o5 f5 w5 => ?_⟩
  have k05 := k04.trans k5
  have h5a := h5.mono (nw0 (g4.dm k04))
  -- tables
  refine ⟨_, rfl, _, rfl, by walk_at "le", fun p H6 hp s6 e6 => ⟨st, c, p, _, rfl, g5.same s6, e6, g5.nin hp, by simp, by simp, fun i x H7 hx k7 g7 => ?_⟩⟩
  obtain ⟨mx, rfl, m3, m8⟩ := pick_int (ns := [3, 3, 8]) (lo := 3) (hi := 8) (by decide) hx
  refine ⟨st, c, mx, rfl, g7, by omega, by omega, fun nt H8 nt0 nt1 k8 g8 => ⟨_, _, rfl, rfl, _, rfl, by omega, by omega, fun D2 hD2 => ?_⟩⟩
  have k58 := ((Kp.same s6).trans k7).trans k8
  have k08 := k05.trans k58
  have k48 := k5.trans k58
  have hA8 : ActA st c H8 av as := ⟨(h5a.mono (nw1 k58 mm)).mono (nw_out mm), o5, f5, w5⟩
  have hR8 : RfA st c H8 R rs := ⟨(hR'.mono (nw1 k48 mm)).mono (nw_out mm), nrs, lrs, wrs⟩
  refine lc_range (fun i H' => ∃ ts : List Tab, ts.length = i ∧ (∀ t ∈ ts, wTab t) ∧ GB [st, c] D2 H8 H' (ts.map eTab) ∧ Gs st c H') ⟨[], rfl, by simp, GB.start g8.mm hD2 (Same.new hD2) upd_same, g8.same (Same.new hD2)⟩ (fun i H9 hi ⟨ts, e9, w9, b9, g9⟩ => ?_) (fun H9 ⟨ts, e9, w9, b9, g9⟩ => ?_)
  · refine ⟨rfl, _, rfl, _, rfl, _, rfl, _, rfl, st, c, _, av, as, R, rs, rfl, by omega, by omega, g9, hA8.kp b9.kp, hR8.kp b9.kp, fun v10 H10 t10 w10 k10 g10 h10 => ?_⟩
    obtain ⟨us, eu, hlt, go⟩ := b9.ap (d := eTab t10) k10 (g10.dm k10) h10 (by simp; omega)
    refine ⟨us, eu, hlt, ts ++ [t10], by simp [e9], fun t ht => ?_, ?_, g10.ap b9.nM (Kp.wr (by simp))⟩
    · rcases List.mem_append.mp ht with ht | ht
      · exact w9 t ht
      · rw [List.mem_singleton.mp ht]; exact w10
    · rw [List.map_append]
      exact go _ (Kp.wr (by simp)) upd_same
  have k09 := k08.trans b9.kp
  have k59 := k58.trans b9.kp
  have k49 := k5.trans k59
  have htb := b9.at.mono (nw0 (g8.dm k08))
  obtain ⟨dd, tx, ed, hdd, htx⟩ := htb.lst_inv
  cases ed
  have htl : tx.length = ts.length := by rw [htx.len, List.length_map]
  have ltb : 1 ≤ ts.length ∧ ts.length ≤ 8 := by omega
  -- how deep
  refine ⟨_, rfl, by walk_at "le", fun p H10 hp s10 e10 => ⟨st, c, p, _, rfl, g9.same s10, e10, g9.nin hp, by simp, by simp, fun i x H11 hx k11 g11 => ?_⟩⟩
  obtain ⟨nd, rfl, nd1, nd6⟩ := pick_int (ns := [1, 2, 2, 6]) (lo := 1) (hi := 6) (by decide) hx
  have k911 := (Kp.same s10).trans k11
  have k011 := k09.trans k911
  have k411 := k49.trans k911
  obtain ⟨d, rfl⟩ := Int.eq_ofNat_of_zero_le (by omega : 0 ≤ nd)
  have hd6 : d ≤ 6 := by omega
  have htx11 := htx.mono (nw1 k911 mm)
  have hdd11 := nw1 k911 mm _ _ hdd
  -- control
  refine ⟨_, rfl, _, rfl, _, rfl, _, rfl, D2, rfl, ⟨_, SqL.of (nw_some hdd11).2⟩, fun D3 hD3 => lc_map ts eTab (fun t => V.str t.name) hD3 (nw_some hdd11).2 (htx11.mono nw_le) (by omega) (fun t x H12 C C' ht hat s12 cc => ?_) fun H12 s12 e12 => ?_⟩
  · obtain ⟨ta, x1, x2, x3, x4, x5, x6, rfl, hta, i1, i2, _⟩ := At.t6 hat
    obtain rfl := i2.str_inv
    exact ⟨rfl, _, rfl, _, _, _, _, rfl, rfl, SqT.of hta, at1, cc _ (Same.refl _)⟩
  refine ⟨_, rfl, by walk_at "le", fun lf H13 hlf s13 e13 => ?_⟩
  have s1113 := s12.trans s13
  have nlf : H11 lf = none := Same.dm s12 lf hlf
  have hne : D3 ≠ lf := fun e => by rw [e] at e12; rw [e12] at hlf; cases hlf
  have g13 := g11.same s1113
  have cs13 : Cs st c D3 lf H13 (ts.map (·.name)) 12 := ⟨g13, by rw [s13 _ _ e12, List.map_map]; rfl, e13, g11.nin hD3, g11.nin nlf, hne, by decide, by decide, by rw [List.length_map]; omega, fun n hn => by
    obtain ⟨t, ht, rfl⟩ := List.mem_map.mp hn
    exact (w9 t ht).1⟩
  have hH11 := h4h.mono (nw1 k411 mm)
  have hR11 := hR'.mono (nw1 k411 mm)
  refine ⟨st, c, D3, lf, hv, hs, R, rs, _, 12, d, rfl, hd6, cs13, ⟨hH11.mono (out4 g hD3 nlf s1113), whs, hR11.mono (out4 g hD3 nlf s1113), nrs, lrs, wrs⟩, fun cv H14 cx nm14 lf14 w14 k14 cs14 c14 h14 => ?_⟩
  have k1114 := kp42 hD3 nlf s1113 k14
  have g14 := cs14.gs
  have k014 := k011.trans k1114
  have k914 := k911.trans k1114
  have k414 := k49.trans k914
  have l14 := cs14.l0
  have hcv := h14.mono (nw0 ((g11.dm k011).trans (Same.dm s1113)))
  clear h14 cs14 k14 hR11 hH11 cs13 g13 hne e13 hlf s13 e12 s12 hdd11 htx11 hx e10 hp s10 hR8 hA8 e6 s6 k7 k8 g7
  refine ⟨fun σ' H15 => ∃ (cv : V) (cx : Blk), σ' = [some (.ref st), some hv, some (.ref D), some R, some av, some (.ref D2), some (.int (d : Int)), some cv, none, none, none, none, none, none] ∧ Kp [st, c] H14 H15 ∧ Gs st c H15 ∧ At (Nw H H15) cv (.list (eB cx)) ∧ wB 7 cx ∧ cx.count ≤ 16, ?_, ?_⟩
  · obtain ⟨ca, cxs, rfl, hca, hcx⟩ := hcv.lst_inv
    refine ⟨_, rfl, ca, cxs, rfl, .inl (SqL.of (nw_some hca).2), rfl, _, rfl, ?_⟩
    by_cases h0 : V.int (cxs.length : Int) = V.int 0
    · have htb14 := nw1 k914 mm _ _ hdd
      have htx14 := htx.mono (nw1 k914 mm)
      obtain ⟨t0, ts', ets⟩ : ∃ t0 ts', ts = t0 :: ts' := by
        cases ts with
        | nil => simp at ltb
        | cons a b => exact ⟨a, b, rfl⟩
      have ht0 : tx[0]? = some tx[0] := List.getElem?_eq_getElem (by omega)
      obtain ⟨t1, ht1, hat⟩ := htx14.getM ht0
      rw [ets] at ht1
      simp at ht1
      subst ht1
      obtain ⟨ta, x1, x2, x3, x4, x5, x6, et, hta, i1, i2, _⟩ := At.t6 hat
      obtain rfl := i2.str_inv
      refine ifE h0 ⟨_, rfl, _, _, _, _, rfl, rfl, SqL.of (nw_some htb14).2, atI_nat (j := 0) (by rw [ht0, et]), _, _, _, _, rfl, rfl, SqT.of (nw_some hta).2, at1, by walk_at "le", fun t15 H15 ht15 s15 e15 => ⟨by walk_at "le", fun p16 H16 hp16 s16 e16 => ?_⟩⟩
      have d014 := g14.dm k014
      refine ⟨.ref p16, .app t0.name .nil, rfl, (Kp.same s15).trans (Kp.same s16), (g14.same s15).same s16, .lst (nw_of (d014 p16 (Same.dm s15 p16 hp16)) e16) (.cons (.tup (nw_of (d014 t15 ht15) (s16 _ _ e15)) (.cons (.str _) (.cons (.str _) .nil))) .nil), ⟨(w9 t0 (by rw [ets]; simp)).1, trivial⟩, by simp [Blk.count]⟩
    · exact ifN h0 ⟨_, cx, rfl, Kp.refl, g14, .lst hca hcx, wB_mono w14 (by omega), by omega⟩
  rintro σ' H15 ⟨cv, cx, rfl, k15, g15, hcv, wcx, ccx⟩
  have k015 := k014.trans k15
  have k915 := k914.trans k15
  have k415 := k49.trans k915
  have hH15 := h4h.mono (nw1 k415 mm)
  obtain ⟨ha, hx, rfl, hha, hhx⟩ := hH15.lst_inv
  have hha' := (nw_some hha).2
  have hhan : ha ∉ [st, c] := fun z => mm _ z (nw_some hha).1
  have hhl : hx.length = hs.length := by rw [hhx.len, List.length_map]
  -- emits
  refine ⟨_, rfl, ha, rfl, ⟨_, SqL.of hha'⟩, fun D4 hD4 => lc_list (xs := hx) (fun i H' => ∃ es : List Str, es.length ≤ i ∧ (∀ e ∈ es, Nm e) ∧ GB [st, c] D4 H15 H' (es.map .str) ∧ Gs st c H') ⟨[], by simp, by simp, GB.start g15.mm hD4 (Same.new hD4) upd_same, g15.same (Same.new hD4)⟩ (fun i H' _ ⟨_, _, _, b, _⟩ => SqL.of (b.kp _ _ hhan hha')) (fun i x H16 hi ⟨es, e16, w16, b16, g16⟩ => ?_) (fun H16 ⟨es, e16, w16, b16, g16⟩ => ?_)⟩
  · have hil := (List.getElem?_eq_some_iff.mp hi).1
    refine ⟨rfl, _, rfl, st, c, 6, rfl, g16, by decide, by decide, fun n17 H17 n170 n171 k17 g17 => ⟨_, _, rfl, rfl, _, rfl, ?_⟩⟩
    have b17 := b16.go k17 (g17.dm k17)
    by_cases h0 : 0 < n17
    · rw [decide_eq_true h0]
      obtain ⟨h, hh, hat⟩ := (hhx.mono (nw1 (b16.kp.trans k17) mm)).getM hi
      obtain ⟨ta, x1, x2, x3, rfl, hta, i1, i2, i3⟩ := At.t3 hat
      obtain rfl := i2.str_inv
      obtain ⟨us, eu, hlt, go⟩ := b17.ap (d := .str h.1) Kp.refl Dm.refl (.str h.1) (by simp; omega)
      refine iteT ⟨_, rfl, _, _, _, _, rfl, rfl, SqT.of (nw_some hta).2, at1, us, eu, hlt, es ++ [h.1], by simp; omega, fun e he => ?_, ?_, g17.ap b17.nM (Kp.wr (by simp))⟩
      · rcases List.mem_append.mp he with he | he
        · exact w16 e he
        · rw [List.mem_singleton.mp he]; exact (w1 h (List.mem_of_getElem? hh)).1
      · rw [List.map_append]
        exact go _ (Kp.wr (by simp)) upd_same
    · rw [decide_eq_false h0]
      exact iteF ⟨es, by omega, w16, b17, g17⟩
  have k016 := k015.trans b16.kp
  have les : es.length ≤ 6 := by omega
  refine ⟨fun σ' H17 => ∃ (ev : V) (es : List Str), σ' = [some (.ref st), some (.ref ha), some (.ref D), some R, some av, some (.ref D2), some (.int (d : Int)), some cv, some ev, none, none, none, none, none] ∧ Kp [st, c] H15 H17 ∧ Gs st c H17 ∧ At (Nw H H17) ev (.list (es.map .str)) ∧ Few Nm es, ?_, ?_⟩
  · refine ⟨_, rfl, st, c, 4, rfl, g16, by decide, by decide, fun n17 H17 n170 n171 k17 g17 => ⟨rfl, _, rfl, ?_⟩⟩
    have b17 := b16.go k17 (g17.dm k17)
    by_cases h0 : V.int n17 = V.int 0
    · obtain ⟨dd, xs, ed, hd, hxs⟩ := b17.at.lst_inv
      cases ed
      have hd' := (nw_some hd).2
      have hxl := hxs.len
      rw [List.length_map] at hxl
      refine ifE h0 ⟨_, rfl, _, rfl, _, _, rfl, hd', fun p12 H18 hp18 s18 e18 => ⟨_, rfl, _, rfl, _, _, rfl, s18 _ _ hd', fun p13 H19 hp19 s19 e19 => ⟨_, _, _, _, rfl, rfl, s19 _ _ e18, e19, sz (by have := cutV_length xs (some 1) none; have := cutV_length xs none (some 1); omega), fun T H20 hT s20 e20 => ?_⟩⟩⟩
      have e1 : cutV xs (some 1) none = xs.drop 1 := cutV_from xs 1
      have e2 : cutV xs none (some 1) = xs.take 1 := cutV_to xs 1
      rw [e1, e2] at e20
      have s1720 := (s18.trans s19).trans s20
      have d017 := g17.dm (k016.trans k17)
      refine ⟨.ref T, es.drop 1 ++ es.take 1, rfl, b17.kp.trans (Kp.same s1720), g17.same s1720, .lst (nw_of (d017 T (Same.dm (s18.trans s19) T hT)) e20) ?_, ?_, fun x hx => ?_⟩
      · rw [List.map_append, List.map_drop, List.map_take]
        exact (((hxs.drop 1).append (hxs.take 1)).mono (nws s1720)).mono (nw0 (g15.dm k015))
      · rw [List.length_append, List.length_drop, List.length_take]; omega
      · rcases List.mem_append.mp hx with hx | hx
        · exact w16 x (List.mem_of_mem_drop hx)
        · exact w16 x (List.mem_of_mem_take hx)
    · exact ifN h0 ⟨.ref D4, es, rfl, b17.kp, g17, b17.at.mono (nw0 (g15.dm k015)), by omega, w16⟩
  rintro σ' H17 ⟨ev, es, rfl, k17, g17, hev, wes⟩
  have k1517 := k17
  have k017 := k015.trans k17
  -- states
  refine ⟨_, rfl, _, rfl, st, c, _, hs, rfl, g17, ((At.lst hha hhx).mono (nw1 k17 mm)).mono (nw_out mm), whs, fun sv H18 ss k18 g18 h18 b18 w18 => ?_⟩
  have k018 := k017.trans k18
  have hss := h18.mono (nw0 (g17.dm k017))
  refine ⟨_, rfl, st, c, 9, rfl, g18, by decide, by decide, fun nm H19 hnm k19 g19 => ⟨_, rfl, _, rfl, _, rfl, _, rfl, _, rfl, _, rfl, _, rfl, by walk_at "le", fun T H20 hT s20 e20 => ?_⟩⟩
  have k1719 := k18.trans k19
  have k019 := k018.trans k19
  have k1519 := k17.trans k1719
  have k419 := k415.trans k1519
  have fin : ∀ {Hi v d}, At (Nw H Hi) v d → Kp [st, c] Hi H19 → At (Nw H H20) v d := fun h k => (h.mono (nw1 k mm)).mono (nws s20)
  refine q _ _ ⟨nm, hs, me, ss, as, ts, cx, es⟩ ⟨hnm, ⟨by show hs.length ≤ 16; omega, fun h hh => ⟨(w1 h hh).1, Nat.le_trans (w1 h hh).2.1 (by decide), fun p hp => ((w1 h hh).2.2 p hp).par⟩⟩, ⟨lme, fun p hp => (w3 p hp).par⟩, ⟨b18, w18⟩, ⟨by show as.length ≤ 16; omega, fun a ha => ⟨(w5 a ha).nm, ⟨(w5 a ha).few, fun p hp => ((w5 a ha).ps p hp).par⟩, (w5 a ha).ops⟩⟩, ⟨by show ts.length ≤ 16; omega, w9⟩, wcx, ccx, wes⟩ (k019.trans (Kp.same s20)) (g19.same s20)
    (at_tup (g19.dm k019) hT e20 (.cons (.str _) (.cons (.str _) (.cons (fin (At.lst hha hhx) k1519) (.cons (fin h4m k419) (.cons (fin hss k19) (.cons (fin h5a (k59.trans (k915.trans k1519))) (.cons (fin (.lst hdd htx) (k915.trans k1519)) (.cons (fin hcv k1519) (.cons (fin hev k1719) .nil))))))))))
end
end WP
namespace WP
open PySem PySem.Spec PyProof.Rows L2 TL
local macro_rules | `(tactic| walk_at "len") => `(tactic| (show _ ≤ sizeLine; rw [sizeLine_eq]; (try simp only [al, lit_len]); (try simp) <;> omega))
local macro_rules | `(tactic| walk_at "lt") => `(tactic| (show _ < sizeLine; rw [sizeLine_eq]; (try simp only [List.length_map, List.length_append, List.length_cons, List.length_nil, List.length_take]); omega))
local macro_rules | `(tactic| walk_at "le") => `(tactic| (show _ ≤ sizeLine; rw [sizeLine_eq]; (try simp only [List.length_map, List.length_append, List.length_cons, List.length_nil, List.length_take]); omega))
local macro_rules | `(tactic| walk_at "now") => `(tactic| first | assumption | (refine (by assumption : Same _ _) _ _ ?_; walk_at "now"))
local macro_rules | `(tactic| walk_at "at") => `(tactic| first | exact at0 | exact at1 | exact at2 | exact at3 | exact at4 | exact at5 | exact at6 | exact at7 | exact at8)
local macro_rules | `(tactic| walk_at "v") => `(tactic| refine ⟨_, rfl, ?_⟩)
local macro_rules | `(tactic| walk_at "ix") => `(tactic| refine ⟨_, _, _, _, rfl, rfl, SqT.of (by walk_at "now"), (by walk_at "at"), ?_⟩)
local macro_rules | `(tactic| walk_at "ixl") => `(tactic| refine ⟨_, _, _, _, rfl, rfl, SqL.of (by walk_at "now"), (by walk_at "at"), ?_⟩)
local macro_rules | `(tactic| walk_at "str") => `(tactic| refine ⟨_, _, rfl, rfl, (by walk_at "len"), ?_⟩)
local macro_rules | `(tactic| walk_at "int") => `(tactic| refine ⟨_, _, rfl, rfl, ?_⟩)
local macro_rules | `(tactic| walk_at "eq") => `(tactic| refine ⟨rfl, _, rfl, ?_⟩)
local macro_rules | `(tactic| walk_at "app") => `(tactic| refine ⟨_, _, _, rfl, rfl, (by walk_at "now"), (by walk_at "lt"), ?_⟩)
local macro_rules | `(tactic| walk_at "ext") => `(tactic| refine ⟨_, _, _, _, rfl, rfl, (by walk_at "now"), (by walk_at "now"), (by walk_at "le"), ?_⟩)
local macro_rules | `(tactic| walk_at "cat") => `(tactic| refine ⟨_, _, _, _, rfl, rfl, (by walk_at "now"), (by walk_at "now"), (by walk_at "le"), ?_⟩)
local macro_rules | `(tactic| walk_at "num") => `(tactic| refine ⟨(by assumption : Nu _), ?_⟩)
local macro_rules | `(tactic| walk_at "ty") => `(tactic| refine ⟨Or.inl ⟨rfl, _, SqL.of (by walk_at "now")⟩, ?_⟩)
local macro_rules | `(tactic| walk_at "un2") => `(tactic| refine ⟨_, _, rfl, SqT.of (by walk_at "now"), rfl, _, _, rfl, _, _, rfl, rfl, ?_⟩)
local macro_rules | `(tactic| walk_at "un3") => `(tactic| refine ⟨_, _, rfl, SqT.of (by walk_at "now"), rfl, _, _, rfl, _, _, rfl, _, _, rfl, rfl, ?_⟩)
local macro_rules | `(tactic| walk_at "un4") => `(tactic| refine ⟨_, _, rfl, SqT.of (by walk_at "now"), rfl, _, _, rfl, _, _, rfl, _, _, rfl, _, _, rfl, rfl, ?_⟩)
local macro_rules | `(tactic| walk_at "un6") => `(tactic| refine ⟨_, _, rfl, SqT.of (by walk_at "now"), rfl, _, _, rfl, _, _, rfl, _, _, rfl, _, _, rfl, _, _, rfl, _, _, rfl, rfl, ?_⟩)
local macro_rules | `(tactic| walk_at "un9") => `(tactic| refine ⟨_, _, rfl, SqT.of (by walk_at "now"), rfl, _, _, rfl, _, _, rfl, _, _, rfl, _, _, rfl, _, _, rfl, _, _, rfl, _, _, rfl, _, _, rfl, _, _, rfl, rfl, ?_⟩)
local macro_rules | `(tactic| walk_at "go") => `(tactic| repeat (first | walk_at "v" | walk_at "eq" | walk_at "ix" | walk_at "str" | walk_at "ty" | walk_at "num"))

/-! ### the law's comparison -/
def dty : PyData → String
  | .none => "NoneType"
  | .bool _ => "bool"
  | .int _ => "int"
  | .str _ => "str"
  | .list _ => "list"
  | .tuple _ => "tuple"
  | .dict _ => "dict"
theorem At.tyx {K : PySem.W.Frag} {H : Hp} {x : V} {d : PyData} (h : At H x d) : TyX K H x (.type (dty d)) := by
  cases h with
  | non => exact .base .non
  | int i => exact .base (.int i)
  | str s => exact .base (.str s)
  | lst e _ => exact .base (.lst e)
  | tup e _ => exact .base (.tup e)
theorem isi {K : PySem.W.Frag} {H : Hp} {x : V} {d : PyData} {n : String} {b : Bool} {Q : VK} (h : At H x d) (e : kitB (dty d) n = some b) (q : Q (.bl b) H) : rIsi K [x, .ty n] H Q :=
  ⟨x, .ty n, _, _, b, rfl, .ty n, h.tyx, kit_ty e, q⟩
/-- data of at most n layers -/
inductive Dpt : Nat → PyData → Prop
  | non {n : Nat} : Dpt n .none
  | int {n : Nat} (i : Int) : Dpt n (.int i)
  | str {n : Nat} (s : Str) : Dpt n (.str s)
  | lst {n : Nat} {ds : List PyData} : ds.length ≤ 1000 → (∀ d ∈ ds, Dpt n d) → Dpt (n + 1) (.list ds)
  | tup {n : Nat} {ds : List PyData} : ds.length ≤ 1000 → (∀ d ∈ ds, Dpt n d) → Dpt (n + 1) (.tuple ds)
def spSame : Nat → Sp
  | 0 => fun _ _ _ _ => False
  | n + 1 => fun vs H Q _ => ∃ a d D, vs = [a, d] ∧ At H a D ∧ At H d D ∧ Dpt n D ∧ ∀ H', Same H H' → Q (.bl true) H'
theorem all_true : ∀ n : Nat, (List.replicate n true).all id = true
  | 0 => rfl
  | n + 1 => by simp
section
variable {P : Program} {w : World} {K : PySem.W.Frag} {mg : Str → Option Value} {base : Heap} {k : Nat}
abbrev s__law_same : Stmt := top 85
abbrev n__law_same : List Str := ["_law_actual", "_law_due", "_law_k"]
theorem sc__law_same : FnScope n__law_same ["_law_actual", "_law_due"] (defScope s__law_same) := ⟨rfl, rfl, rfl, by decide +kernel, rfl, by decide +kernel, by decide +kernel⟩
/- slots: 0 _law_actual(c), 1 _law_due(c), 2 _law_k -/
theorem ok__law_same (B : Bt mg) (h : Has K mg "_law_same" s__law_same ["_law_actual", "_law_due"]) (n : Nat) (c1 : Ok P w K mg base k "_law_same" ["_law_actual", "_law_due"] (spSame n)) : Ok P w K mg base (k + 1) "_law_same" ["_law_actual", "_law_due"] (spSame (n + 1)) := by
  obtain ⟨_, _, G__law_same, m__law_same, k__law_same, b__law_same⟩ := c1.ex
  refine h.ok sc__law_same (fun vs H Q E h => ?_) (fun f0 cdv A outer s H vs Q E hr h => ?_)
  · obtain ⟨_, _, _, rfl, _⟩ := h; rfl
  obtain ⟨a, d, D, rfl, ha, hd, hD, q⟩ := h
  refine ⟨_, (pss_cons (ps_if (PW.pt (pw_or (pt_val (pe_callB call_isi (by rfl) B.isinstance (by decide +kernel) (pa_cons (pv 1) (pa_cons (pe_bltn (v := .ty "tuple") (by rfl) B.tuple (by decide +kernel) rfl) pa_nil)))) (pw_or1 (pt_val (pe_callB call_isi (by rfl) B.isinstance (by decide +kernel) (pa_cons (pv 1) (pa_cons (pe_bltn (v := .ty "list") (by rfl) B.list (by decide +kernel) rfl) pa_nil))))))) (pss_cons (ps_if (PW.pt (pw_or (pt_cmpR op_ne (pe_callB call_isi (by rfl) B.isinstance (by decide +kernel) (pa_cons (pv 0) (pa_cons (pe_bltn (v := .ty "tuple") (by rfl) B.tuple (by decide +kernel) rfl) pa_nil))) (pe_callB call_isi (by rfl) B.isinstance (by decide +kernel) (pa_cons (pv 1) (pa_cons (pe_bltn (v := .ty "tuple") (by rfl) B.tuple (by decide +kernel) rfl) pa_nil))) (nomark _)) (pw_or1 (pt_cmpR op_ne (pe_callB call_isi (by rfl) B.isinstance (by decide +kernel) (pa_cons (pv 0) (pa_cons (pe_bltn (v := .ty "list") (by rfl) B.list (by decide +kernel) rfl) pa_nil))) (pe_callB call_isi (by rfl) B.isinstance (by decide +kernel) (pa_cons (pv 1) (pa_cons (pe_bltn (v := .ty "list") (by rfl) B.list (by decide +kernel) rfl) pa_nil))) (nomark _))))) (pss_one (ps_ret pe_bl)) pss_nil)
    (pss_cons (ps_if (pt_cmpR op_ne (pe_callB call_len_seq (by rfl) B.len PySem.boot_len (pa_cons (pv 0) pa_nil)) (pe_callB call_len_seq (by rfl) B.len PySem.boot_len (pa_cons (pv 1) pa_nil)) (nomark _)) (pss_one (ps_ret pe_bl)) pss_nil)
    (pss_one (ps_ret (pe_callB (cr_all rfl) (by rfl) B.all (by decide +kernel) (pa_cons (pe_lc (own := [("_law_k", 2)]) rfl sc__law_same.nd (pi_range1 (by rfl) B.range (pa_cons (pe_callB call_len_seq (by rfl) B.len PySem.boot_len (pa_cons (pv 1) pa_nil)) pa_nil)) (blkOk_by (N := n__law_same) (sc := defScope s__law_same) (by decide +kernel)) (fun _ _ _ _ _ => (pg_name (i := 2) sc__law_same.nd rfl (Or.inl rfl) (Or.inr rfl))) (fun _ _ _ _ _ => pts_nil) (fun _ _ _ _ _ => (pe_call G__law_same hr (by rfl) m__law_same k__law_same b__law_same .nil pass0 (pa_cons (pe_ix (ix_seqK (K := K) rfl) (pv 0) (pv 2) (fun _ _ => rfl)) (pa_cons (pe_ix (ix_seqK (K := K) rfl) (pv 1) (pv 2) (fun _ _ => rfl)) pa_nil))))) pa_nil)))))) pss_nil)
    (pss_cons (ps_if (pt_cmpR op_isN (pv 1) pe_non (nomark _)) (pss_one (ps_ret (pe_cmpR op_isN (pv 0) pe_non (nomark _)))) pss_nil)
    (pss_cons (ps_if (PW.pt (pw_or (pt_val (pe_callB call_isi (by rfl) B.isinstance (by decide +kernel) (pa_cons (pv 0) (pa_cons (pe_bltn (v := .ty "bool") (by rfl) B.bool (by decide +kernel) rfl) pa_nil)))) (pw_or1 (pt_cmpR op_ne (pe_callB call_isi (by rfl) B.isinstance (by decide +kernel) (pa_cons (pv 0) (pa_cons (pe_bltn (v := .ty "str") (by rfl) B.str (by decide +kernel) rfl) pa_nil))) (pe_callB call_isi (by rfl) B.isinstance (by decide +kernel) (pa_cons (pv 1) (pa_cons (pe_bltn (v := .ty "str") (by rfl) B.str (by decide +kernel) rfl) pa_nil))) (nomark _))))) (pss_one (ps_ret pe_bl)) pss_nil)
    (pss_one (ps_ret (pe_and (pe_cmpR op_eq (pe_callB call_isi (by rfl) B.isinstance (by decide +kernel) (pa_cons (pv 0) (pa_cons (pe_bltn (v := .ty "int") (by rfl) B.int (by decide +kernel) rfl) pa_nil))) (pe_callB call_isi (by rfl) B.isinstance (by decide +kernel) (pa_cons (pv 1) (pa_cons (pe_bltn (v := .ty "int") (by rfl) B.int (by decide +kernel) rfl) pa_nil))) (nomark _)) (pe_one (pe_cmpR op_eq (pv 0) (pv 1) (nomark _))))))))), ?_⟩
  cases hD with
  | non =>
    obtain rfl := ha.non_inv
    obtain rfl := hd.non_inv
    refine ⟨_, rfl, _, _, _, _, false, rfl, .ty _, hd.tyx, kit_ty (by dsimp only [dty]; decide +kernel), _, rfl, ?_⟩
    refine iteF ⟨_, rfl, _, _, _, _, false, rfl, .ty _, hd.tyx, kit_ty (by dsimp only [dty]; decide +kernel), _, rfl, ?_⟩
    refine iteF ?_
    refine ⟨_, rfl, rfl, _, rfl, ?_⟩
    refine iteT ⟨_, rfl, rfl, ?_⟩
    exact q _ (Same.refl _)
  | int i =>
    obtain rfl := ha.int_inv
    obtain rfl := hd.int_inv
    refine ⟨_, rfl, _, _, _, _, false, rfl, .ty _, hd.tyx, kit_ty (by dsimp only [dty]; decide +kernel), _, rfl, ?_⟩
    refine iteF ⟨_, rfl, _, _, _, _, false, rfl, .ty _, hd.tyx, kit_ty (by dsimp only [dty]; decide +kernel), _, rfl, ?_⟩
    refine iteF ?_
    refine ⟨_, rfl, rfl, _, rfl, ?_⟩
    refine ifN (by intro e; cases e) ?_
    refine ⟨_, rfl, _, _, _, _, false, rfl, .ty _, ha.tyx, kit_ty (by dsimp only [dty]; decide +kernel), _, rfl, ?_⟩
    refine iteF ⟨_, rfl, _, _, _, _, false, rfl, .ty _, ha.tyx, kit_ty (by dsimp only [dty]; decide +kernel), _, rfl, _, _, _, _, false, rfl, .ty _, hd.tyx, kit_ty (by dsimp only [dty]; decide +kernel), rfl, _, rfl, ?_⟩
    refine iteNE rfl ?_
    refine ⟨_, rfl, _, _, _, _, true, rfl, .ty _, ha.tyx, kit_ty (by dsimp only [dty]; decide +kernel), _, rfl, _, _, _, _, true, rfl, .ty _, hd.tyx, kit_ty (by dsimp only [dty]; decide +kernel), rfl, _, rfl, ?_⟩
    refine ifE rfl ⟨_, rfl, _, rfl, rfl, ?_⟩
    rw [decide_eq_true rfl]
    exact q _ (Same.refl _)
  | str x =>
    obtain rfl := ha.str_inv
    obtain rfl := hd.str_inv
    refine ⟨_, rfl, _, _, _, _, false, rfl, .ty _, hd.tyx, kit_ty (by dsimp only [dty]; decide +kernel), _, rfl, ?_⟩
    refine iteF ⟨_, rfl, _, _, _, _, false, rfl, .ty _, hd.tyx, kit_ty (by dsimp only [dty]; decide +kernel), _, rfl, ?_⟩
    refine iteF ?_
    refine ⟨_, rfl, rfl, _, rfl, ?_⟩
    refine ifN (by intro e; cases e) ?_
    refine ⟨_, rfl, _, _, _, _, false, rfl, .ty _, ha.tyx, kit_ty (by dsimp only [dty]; decide +kernel), _, rfl, ?_⟩
    refine iteF ⟨_, rfl, _, _, _, _, true, rfl, .ty _, ha.tyx, kit_ty (by dsimp only [dty]; decide +kernel), _, rfl, _, _, _, _, true, rfl, .ty _, hd.tyx, kit_ty (by dsimp only [dty]; decide +kernel), rfl, _, rfl, ?_⟩
    refine iteNE rfl ?_
    refine ⟨_, rfl, _, _, _, _, false, rfl, .ty _, ha.tyx, kit_ty (by dsimp only [dty]; decide +kernel), _, rfl, _, _, _, _, false, rfl, .ty _, hd.tyx, kit_ty (by dsimp only [dty]; decide +kernel), rfl, _, rfl, ?_⟩
    refine ifE rfl ⟨_, rfl, _, rfl, rfl, ?_⟩
    rw [decide_eq_true rfl]
    exact q _ (Same.refl _)
  | lst hl hds =>
    obtain ⟨aa, xa, rfl, haa, hxa⟩ := ha.lst_inv
    obtain ⟨dd, xd, rfl, hdd, hxd⟩ := hd.lst_inv
    have la := hxa.len
    have ld := hxd.len
    refine ⟨_, rfl, _, _, _, _, false, rfl, .ty _, hd.tyx, kit_ty (by dsimp only [dty]; decide +kernel), _, rfl, ?_⟩
    refine iteF ⟨_, rfl, _, _, _, _, true, rfl, .ty _, hd.tyx, kit_ty (by dsimp only [dty]; decide +kernel), _, rfl, ?_⟩
    refine iteT ?_
    refine ⟨_, rfl, _, _, _, _, false, rfl, .ty _, ha.tyx, kit_ty (by dsimp only [dty]; decide +kernel), _, rfl, _, _, _, _, false, rfl, .ty _, hd.tyx, kit_ty (by dsimp only [dty]; decide +kernel), rfl, _, rfl, ?_⟩
    refine iteNE rfl ⟨_, rfl, _, _, _, _, true, rfl, .ty _, ha.tyx, kit_ty (by dsimp only [dty]; decide +kernel), _, rfl, _, _, _, _, true, rfl, .ty _, hd.tyx, kit_ty (by dsimp only [dty]; decide +kernel), rfl, _, rfl, ?_⟩
    refine iteNE rfl ?_
    refine ⟨_, rfl, aa, xa, rfl, .inl (SqL.of haa), _, rfl, dd, xd, rfl, .inl (SqL.of hdd), rfl, _, rfl, ?_⟩
    refine iteNE (by rw [la, ld]) ?_
    refine ⟨_, rfl, dd, xd, rfl, .inl (SqL.of hdd), _, rfl, by omega, by omega, fun D hD => lc_range (fun i H' => Same H H' ∧ H' D = some (.lst ((List.replicate i true).map V.bl))) ⟨Same.new hD, upd_same⟩ (fun i H1 hi ⟨s1, e1⟩ => ?_) (fun H1 ⟨s1, e1⟩ => ?_)⟩
    · have hia : i < xa.length := by omega
      have hid : i < xd.length := by omega
      obtain ⟨w1, hw1, at1'⟩ := hxa.get (List.getElem?_eq_getElem hia)
      obtain ⟨w2, hw2, at2'⟩ := hxd.get (List.getElem?_eq_getElem hid)
      rw [hw1] at hw2
      cases hw2
      have e0 : (0 : Int) + (i : Int) = ((i : Nat) : Int) := by omega
      refine ⟨rfl, _, rfl, _, rfl, .inl ⟨_, _, _, _, rfl, rfl, SqL.of (s1 _ _ haa), by rw [e0]; exact atI_nat (List.getElem?_eq_getElem hia), _, rfl, _, rfl, .inl ⟨_, _, _, _, rfl, rfl, SqL.of (s1 _ _ hdd), by rw [e0]; exact atI_nat (List.getElem?_eq_getElem hid), _, _, w1, rfl, at1'.mono s1, at2'.mono s1, hds w1 (List.mem_of_getElem? hw1), fun H2 s2 => ⟨_, s2 _ _ e1, szl (by simp; omega), sapp (s1.trans s2) hD (Kp.wr (by simp)), ?_⟩⟩⟩⟩
      rw [upd_same, List.replicate_succ', List.map_append]
      rfl
    · refine ⟨D, _, rfl, SqL.of e1, ?_⟩
      rw [all_true]
      exact q _ s1
  | tup hl hds =>
    obtain ⟨aa, xa, rfl, haa, hxa⟩ := ha.tup_inv
    obtain ⟨dd, xd, rfl, hdd, hxd⟩ := hd.tup_inv
    have la := hxa.len
    have ld := hxd.len
    refine ⟨_, rfl, _, _, _, _, true, rfl, .ty _, hd.tyx, kit_ty (by dsimp only [dty]; decide +kernel), _, rfl, ?_⟩
    refine iteT ?_
    refine ⟨_, rfl, _, _, _, _, true, rfl, .ty _, ha.tyx, kit_ty (by dsimp only [dty]; decide +kernel), _, rfl, _, _, _, _, true, rfl, .ty _, hd.tyx, kit_ty (by dsimp only [dty]; decide +kernel), rfl, _, rfl, ?_⟩
    refine iteNE rfl ⟨_, rfl, _, _, _, _, false, rfl, .ty _, ha.tyx, kit_ty (by dsimp only [dty]; decide +kernel), _, rfl, _, _, _, _, false, rfl, .ty _, hd.tyx, kit_ty (by dsimp only [dty]; decide +kernel), rfl, _, rfl, ?_⟩
    refine iteNE rfl ?_
    refine ⟨_, rfl, aa, xa, rfl, .inr (SqT.of haa), _, rfl, dd, xd, rfl, .inr (SqT.of hdd), rfl, _, rfl, ?_⟩
    refine iteNE (by rw [la, ld]) ?_
    refine ⟨_, rfl, dd, xd, rfl, .inr (SqT.of hdd), _, rfl, by omega, by omega, fun D hD => lc_range (fun i H' => Same H H' ∧ H' D = some (.lst ((List.replicate i true).map V.bl))) ⟨Same.new hD, upd_same⟩ (fun i H1 hi ⟨s1, e1⟩ => ?_) (fun H1 ⟨s1, e1⟩ => ?_)⟩
    · have hia : i < xa.length := by omega
      have hid : i < xd.length := by omega
      obtain ⟨w1, hw1, at1'⟩ := hxa.get (List.getElem?_eq_getElem hia)
      obtain ⟨w2, hw2, at2'⟩ := hxd.get (List.getElem?_eq_getElem hid)
      rw [hw1] at hw2
      cases hw2
      have e0 : (0 : Int) + (i : Int) = ((i : Nat) : Int) := by omega
      refine ⟨rfl, _, rfl, _, rfl, .inr (.inl ⟨_, _, _, _, rfl, rfl, SqT.of (s1 _ _ haa), by rw [e0]; exact atI_nat (List.getElem?_eq_getElem hia), _, rfl, _, rfl, .inr (.inl ⟨_, _, _, _, rfl, rfl, SqT.of (s1 _ _ hdd), by rw [e0]; exact atI_nat (List.getElem?_eq_getElem hid), _, _, w1, rfl, at1'.mono s1, at2'.mono s1, hds w1 (List.mem_of_getElem? hw1), fun H2 s2 => ⟨_, s2 _ _ e1, szl (by simp; omega), sapp (s1.trans s2) hD (Kp.wr (by simp)), ?_⟩⟩)⟩)⟩
      rw [upd_same, List.replicate_succ', List.map_append]
      rfl
    · refine ⟨D, _, rfl, SqL.of e1, ?_⟩
      rw [all_true]
      exact q _ s1
theorem ok__law_same_all (B : Bt mg) (h : Has K mg "_law_same" s__law_same ["_law_actual", "_law_due"]) : ∀ n : Nat, Ok P w K mg base n "_law_same" ["_law_actual", "_law_due"] (spSame n)
  | 0 => h.none fun _ _ _ _ => id
  | n + 1 => ok__law_same B h n (ok__law_same_all B h n)
end
end WP
namespace WP
open PySem PySem.Spec PyProof.Rows L2 TL
/-! ### data and their texts: of at most n layers, at most m signs -/
structure Sz (n m : Nat) (d : PyData) : Prop where
  dp : Dpt n d
  sh : d.showable = true
  hd : d.hasDict = false
  de : d.depth ≤ n
  ln : d.shown.length ≤ m
structure SzL (n m : Nat) (ds : List PyData) : Prop where
  dp : ∀ d ∈ ds, Dpt n d
  sh : PyData.showableAll ds = true
  hd : PyData.hasDictAll ds = false
  de : PyData.depthAll ds ≤ n
  ln : piled (PyData.shownAll ds) ≤ m
theorem Dpt.mono : ∀ {n m : Nat} {d : PyData}, Dpt n d → n ≤ m → Dpt m d
  | _, _, _, .non, _ => .non
  | _, _, _, .int i, _ => .int i
  | _, _, _, .str s, _ => .str s
  | n + 1, m, _, .lst h k, hm => by
    obtain ⟨m', rfl⟩ : ∃ m', m = m' + 1 := ⟨m - 1, by omega⟩
    exact .lst h fun d hd => (k d hd).mono (by omega)
  | n + 1, m, _, .tup h k, hm => by
    obtain ⟨m', rfl⟩ : ∃ m', m = m' + 1 := ⟨m - 1, by omega⟩
    exact .tup h fun d hd => (k d hd).mono (by omega)
theorem Sz.mono {n n' m m' : Nat} {d : PyData} (h : Sz n m d) (a : n ≤ n') (b : m ≤ m') : Sz n' m' d := ⟨h.dp.mono a, h.sh, h.hd, Nat.le_trans h.de a, Nat.le_trans h.ln b⟩
theorem SzL.mono {n n' m m' : Nat} {d : List PyData} (h : SzL n m d) (a : n ≤ n') (b : m ≤ m') : SzL n' m' d := ⟨fun x hx => (h.dp x hx).mono a, h.sh, h.hd, Nat.le_trans h.de a, Nat.le_trans h.ln b⟩
theorem textFrom_le : ∀ (ts : List Str) (k : Nat) (acc : Str), (textFrom k acc ts).length ≤ acc.length + piled ts
  | [], k, acc => by show acc.length ≤ _; omega
  | t :: ts, k, acc => by
    have h := textFrom_le ts (k + 1) (acc ++ (if k > 0 then ", " else "" : String) ++ t)
    have e : (((if k > 0 then ", " else "" : String) : Str)).length ≤ 2 := by split <;> decide
    show (textFrom (k + 1) _ ts).length ≤ _
    rw [al, al] at h
    rw [piled_cons]
    omega
theorem list_len (ts : List Str) : (listText ts).length ≤ piled ts + 3 := by
  have h := textFrom_le ts 0 "["
  unfold listText
  rw [al]
  have e1 : ((("[" : String) : Str)).length = 1 := by decide +kernel
  have e2 : ((("]" : String) : Str)).length = 1 := by decide +kernel
  omega
theorem tuple_len (ts : List Str) : (tupleText ts).length ≤ piled ts + 3 := by
  unfold tupleText
  rw [al, al]
  have e1 : ((("(" : String) : Str)).length = 1 := by decide +kernel
  have e3 : (((if ts.length == 1 then ",)" else ")" : String) : Str)).length ≤ 2 := by split <;> decide +kernel
  by_cases h : ts = []
  · subst h
    have : (Str.join ", " ([] : List Str)).length = 0 := by decide +kernel
    omega
  · have := join_length_add ts h
    omega
theorem Sz.non {n : Nat} : Sz n 4 .none := ⟨.non, by simp [PyData.showable], by simp [PyData.hasDict], by simp [PyData.depth], by simp only [PyData.shown]; decide +kernel⟩
theorem Sz.int {n : Nat} {i : Int} (h : Nu i) : Sz n 10 (.int i) := ⟨.int i, by simp [PyData.showable, sI_log h], by simp [PyData.hasDict], by simp [PyData.depth], by simp only [PyData.shown]; exact sI_len h⟩
theorem Sz.str {n : Nat} {s : Str} (h : ∀ c ∈ tl s, c < 128) (l : s.length ≤ 16) : Sz n 162 (.str s) := ⟨.str s, by simp [PyData.showable], by simp [PyData.hasDict], by simp [PyData.depth], by
  simp only [PyData.shown]
  have := StrLaws.reprText_len s fun c hc => Nat.lt_of_lt_of_le (h c hc) (by decide)
  omega⟩
theorem Sz.nm {n : Nat} {s : Str} (h : Nm s) : Sz n 162 (.str s) := Sz.str (fun c hc => run_lt (h.run c hc)) h.len
theorem Sz.own {n : Nat} {s : Str} (h : Own s) : Sz n 162 (.str s) := by
  rcases h with rfl | rfl | h
  · exact Sz.str (by decide +kernel) (by decide +kernel)
  · exact Sz.str (by decide +kernel) (by decide +kernel)
  · exact Sz.nm h
theorem Sz.tgt {n : Nat} {s : Str} (h : Tgt s) : Sz n 162 (.str s) := by
  rcases h with rfl | rfl | h
  · exact Sz.str (by decide +kernel) (by decide +kernel)
  · exact Sz.str (by decide +kernel) (by decide +kernel)
  · exact Sz.nm h
/-- a written text -/
theorem Sz.lit {n : Nat} (s : String) (h : ∀ c ∈ tl (Str.ofString s), c < 128) (l : (Str.ofString s).length ≤ 16) : Sz n 162 (.str (Str.ofString s)) := Sz.str h l
theorem SzL.nil {n : Nat} : SzL n 0 [] := ⟨by simp, by simp [PyData.showableAll], by simp [PyData.hasDictAll], by simp [PyData.depthAll], by simp [PyData.shownAll, piled]⟩
theorem SzL.cons {n m k : Nat} {d : PyData} {ds : List PyData} (h : Sz n m d) (t : SzL n k ds) : SzL n (m + 2 + k) (d :: ds) :=
  ⟨fun x hx => by
    rcases List.mem_cons.mp hx with rfl | hx
    · exact h.dp
    · exact t.dp x hx, by simp [PyData.showableAll, h.sh, t.sh], by simp [PyData.hasDictAll, h.hd, t.hd], by simp only [PyData.depthAll]; have := h.de; have := t.de; omega, by
    simp only [PyData.shownAll]
    rw [piled_cons]
    have := h.ln; have := t.ln; omega⟩
theorem Sz.tup {n m : Nat} {ds : List PyData} (h : SzL n m ds) (l : ds.length ≤ 1000) : Sz (n + 1) (m + 3) (.tuple ds) :=
  ⟨.tup l h.dp, by simp [PyData.showable, h.sh], by simp [PyData.hasDict, h.hd], by simp only [PyData.depth]; have := h.de; omega, by simp only [PyData.shown]; exact Nat.le_trans (tuple_len _) (by have := h.ln; omega)⟩
theorem Sz.lst {n m : Nat} {ds : List PyData} (h : SzL n m ds) (l : ds.length ≤ 1000) : Sz (n + 1) (m + 3) (.list ds) :=
  ⟨.lst l h.dp, by simp [PyData.showable, h.sh], by simp [PyData.hasDict, h.hd], by simp only [PyData.depth]; have := h.de; omega, by simp only [PyData.shown]; exact Nat.le_trans (list_len _) (by have := h.ln; omega)⟩
theorem SzL.map {α : Type} {n m : Nat} {e : α → PyData} : ∀ {l : List α}, (∀ x ∈ l, Sz n m (e x)) → SzL n (l.length * (m + 2)) (l.map e)
  | [], _ => SzL.nil.mono (Nat.le_refl _) (Nat.zero_le _)
  | x :: l, h => by
    have := SzL.cons (h x (by simp)) (SzL.map (l := l) fun y hy => h y (List.mem_cons_of_mem _ hy))
    exact this.mono (Nat.le_refl _) (by simp only [List.length_cons, Nat.succ_mul]; omega)
theorem Sz.few {α : Type} {n m : Nat} {e : α → PyData} {w : α → Prop} {l : List α} (h : Few w l) (k : ∀ x, w x → Sz n m (e x)) : Sz (n + 1) (16 * (m + 2) + 3) (.list (l.map e)) :=
  (Sz.lst (SzL.map fun x hx => k x (h.2 x hx)) (by rw [List.length_map]; have := h.1; omega)).mono (Nat.le_refl _) (by have := Nat.mul_le_mul_right (m + 2) h.1; omega)
theorem sz_par {p : Par} (h : wPar p) : Sz 1 200 (ePar p) := (Sz.tup (n := 0) (.cons (.nm h.1) (.cons (.int h.2) .nil)) (by simp)).mono (by omega) (by omega)
theorem sz_fld {f : Fld} (h : wFld f) : Sz 1 400 (eFld f) := (Sz.tup (n := 0) (.cons (.own h.1) (.cons (.nm h.2) .nil)) (by simp)).mono (by omega) (by omega)
theorem sz_opd {o : Opd} (h : wOpd o) : Sz 1 600 (eOpd o) := by
  cases o with
  | num n => exact (Sz.tup (n := 0) (.cons (Sz.lit "num" (by decide +kernel) (by decide +kernel)) (.cons (.int h) .nil)) (by simp)).mono (by omega) (by omega)
  | par s => exact (Sz.tup (n := 0) (.cons (Sz.lit "param" (by decide +kernel) (by decide +kernel)) (.cons (.nm h) .nil)) (by simp)).mono (by omega) (by omega)
  | fld o s => exact (Sz.tup (n := 0) (.cons (Sz.lit "field" (by decide +kernel) (by decide +kernel)) (.cons (.own h.1) (.cons (.nm h.2) .nil))) (by simp)).mono (by omega) (by omega)
theorem sz_exp {e : Exp} (h : wExp e) : Sz 2 1400 (eExp e) := by
  cases e with
  | one a => exact (sz_opd h).mono (by omega) (by omega)
  | bin op a b => exact (Sz.tup (.cons (.str (s := op.s) (by cases op <;> decide +kernel) (by cases op <;> decide +kernel)) (.cons (sz_opd h.1) (.cons (sz_opd h.2) .nil))) (by simp)).mono (by omega) (by omega)
theorem sz_opn {o : Opn} (h : wOpn o) : Sz 3 2000 (eOpn o) := by
  cases o with
  | set f e => exact (Sz.tup (.cons (Sz.lit "set" (by decide +kernel) (by decide +kernel)) (.cons ((sz_fld h.1).mono (by omega) (Nat.le_refl _)) (.cons (sz_exp h.2) .nil))) (by simp)).mono (by omega) (by omega)
  | send e => exact (Sz.tup (.cons (Sz.lit "send" (by decide +kernel) (by decide +kernel)) (.cons (sz_exp h) .nil)) (by simp)).mono (by omega) (by omega)
  | drop => exact (Sz.tup (.cons (n := 0) (Sz.lit "drop" (by decide +kernel) (by decide +kernel)) .nil) (by simp)).mono (by omega) (by omega)
  | add s => exact (Sz.tup (n := 0) (.cons (Sz.lit "add" (by decide +kernel) (by decide +kernel)) (.cons (.nm h) .nil)) (by simp)).mono (by omega) (by omega)
  | rem s => exact (Sz.tup (n := 0) (.cons (Sz.lit "remove" (by decide +kernel) (by decide +kernel)) (.cons (.nm h) .nil)) (by simp)).mono (by omega) (by omega)
theorem sz_oi {n : Nat} {m : Option Int} (h : ∀ x, m = some x → Nu x) : Sz n 10 (eOI m) := by
  cases m with
  | none => exact Sz.non.mono (Nat.le_refl _) (by omega)
  | some x => exact Sz.int (h x rfl)
theorem sz_on {n : Nat} {m : Option Str} (h : ∀ x, m = some x → Nm x) : Sz n 162 (eON m) := by
  cases m with
  | none => exact Sz.non.mono (Nat.le_refl _) (by omega)
  | some x => exact Sz.nm (h x rfl)
theorem sz_row {r : Row} (h : wRow r) : Sz 1 300 (eRow r) := (Sz.tup (n := 0) (.cons (.int h.1) (.cons (sz_oi h.2.1) (.cons (.tgt h.2.2) .nil))) (by simp)).mono (by omega) (by omega)
theorem sz_nxt {x : Nxt} (h : wNxt x) : Sz 3 6000 (eNxt x) := by
  cases x with
  | go t => exact (Sz.tup (n := 0) (.cons (Sz.lit "go" (by decide +kernel) (by decide +kernel)) (.cons (.tgt h) .nil)) (by simp)).mono (by omega) (by omega)
  | sel f rows o => exact (Sz.tup (.cons (Sz.lit "select" (by decide +kernel) (by decide +kernel)) (.cons ((sz_fld h.1).mono (by omega) (Nat.le_refl _)) (.cons (Sz.few h.2.1 fun r => sz_row) (.cons (.tgt h.2.2) .nil)))) (by simp)).mono (by omega) (by omega)
theorem sz_sta {s : Sta} (h : wSta s) : Sz 4 7000 (eSta s) := (Sz.tup (.cons (Sz.lit "state" (by decide +kernel) (by decide +kernel)) (.cons (.nm h.1) (.cons (sz_on h.2.1) (.cons (sz_nxt h.2.2) .nil)))) (by simp)).mono (by omega) (by omega)
theorem sz_hdr {h : Hdr} (w : wHdr h) : Sz 3 4000 (eHdr h) := (Sz.tup (.cons (Sz.lit "header" (by decide +kernel) (by decide +kernel)) (.cons (.nm w.1) (.cons (Sz.few w.2 fun r => sz_par) .nil))) (by simp)).mono (by omega) (by omega)
theorem sz_act {a : Act} (w : wAct a) : Sz 5 37000 (eAct a) := (Sz.tup (.cons (Sz.lit "action" (by decide +kernel) (by decide +kernel)) (.cons (.nm w.1) (.cons ((Sz.few w.2.1 fun r => sz_par).mono (n' := 4) (by omega) (Nat.le_refl _)) (.cons (Sz.few w.2.2 fun r => sz_opn) .nil)))) (by simp)).mono (by omega) (by omega)
theorem sz_key {k : Fld × Kd} (w : wKey k) : Sz 2 600 (eKey k) := (Sz.tup (.cons (sz_fld w) (.cons (.str (s := k.2.s) (by cases k.2 <;> decide +kernel) (by cases k.2 <;> decide +kernel)) .nil)) (by simp)).mono (by omega) (by omega)
theorem sz_tab {t : Tab} (w : wTab t) : Sz 4 14000 (eTab t) := by
  obtain ⟨w1, w2, w3, w4, w5, w6⟩ := w
  exact (Sz.tup (n := 3) (.cons (Sz.lit "table" (by decide +kernel) (by decide +kernel)) (.cons (.nm w1) (.cons ((Sz.few w2 fun r => sz_key).mono (by omega) (Nat.le_refl _)) (.cons ((Sz.few (n := 0) w3 fun r => Sz.nm).mono (by omega) (Nat.le_refl _)) (.cons ((Sz.tup (.cons (.nm w4) (.cons (Sz.few (n := 0) w5 fun r => Sz.int) .nil)) (by simp)).mono (by omega) (Nat.le_refl _)) (.cons (.int w6) .nil)))))) (by simp)).mono (by omega) (by omega)
theorem sz_tst : ∀ {t : Tst} {n : Nat}, wTst n t → Sz (n + 2) (n * 170 + 600) (eTst t)
  | .nt t, n, h => by
    obtain ⟨k, rfl, h'⟩ : ∃ k, n = k + 1 ∧ wTst k t := by cases n <;> exact h
    have ih : Sz (k + 2) (k * 170 + 600) (eTst t) := sz_tst h'
    exact (Sz.tup (.cons (Sz.lit "not" (by decide +kernel) (by decide +kernel)) (.cons ih .nil)) (by simp)).mono (by omega) (by omega)
  | .valid s, n, h => (Sz.tup (n := 0) (.cons (Sz.lit "valid" (by decide +kernel) (by decide +kernel)) (.cons (.nm (by cases n <;> exact h)) .nil)) (by simp)).mono (by omega) (by omega)
  | .cmp sg f x, n, h => by
    have h : wFld f ∧ Nu x := by cases n <;> exact h
    exact (Sz.tup (n := 1) (.cons (.str (s := cmpS sg) (by cases sg <;> decide +kernel) (by cases sg <;> decide +kernel)) (.cons (sz_fld h.1) (.cons (.int h.2) .nil))) (by simp)).mono (by omega) (by omega)
theorem sz_blk : ∀ {x : Blk} {n : Nat}, wB n x → x.count ≤ 1000 → SzL (2 * n + 12) (x.count * 3000) (eB x)
  | .nil, _, _, _ => SzL.nil.mono (Nat.zero_le _) (Nat.zero_le _)
  | .app t r, n, h, hc => by
    simp only [Blk.count] at hc
    exact (SzL.cons ((Sz.tup (n := 0) (.cons (Sz.lit "apply" (by decide +kernel) (by decide +kernel)) (.cons (.nm h.1) .nil)) (by simp)).mono (by omega) (Nat.le_refl _)) (sz_blk h.2 (by omega))).mono (Nat.le_refl _) (by simp only [Blk.count]; omega)
  | .ifs t a b r, n, h, hc => by
    obtain ⟨h1, ⟨m, rfl, ha, hb⟩, hr⟩ := h
    simp only [Blk.count] at hc
    have la := eB_len a
    have lb := eB_len b
    have ta := (sz_tst h1).mono (n' := 2 * m + 13) (by omega) (Nat.le_refl _)
    have sa := Sz.lst (sz_blk ha (by omega)) (by omega)
    have sb := Sz.lst (sz_blk hb (by omega)) (by omega)
    have := SzL.cons (Sz.tup (.cons (Sz.lit "if" (by decide +kernel) (by decide +kernel)) (.cons ta (.cons sa (.cons sb .nil)))) (by simp)) ((sz_blk hr (by omega)).mono (n' := 2 * m + 14) (by omega) (Nat.le_refl _))
    exact this.mono (by omega) (by simp only [Blk.count]; omega)
theorem sz_prg {p : Prg} (w : wPrg p) : Sz 30 1200000 (ePrg p) := by
  have lc := eB_len p.ctl
  have hc := w.cnt
  have ctl := (Sz.lst (sz_blk w.ctl (by omega)) (by omega)).mono (n' := 29) (m' := 48100) (by omega) (by omega)
  exact (Sz.tup (n := 29) (.cons (Sz.lit "program" (by decide +kernel) (by decide +kernel)) (.cons (.nm w.name) (.cons ((Sz.few w.hdrs fun r => sz_hdr).mono (by omega) (Nat.le_refl _)) (.cons ((Sz.few w.meta' fun r => sz_par).mono (by omega) (Nat.le_refl _)) (.cons ((Sz.few w.stas fun r => sz_sta).mono (by omega) (Nat.le_refl _)) (.cons ((Sz.few w.acts fun r => sz_act).mono (by omega) (Nat.le_refl _)) (.cons ((Sz.few w.tabs fun r => sz_tab).mono (by omega) (Nat.le_refl _)) (.cons ctl (.cons ((Sz.few (n := 0) w.emits fun r => Sz.nm).mono (by omega) (Nat.le_refl _)) .nil))))))))) (by simp)).mono (by omega) (by omega)
end WP
namespace WP
open PySem PySem.Spec PyProof.Rows L2 TL
/-- repr of a list or a tuple of data: the caller must not be inside a repr -/
theorem call_repr {X : Cx} (hgd : X.A.guards = some [] ∧ X.A.units + 64 < cLine) : CallR X (.builtin "repr") (fun xs H Q => ∃ a n m D, xs = [.ref a] ∧ At H (.ref a) D ∧ Sz n m D ∧ n ≤ 60 ∧ m ≤ 16777216 ∧ Q (.str D.shown) H) := by
  obtain ⟨hgd, hu⟩ := hgd
  intro pins s σ H xs us Q I r h
  obtain ⟨a, n, m, D, rfl, hat, hz, hn, hm, q⟩ := h
  obtain ⟨u, rfl, rx⟩ := vals1 r
  cases rx
  obtain ⟨as, r1⟩ := Dp.reads I D (.ref a) (.ref a) hat.dp rfl
  have hde := hz.de
  have hln := hz.ln
  refine repr_of_reads' r1 hz.sh (PyData.noDict_hsm hz.hd) hgd (by omega) (fun b o e => e) (fun h' u tk hk => ?_) (sz (by omega))
  exact ⟨.str D.shown, H, I.kept hk, ⟨_, rfl⟩, q⟩
end WP
/-! the law's own def, whose promise is asked at the outermost place alone -/
namespace WP
open PySem PySem.Spec PyProof.Rows L2
section
variable {P : Program} {w : World} {K : PySem.W.Frag} {mg : Str → Option Value} {base : Heap}
/-- a def of the text runs as its body reads, at one place A -/
theorem runs_at {x qual : Str} {st : Stmt} {f : Addr} {fd : FuncData} {N ps : List Str} {k : Nat} {A : Around} {outer : List Env} {s : Shared} {H : Hp} {args : Args} {us : List Value} {vs : List V} {Q : VK} {E : XK}
    (F : Fun K x qual st f fd) (S : FnScope N ps (defScope st)) (hl : vs.length = ps.length) (hr : Room (k + 1) A) (e0 : Env0 P w K mg base A outer s H) (hb : BindsTo s fd args (ps.zip us)) (rv : Vals vs us)
    (body : ∀ cdv : Value, Room k (A.deeper (envOfC qual (defScope st) s.heap.objs.size f cdv)) → ∃ t, PSs (cxOf CX0 P w K mg base N qual (defScope st) f cdv A outer s H E).nox (defBody st) t ∧ t { nx := fun _ H' => Q .non H', rt := Q } (L2.start N vs) H) :
    codeAny (model P w) A (.call (.ref f) args) (CR CX0 outer P w H s Q E) s := by
  obtain ⟨oc, od, kV, doc, pm, an, cdv, ct, osl, rfl, lk, hcd⟩ := F.ex
  have inK : K.In s.heap := e0.mod.kin.keeps fun b o e => (e0.bs b o e).1
  have nolim : s.heap.NoLimit := e0.mod.nolimit.keeps fun b o e => (e0.bs b o e).1
  refine codeAny_call_function hr.depth (inK _ _ lk) rfl S.co S.gen rfl (PySem.W.codeRec_of inK hcd) (hb _ _ _ _ ?_)
  refine wpAny_newFunctionEnv_cells S.kind (fun y hy => ?_) fun env he s1 z => ?_
  · have hy1 : y.1 ∈ ps := (List.of_mem_zip (a := y.1) (b := y.2) hy).1
    exact (S.par y.1 hy1).imp id fun c => ⟨c, PySem.W.cellsFrom_some _ _ _ (.inl c)⟩
  subst he
  obtain ⟨t, ht, hq⟩ := body cdv (hr.deeper _)
  refine ⟨nolim.keeps z.toInCall.keep, codeAny_func (wpAny_mono (ht.nox.run [] s1 (L2.start N vs) H _ (inv_start S hr.hd e0 hl rv z) hq) (fun fl s' h => ?_) fun _ _ h => h)⟩
  cases fl with
  | ret u =>
    obtain ⟨v, _, H', J, ru, qv⟩ := h
    exact ⟨v, H', J.os, J.bare, J.base, J.hok, ru, qv⟩
  | next =>
    obtain ⟨_, H', J, qv⟩ := h
    exact ⟨V.non, H', J.os, J.bare, J.base, J.hok, rfl, qv⟩
  | brk =>
    obtain ⟨_, _, _, no⟩ := h
    exact False.elim no
  | cont =>
    obtain ⟨_, _, _, no⟩ := h
    exact False.elim no
end
end WP
namespace WP
open PySem PySem.Spec PyProof.Rows L2
/-- the script as the list it is -/
abbrev scriptObj (vs : List Value) : Obj := { cls := .type "list", data := .seq vs.toArray }
/-- what may be tracked at the start: the script, if it is no object of the module -/
def start0 (K : PySem.W.Frag) (a : Addr) (vs : List Value) (ns : List Int) : Hp := fun b => if b = a ∧ K.lookup a = none then some (.frz (scriptObj vs) (.lst (ns.map V.int))) else none
theorem start0_some {K : PySem.W.Frag} {a b : Addr} {vs : List Value} {ns : List Int} {u : HO} (h : start0 K a vs ns b = some u) : b = a ∧ K.lookup a = none ∧ u = .frz (scriptObj vs) (.lst (ns.map V.int)) := by
  unfold start0 at h
  split at h
  · rename_i c
    cases h
    exact ⟨c.1, c.2, rfl⟩
  · cases h
theorem law_at {P : Program} {w : World} {K : PySem.W.Frag} {mg mb : Str → Option Value} {k : Nat} {fa a : Addr} {fd : FuncData} {x x' qual : Str} {st : Stmt} {N : List Str} {s₁ : Shared} {vs : List Value} {ns : List Int}
    (KX : K.In s₁.heap) (hns : s₁.heap.Ns mainGlobals mg) (hb : s₁.heap.Ns builtinsNs mb) (hbb : ∀ x : Str, x ≠ "__name__" → mb x = bootBuiltins x) (hlim : s₁.heap.NoLimit) (hg : s₁.gens = #[])
    (ha : s₁.heap.get? a = some (scriptObj vs)) (hi : IntsAre vs ns) (hl : ns.length ≤ sizeLine) (hr : Room (k + 1) callerA)
    (F : Fun K x qual st fa fd) (S : FnScope N [x'] (defScope st)) (hbind : ∀ (s : Shared) (u : Value), BindsTo s fd ⟨[u], []⟩ [(x', u)])
    (body : ∀ (base : Heap) (H : Hp) (cdv : Value) (E : XK), K.In base → base.Ns mainGlobals mg → SqL K H a (ns.map V.int) → Room k (callerA.deeper (envOfC qual (defScope st) s₁.heap.objs.size fa cdv)) →
      ∃ t, PSs (cxOf CX0 P w K mg base N qual (defScope st) fa cdv callerA [] s₁ H E).nox (defBody st) t ∧ t { nx := fun _ _ => V.non = V.bl true, rt := fun v _ => v = .bl true } (L2.start N [.ref a]) H) :
    codeAny (model P w) callerA (.call (.ref fa) ⟨[.ref a], []⟩) (fun r s' => r = .ok (.ret (.bool true)) ∧ OldK s₁.heap s'.heap ∧ s'.os = s₁.os ∧ AllBare s'.gens) s₁ := by
  have rv := vals_ints hi
  have hlen := hi.length
  generalize hH : start0 K a vs ns = H
  have only : ∀ {b : Addr} {u : HO}, H b = some u → b = a ∧ K.lookup a = none ∧ u = .frz (scriptObj vs) (.lst (ns.map V.int)) := fun h => start0_some (by rw [hH]; exact h)
  have hok : HOk P w H s₁.heap := fun b u h => by
    obtain ⟨rfl, _, rfl⟩ := only h
    exact ⟨ha, by rw [List.length_map]; exact hl, vs, _, rv, ha⟩
  have hS : SqL K H a (ns.map V.int) := by
    cases hk : K.lookup a with
    | some o =>
      have e := KX a o hk
      rw [ha] at e
      cases e
      exact .inr ⟨_, vs.toArray, _, hk, rfl, rfl, rfl, by rw [List.size_toArray, hlen]; exact hl, by simpa using rv⟩
    | none => exact .inl (.inr ⟨scriptObj vs, by rw [← hH]; exact if_pos ⟨rfl, hk⟩⟩)
  have notA : ∀ {b : Addr} {o : Obj}, s₁.heap.get? b = some o → (∀ n, o.data ≠ .seq vs.toArray n) → H b = none := fun {b o} e hd => by
    cases q : H b with
    | none => rfl
    | some u =>
      obtain ⟨rfl, _, _⟩ := only q
      rw [ha] at e
      cases e
      exact absurd rfl (hd _)
  have nsH : ∀ {b : Addr} {m : Str → Option Value}, s₁.heap.Ns b m → (hidT s₁.heap H).Ns b m := fun {b m} ⟨o, es, ep, e, d, r⟩ => ⟨o, es, ep, hidT_get e (notA e fun n z => by rw [d] at z; cases z), d, r⟩
  have inH : K.In (hidT s₁.heap H) := fun b o e => hidT_get (KX b o e) (by
    cases q : H b with
    | none => rfl
    | some u =>
      obtain ⟨rfl, hk, _⟩ := only q
      rw [hk] at e; cases e)
  obtain ⟨mc, l1, l2⟩ := hlim
  have e0 : Env0 P w K mg (hidT s₁.heap H) callerA [] s₁ H := ⟨rfl, ⟨inH, nsH hns, ⟨mb, nsH hb, hbb⟩, mc, nsH l1, l2⟩, fun b o e => of_hidT e, Nat.le_of_eq (hidT_size _ _), trivial, fun b hb => absurd (show b ∈ ([] : List Addr) from hb) (by simp), hok, .of_eq hg⟩
  have run := runs_at (Q := fun v _ => v = .bl true) (E := fun _ _ _ => False) F S (vs := [.ref a]) rfl hr e0 (hbind s₁ (.ref a)) (.cons rfl .nil) fun cdv hr' => by
    obtain ⟨t, ht, hq⟩ := body (hidT s₁.heap H) H cdv (fun _ _ _ => False) inH (nsH hns) hS hr'
    exact ⟨t, ht, hq⟩
  refine codeAny_mono run fun r s' h => ?_
  cases r with
  | error e => exact False.elim h
  | ok fl =>
    cases fl with
    | next => exact False.elim h
    | brk => exact False.elim h
    | cont => exact False.elim h
    | ret u =>
      obtain ⟨v, H', os, bare, un, hok', ru, rfl⟩ := h
      cases (show u = Value.bool true from ru)
      refine ⟨rfl, OldK.of_keep fun b o e => ?_, os, bare⟩
      cases q : H b with
      | none => exact un.keep b o e q (fun z => absurd (show b ∈ ([] : List Addr) from z) (by simp)) (by simp)
      | some u =>
        obtain ⟨rfl, _, rfl⟩ := only q
        have z := un.frzs _ _ _ q
        obtain ⟨e2, _⟩ := hok' _ _ z
        rw [ha] at e
        cases e
        exact e2
end WP
namespace WP
open PySem
theorem runs_det {M : Model} {Γ : Ctx} {p : Pos} {t : Sem Fin} {fs : List Frame} {s s' : Shared} {e : End} (h : Runs M Γ p t fs s e s') : ∀ {e2 : End} {s2 : Shared}, Runs M Γ p t fs s e2 s2 → e = e2 ∧ s' = s2 := by
  induction h with
  | done => intro e2 s2 h2; cases h2; exact ⟨rfl, rfl⟩
  | raise => intro e2 s2 h2; cases h2; exact ⟨rfl, rfl⟩
  | again _ _ ih => intro e2 s2 h2; cases h2; exact ih ‹_›
  | rule _ ih => intro e2 s2 h2; cases h2; exact ih ‹_›
  | «at» _ ih => intro e2 s2 h2; cases h2; exact ih ‹_›
  | load ho _ ih => intro e2 s2 h2; cases h2; rename_i ho2 h2; rw [ho] at ho2; cases ho2; exact ih h2
  | update _ _ ih => intro e2 s2 h2; cases h2; exact ih ‹_›
  | loadIfAlive _ ih => intro e2 s2 h2; cases h2; exact ih ‹_›
  | point _ ih => intro e2 s2 h2; cases h2; exact ih ‹_›
  | alloc _ ih => intro e2 s2 h2; cases h2; exact ih ‹_›
  | fresh _ ih => intro e2 s2 h2; cases h2; exact ih ‹_›
  | ask _ ih => intro e2 s2 h2; cases h2; exact ih ‹_›
  | choose _ _ ih => intro e2 s2 h2; cases h2; exact ih ‹_›
  | os _ ih => intro e2 s2 h2; cases h2; exact ih ‹_›
  | handled _ ih => intro e2 s2 h2; cases h2; exact ih ‹_›
  | genState ho _ ih => intro e2 s2 h2; cases h2; rename_i ho2 h2; rw [ho] at ho2; cases ho2; exact ih h2
  | stack _ ih => intro e2 s2 h2; cases h2; exact ih ‹_›
  | thread _ ih => intro e2 s2 h2; cases h2; exact ih ‹_›
  | newGen _ ih => intro e2 s2 h2; cases h2; exact ih ‹_›
  | call _ _ ih1 ih2 =>
    intro e2 s2 h2
    cases h2 with
    | call a b =>
      obtain ⟨e1, rfl⟩ := ih1 a
      cases e1
      exact ih2 b
    | callSusp a => obtain ⟨e1, _⟩ := ih1 a; cases e1
  | callSusp _ ih1 =>
    intro e2 s2 h2
    cases h2 with
    | call a b => obtain ⟨e1, _⟩ := ih1 a; cases e1
    | callSusp a =>
      obtain ⟨e1, rfl⟩ := ih1 a
      cases e1
      exact ⟨rfl, rfl⟩
  | yield => intro e2 s2 h2; cases h2; exact ⟨rfl, rfl⟩
  | resumeFresh hg _ _ _ ih1 ih2 =>
    intro e2 s2 h2
    cases h2 with
    | resumeFresh hg2 a _ b =>
      rw [hg] at hg2; cases hg2
      obtain ⟨rfl, rfl⟩ := ih1 a
      exact ih2 b
    | resumeSuspended hg2 => rw [hg] at hg2; cases hg2
    | resumeJustStarted hg2 hv => exact absurd rfl hv
    | resumeRunning hg2 => rw [hg] at hg2; cases hg2
    | resumeFinished hg2 => rw [hg] at hg2; cases hg2
  | resumeSuspended hg _ _ _ ih1 ih2 =>
    intro e2 s2 h2
    cases h2 with
    | resumeFresh hg2 => rw [hg] at hg2; cases hg2
    | resumeSuspended hg2 a _ b =>
      rw [hg] at hg2; cases hg2
      obtain ⟨rfl, rfl⟩ := ih1 a
      exact ih2 b
    | resumeJustStarted hg2 => rw [hg] at hg2; cases hg2
    | resumeThrowFresh hg2 => rw [hg] at hg2; cases hg2
    | resumeRunning hg2 => rw [hg] at hg2; cases hg2
    | resumeFinished hg2 => rw [hg] at hg2; cases hg2
  | resumeJustStarted hg hv _ ih =>
    intro e2 s2 h2
    cases h2 with
    | resumeFresh hg2 => exact absurd rfl hv
    | resumeSuspended hg2 => rw [hg] at hg2; cases hg2
    | resumeJustStarted hg2 _ b => exact ih b
    | resumeRunning hg2 => rw [hg] at hg2; cases hg2
    | resumeFinished hg2 => rw [hg] at hg2; cases hg2
  | resumeThrowFresh hg _ ih =>
    intro e2 s2 h2
    cases h2 with
    | resumeSuspended hg2 => rw [hg] at hg2; cases hg2
    | resumeThrowFresh hg2 b => exact ih b
    | resumeRunning hg2 => rw [hg] at hg2; cases hg2
    | resumeFinished hg2 => rw [hg] at hg2; cases hg2
  | resumeRunning hg _ ih =>
    intro e2 s2 h2
    cases h2 with
    | resumeFresh hg2 => rw [hg] at hg2; cases hg2
    | resumeSuspended hg2 => rw [hg] at hg2; cases hg2
    | resumeJustStarted hg2 => rw [hg] at hg2; cases hg2
    | resumeThrowFresh hg2 => rw [hg] at hg2; cases hg2
    | resumeRunning hg2 b => exact ih b
    | resumeFinished hg2 => rw [hg] at hg2; cases hg2
  | resumeFinished hg _ ih =>
    intro e2 s2 h2
    cases h2 with
    | resumeFresh hg2 => rw [hg] at hg2; cases hg2
    | resumeSuspended hg2 => rw [hg] at hg2; cases hg2
    | resumeJustStarted hg2 => rw [hg] at hg2; cases hg2
    | resumeThrowFresh hg2 => rw [hg] at hg2; cases hg2
    | resumeRunning hg2 => rw [hg] at hg2; cases hg2
    | resumeFinished hg2 b => exact ih b
  | segRet _ _ ih1 ih2 =>
    intro e2 s2 h2
    cases h2 with
    | segRet a b => obtain ⟨e1, rfl⟩ := ih1 a; cases e1; exact ih2 b
    | segSuspOut _ a => obtain ⟨e1, _⟩ := ih1 a; cases e1
    | segSuspGen _ a => obtain ⟨e1, _⟩ := ih1 a; cases e1
  | segGen _ _ ih1 ih2 =>
    intro e2 s2 h2
    cases h2 with
    | segGen a b => obtain ⟨e1, rfl⟩ := ih1 a; cases e1; exact ih2 b
    | segSuspOut _ a => obtain ⟨e1, _⟩ := ih1 a; cases e1
    | segSuspGen _ a => obtain ⟨e1, _⟩ := ih1 a; cases e1
  | segSuspOut hs _ ih1 =>
    intro e2 s2 h2
    cases h2 with
    | segRet a b => obtain ⟨e1, _⟩ := ih1 a; cases e1
    | segGen a b => obtain ⟨e1, _⟩ := ih1 a; cases e1
    | segSuspOut _ a => obtain ⟨e1, rfl⟩ := ih1 a; cases e1; exact ⟨rfl, rfl⟩
    | segSuspGen hs2 => rw [hs] at hs2; cases hs2
  | segSuspGen hs _ _ _ ih1 ih2 =>
    intro e2 s2 h2
    cases h2 with
    | segRet a b => obtain ⟨e1, _⟩ := ih1 a; cases e1
    | segGen a b => obtain ⟨e1, _⟩ := ih1 a; cases e1
    | segSuspOut hs2 a => rw [hs] at hs2; cases hs2
    | segSuspGen hs2 a _ b =>
      obtain ⟨e1, rfl⟩ := ih1 a
      cases e1
      rw [hs] at hs2
      cases hs2
      exact ih2 b
theorem wakes_det {M : Model} {Γ : Ctx} {p : Pos} {g : Nat} {r : Resume} {s s1 s2 : Shared} {r1 r2 : GenResult} (h : Wakes M Γ p g r s r1 s1) (k : Wakes M Γ p g r s r2 s2) : r1 = r2 ∧ s1 = s2 := by
  unfold Wakes at h k
  split at h
  · exact h.elim
  · rename_i c hc
    rw [hc] at k
    dsimp only at k
    split at h
    · obtain ⟨e1, t1, a, _, rfl, rfl⟩ := h
      obtain ⟨e2, t2, b, _, rfl, rfl⟩ := k
      obtain ⟨rfl, rfl⟩ := runs_det a b
      exact ⟨rfl, rfl⟩
    · rename_i v hv
      split at k
      · rename_i hx
        first
          | exact absurd (Resume.send.inj hx) hv
          | exact absurd hx hv
          | simp_all
      · obtain ⟨rfl, rfl⟩ := h
        obtain ⟨rfl, rfl⟩ := k
        exact ⟨rfl, rfl⟩
      · rename_i hx
        cases hx
    · obtain ⟨rfl, rfl⟩ := h
      obtain ⟨rfl, rfl⟩ := k
      exact ⟨rfl, rfl⟩
  · rename_i hc
    rw [hc] at k
    obtain ⟨e1, t1, a, _, rfl, rfl⟩ := h
    obtain ⟨e2, t2, b, _, rfl, rfl⟩ := k
    obtain ⟨rfl, rfl⟩ := runs_det a b
    exact ⟨rfl, rfl⟩
  · rename_i hc
    rw [hc] at k
    obtain ⟨rfl, rfl⟩ := h
    obtain ⟨rfl, rfl⟩ := k
    exact ⟨rfl, rfl⟩
  · rename_i hc
    rw [hc] at k
    obtain ⟨rfl, rfl⟩ := h
    obtain ⟨rfl, rfl⟩ := k
    exact ⟨rfl, rfl⟩
theorem wp_and {α : Type} (M : Model) (Γ : Ctx) (t : Sem α) : ∀ (Q Q' : α → Pos → Shared → Prop) (E E' : Value → Pos → Shared → Prop) (p : Pos) (s : Shared), Sem.wp M Γ t Q E p s → Sem.wp M Γ t Q' E' p s →
    Sem.wp M Γ t (fun a p s => Q a p s ∧ Q' a p s) (fun e p s => E e p s ∧ E' e p s) p s := by
  induction t with
  | pure a => intro Q Q' E E' p s h k; exact ⟨h, k⟩
  | raise e => intro Q Q' E E' p s h k; exact ⟨h, k⟩
  | unsupported _ => intro Q Q' E E' p s h k; exact h
  | finish _ => intro Q Q' E E' p s h k; exact h
  | rule _ c ih => intro Q Q' E E' p s h k; exact ih () Q Q' E E' p s h k
  | «at» p' c ih => intro Q Q' E E' p s h k; exact ih () Q Q' E E' p' s h k
  | load a _ c ih => intro Q Q' E E' p s h k; obtain ⟨o, ho, h⟩ := h; obtain ⟨o2, ho2, k⟩ := k; rw [ho] at ho2; cases ho2; exact ⟨o, ho, ih o Q Q' E E' p s h k⟩
  | update a _ f c ih => intro Q Q' E E' p s h k; exact ⟨h.1, ih () Q Q' E E' p _ h.2 k.2⟩
  | loadIfAlive a c ih => intro Q Q' E E' p s h k; exact ih _ Q Q' E E' p s h k
  | point _ c ih => intro Q Q' E E' p s h k; exact ih () Q Q' E E' p s h k
  | register _ _ => intro Q Q' E E' p s h k; exact h
  | alloc o c ih => intro Q Q' E E' p s h k; exact ih _ Q Q' E E' p _ h k
  | fresh c ih => intro Q Q' E E' p s h k; exact ih _ Q Q' E E' p _ h k
  | ask c ih => intro Q Q' E E' p s h k; exact ih _ Q Q' E E' p s h k
  | choose src m c ih => intro Q Q' E E' p s h k; exact ⟨h.1, ih _ Q Q' E E' p _ h.2 k.2⟩
  | os q _ c ih => intro Q Q' E E' p s h k; exact ih _ Q Q' E E' p _ h k
  | call c hd _ _ c' ih =>
    intro Q Q' E E' p s h k
    obtain ⟨r, s1, hr, h⟩ := h
    obtain ⟨r2, s2, hr2, k⟩ := k
    obtain ⟨e1, rfl⟩ := runs_det hr hr2
    cases e1
    exact ⟨r, s1, hr, ih r Q Q' E E' p s1 h k⟩
  | handled own c ih => intro Q Q' E E' p s h k; exact ih _ Q Q' E E' p s h k
  | genState g c ih => intro Q Q' E E' p s h k; obtain ⟨st, hs, h⟩ := h; obtain ⟨st2, hs2, k⟩ := k; rw [hs] at hs2; cases hs2; exact ⟨st, hs, ih _ Q Q' E E' p s h k⟩
  | newGen c' c ih => intro Q Q' E E' p s h k; exact ih _ Q Q' E E' p _ h k
  | resume g r _ c ih =>
    intro Q Q' E E' p s h k
    obtain ⟨r1, s1, hr, h⟩ := h
    obtain ⟨r2, s2, hr2, k⟩ := k
    obtain ⟨rfl, rfl⟩ := wakes_det hr hr2
    exact ⟨r1, s1, hr, ih r1 Q Q' E E' p s1 h k⟩
  | yield _ _ _ _ => intro Q Q' E E' p s h k; exact h
  | stack c ih => intro Q Q' E E' p s h k; exact ih _ Q Q' E E' p s h k
  | fork _ _ => intro Q Q' E E' p s h k; exact h
  | thread c ih => intro Q Q' E E' p s h k; exact ih _ Q Q' E E' p s h k
  | await _ _ _ _ _ => intro Q Q' E E' p s h k; exact h
/-- two things that are shown of one run hold together -/
theorem wpAny_both {α : Type} {M : Model} {A : Around} {t : Sem α} {Q Q' : α → Shared → Prop} {E E' : Value → Shared → Prop} {s : Shared} (h : wpAny M A t Q E s) (k : wpAny M A t Q' E' s) : wpAny M A t (fun a s' => Q a s' ∧ Q' a s') (fun e s' => E e s' ∧ E' e s') s :=
  fun Γ p hΓ => wp_and M Γ t _ _ _ _ p s (h Γ p hΓ) (k Γ p hΓ)
end WP
namespace WP
open PySem PySem.Spec PyProof.Rows L2
/-- on, with the tokens not fewer -/
theorem thk {α : Type} {t : Sem α} {Q Q' : α → Shared → Prop} {M : Model} {A : Around} {E : Value → Shared → Prop} {s : Shared} (h : wpAny M A t Q E s) (hQ : ∀ a s', s.toks ≤ s'.toks → Q a s' → Q' a s') : wpAny M A t Q' E s :=
  wpAny_mono (PySem.wpAny_toks h) (fun a s' z => hQ a s' z.1 z.2) fun _ _ z => z.2
section
variable {X : Cx} {pos : Pos}
/-- a for whose body is begun with a token out -/
theorem pst_forT {tg iter : Expr} {body : List Stmt} {wi : TI} {g : TG} {tb : TS} (hp : PassesOwn (model X.prog X.w) X.A X.env X.xe) (hc : X.calm = true) (hi : PIT X tg iter wi) (hg : PG X tg g) (hb : PSsT X body tb)
    (hs : ∀ x, foldedSetIterable iter X.env x = pure x := by intro _; rfl) : PST X (.For tg iter body [] pos) (tFor wi g tb) := by
  intro pins s σ H D h0 I h
  refine wpAny_For (thk (hi pins s σ H _ h0 I h) fun v s1 t1 h1 => thk h1 fun itv s2 t2 h2 => ?_) hs
  obtain ⟨it, fp, tn, J, H2, rfl, I2, T, st2, f2, W, ⟨m0, w0⟩, turn⟩ := h2
  have fok : ∀ {H' : Hp}, (∀ b ∈ fp, H' b = none) → ∀ b ∈ fp, FpOk X pins H' b := fun hn b hb => ⟨hn b hb, (f2 b hb).2⟩
  refine codeAny_forLoop_any (fun n s' => ∃ i σ' H', Inv X pins σ' H' s' ∧ tn i s'.heap ∧ (∀ b ∈ fp, H' b = none) ∧ W i n σ' H' ∧ 1 ≤ s'.toks) ?_ m0 ⟨0, σ, H2, I2, st2, fun b hb => (f2 b hb).1, w0, by omega⟩
  rintro n s3 ⟨i, σ3, H3, I3, st3, fr3, w3, t3⟩
  rcases turn i n σ3 H3 w3 with ⟨stop, qn⟩ | ⟨go, Nx, hN, step⟩
  · refine wpAny_passesOwn hp (thn (T.done X rfl rfl rfl hc i pins s3 σ3 H3 X.xe I3 (fok fr3) st3 stop) fun r s4 ⟨hr, I4⟩ => ?_)
    subst hr
    exact wpAny_execs_nil ⟨σ3, H3, I4, qn⟩
  · refine wpAny_passesOwn hp (thk (T.item X rfl rfl rfl hc i pins s3 σ3 H3 X.xe I3 (fok fr3) st3 go) fun r s4 t4 ⟨u, hr, h4⟩ => ?_)
    subst hr
    refine wpAny_passesOwn hp (thk h4 fun _ s5 t5 ⟨x, H5, I5, r5, y5, st5, fr5⟩ => ?_)
    have I5' := I5.pinned (fok fr5) (T.obj _ _ st5)
    refine wpAny_passesOwn hp (thk (hg.run _ s5 σ3 H5 x u _ I5' r5 (step x H5 y5)) fun _ s6 t6 ⟨σ6, H6, I6, q6⟩ => ?_)
    refine wpAny_passesOwn hp (thk (hb _ s6 σ6 H6 _ (by omega) I6 q6) fun f s7 t7 q7 => ?_)
    have again : ∀ {σ7 : L2.St} {H7 : Hp}, Inv X (pins ++ pinsAt fp s5.heap) σ7 H7 s7 → Nx σ7 H7 → ∃ m, m < n ∧ ∃ i σ' H', Inv X pins σ' H' s7 ∧ tn i s7.heap ∧ (∀ b ∈ fp, H' b = none) ∧ W i m σ' H' ∧ 1 ≤ s7.toks := fun {σ7 H7} I7 n7 => by
      obtain ⟨m', hm, w7⟩ := hN σ7 H7 n7
      refine ⟨m', hm, i + 1, σ7, H7, I7.unpinned, T.keep _ _ _ st5 fun b hb o e => (I7.pin (b, o) (List.mem_append_right _ (List.mem_append_right _ (mem_pinsAt hb e)))).1, fun b hb => ?_, w7, by omega⟩
      obtain ⟨o, e, d⟩ := T.obj _ _ st5 b hb
      exact (I7.pin (b, o) (List.mem_append_right _ (List.mem_append_right _ (mem_pinsAt hb e)))).2.1
    cases f with
    | next => obtain ⟨σ7, H7, I7, n7⟩ := q7; exact again I7 n7
    | cont => obtain ⟨σ7, H7, I7, n7⟩ := q7; exact again I7 n7
    | brk => obtain ⟨σ7, H7, I7, q7⟩ := q7; exact ⟨σ7, H7, I7.unpinned, q7⟩
    | ret v => obtain ⟨x7, σ7, H7, I7, r7, q7⟩ := q7; exact ⟨x7, σ7, H7, I7.unpinned, r7, q7⟩
end
end WP
namespace WP
open PySem PySem.Spec PyProof.Rows L2
/-- written texts -/
inductive Consts : List Expr → List Str → Prop
  | nil : Consts [] []
  | cons {es : List Expr} {cs : List Str} (c : Str) (j : Nat) (p : Pos) : Consts es cs → Consts (.Constant (.str c) j p :: es) (c :: cs)
/-- a text with a token of its own -/
def NzS (u : Value) : Prop := ∃ y t, u = .str y t ∧ t ≠ 0
/-- the name holds such a text -/
def TokV (X : Cx) (x : Str) (s : Shared) : Prop := ∃ m u, s.heap.Ns X.env.locals m ∧ m x = some u ∧ NzS u
section
variable {X : Cx} {pos : Pos}
theorem consts_run : ∀ {es : List Expr} {cs : List Str}, Consts es cs → ∀ (pos : Pos) (pins : List (Addr × Obj)) (s : Shared) (σ : L2.St) (H : Hp) (Qf : List Value → Shared → Prop), 1 ≤ s.toks → Inv X pins σ H s →
    (∀ us s', s.heap = s'.heap → s.toks ≤ s'.toks → Inv X pins σ H s' → Vals (cs.map V.str) us → (∀ u ∈ us, NzS u) → Qf us s') → wpAny (model X.prog X.w) X.A (spliced (backTo pos (starEach es X.env))) Qf X.xe s
  | _, _, .nil, pos, pins, s, σ, H, Qf, h0, I, q => Calls.spliced_nil (q [] s rfl (Nat.le_refl _) I .nil (by simp))
  | _, _, .cons (es := es) (cs := cs) c j p k, pos, pins, s, σ, H, Qf, h0, I, q => by
    show wpAny _ _ (spliced ((false, eval (.Constant (.str c) j p) X.env) :: backTo pos (starEach es X.env))) _ _ s
    refine Calls.spliced_cons (Calls.Constant_str ?_)
    refine consts_run k pos pins _ σ H _ (by show 1 ≤ s.toks + 1; omega) (I.tok _) fun us s' e t I' r nz => ?_
    refine q _ s' e (Nat.le_trans (Nat.le_succ _) t) I' (.cons ⟨_, rfl⟩ r) fun u hu => ?_
    rcases List.mem_cons.mp hu with rfl | hu
    · exact ⟨c, s.toks, rfl, Nat.pos_iff_ne_zero.mp h0⟩
    · exact nz u hu
def PSsV (X : Cx) (x : Str) (body : List Stmt) (tb : TS) : Prop :=
  ∀ (pins : List (Addr × Obj)) (s : Shared) (σ : L2.St) (H : Hp) (D : Ends), 1 ≤ s.toks → TokV X x s → Inv X pins σ H s → tb D σ H → wpAny (model X.prog X.w) X.A (execs body X.env) (SP X pins D) X.xe s
def tForV (i : Nat) (cs : List Str) (tb : TS) : TS := fun D σ H => ∃ W : Nat → L2.St → Hp → Prop, W 0 σ H ∧ ∀ j σ H, W j σ H → (j = cs.length → D.nx σ H) ∧ ∀ c, cs[j]? = some c → tb { D with nx := W (j + 1), ct := W (j + 1), bk := D.nx } (σ.set i (some (.str c))) H
/-- for x in ["..", ..]: body, the name's text has a token of its own -/
theorem pst_forV {i : Nat} {x : Str} {p0 lp : Pos} {es : List Expr} {cs : List Str} {body : List Stmt} {tb : TS} (hes : Consts es cs) (hcs : cs.length ≤ 1000) (hp : PassesOwn (model X.prog X.w) X.A X.env X.xe) (hc : X.calm = true) (hN : X.N.Nodup) (hi : X.N[i]? = some x) (hx : X.env.scope.names.lookup x = some .local)
    (hb : PSsV X x body tb) (hs : ∀ v, foldedSetIterable (.List es lp) X.env v = pure v := by intro _; rfl) : PST X (.For (.Name x p0) (.List es lp) body [] pos) (tForV i cs tb) := by
  intro pins s σ H D h0 I h
  obtain ⟨W, w0, turn⟩ := h
  refine wpAny_For (wpAny_List_spliced (consts_run hes lp pins s σ H _ h0 I fun us s1 eh t1 I1 r nz => ⟨sz (by have := r.length; simp at this; omega), ?_⟩)) hs
  have ul : cs.length = us.length := by have := r.length; simpa using this
  -- the list
  generalize ho : ({ cls := .type "list", data := .seq us.toArray } : Obj) = ob
  have fa : FpOk X pins H s1.heap.objs.size := I1.fpOk (Nat.le_refl _) (I1.hok.fresh (Nat.le_refl _))
  generalize hav : s1.heap.objs.size = a at fa
  have ga : (s1.heap.push ob).get? a = some ob := by rw [← hav]; exact Heap.get?_push_size _ (by rw [← ho]; rfl)
  have I2 : Inv X pins σ H { s1 with heap := s1.heap.push ob } := I1.kept (t' := s1.toks) fun b o e => Heap.get?_push_of_some _ e
  have isl : ∀ {h : Heap}, h.get? a = some ob → h.IsList a us.toArray := fun {h} e => by rw [← ho] at e; exact ⟨_, e, rfl, _, rfl⟩
  refine wpAny_pyIter_list (isl ga) ?_
  -- its iterator
  generalize hit : (s1.heap.push ob).objs.size = it
  have hita : a < it := by rw [← hit]; exact Heap.lt_size ga
  have fit : FpOk X pins H it := by rw [← hit]; exact I2.fpOk (s := { s1 with heap := s1.heap.push ob }) (Nat.le_refl _) (I2.hok.fresh (Nat.le_refl _))
  have git : ((s1.heap.push ob).push { cls := .type "list_iterator", data := .fields #[.ref a, .int 0 0] }).get? it = some { cls := .type "list_iterator", data := .fields #[.ref a, .int 0 0] } := by rw [← hit]; exact Heap.get?_push_size _ rfl
  have ga3 : ((s1.heap.push ob).push { cls := .type "list_iterator", data := .fields #[.ref a, .int 0 0] }).get? a = some ob := Heap.get?_push_of_some _ ga
  have I3 : Inv X pins σ H { s1 with heap := (s1.heap.push ob).push { cls := .type "list_iterator", data := .fields #[.ref a, .int 0 0] } } := I2.kept (t' := s1.toks) fun b o e => Heap.get?_push_of_some _ e
  have T := turn_list (P := X.prog) (w := X.w) (K := X.K) (tg := .Name x p0) a it
  refine codeAny_forLoop_any (fun n s' => ∃ j σ' H', n = cs.length - j ∧ j ≤ cs.length ∧ Inv X pins σ' H' s' ∧ s'.heap.IsListIter it a j ∧ s'.heap.get? a = some ob ∧ H' it = none ∧ H' a = none ∧ W j σ' H' ∧ 1 ≤ s'.toks) ?_ cs.length ⟨0, σ, H, rfl, Nat.zero_le _, I3, ⟨_, git, rfl, rfl⟩, ga3, fit.1, fa.1, w0, Nat.le_trans h0 t1⟩
  rintro n s3 ⟨j, σ3, H3, rfl, hj, I3, st3, g3, n3, na3, w3, t3⟩
  obtain ⟨tend, tstep⟩ := turn j σ3 H3 w3
  have f3 : FpOk X pins H3 it := ⟨n3, fit.2⟩
  have fa3 : FpOk X pins H3 a := ⟨na3, fa.2⟩
  obtain ⟨_, f31, _, f33, f34, f35⟩ := id f3
  by_cases hjl : j = cs.length
  · refine wpAny_passesOwn hp (wpAny_pyNext_list_end (I3.ok.hd hc) st3 (isl g3) (by simp; omega) fun h' eb => ?_)
    exact wpAny_execs_nil ⟨σ3, H3, I3.turned (t' := s3.toks) (fun b o hb e => eb b o hb e) n3 f31 f33 f34 f35, tend hjl⟩
  have hjlt : j < cs.length := by omega
  have hju : j < us.length := by omega
  have hcj : cs[j]? = some cs[j] := List.getElem?_eq_getElem hjlt
  have huj : us[j]? = some us[j] := List.getElem?_eq_getElem hju
  obtain ⟨u', hu', ru⟩ := r.get (i := j) (x := V.str cs[j]) (by rw [List.getElem?_map, hcj]; rfl)
  rw [huj] at hu'
  cases hu'
  have nzu := nz us[j] (List.getElem_mem hju)
  refine wpAny_passesOwn hp (wpAny_pyNext_list_item st3 (isl g3) (x := us[j]) (by simpa using huj) fun h' st4 sb => ?_)
  have I4 : Inv X pins σ3 H3 { s3 with heap := h' } := I3.turned (t' := s3.toks) (fun b o hb e => (sb.2 b hb).trans e) n3 f31 f33 f34 f35
  have g4 : h'.get? a = some ob := (sb.2 a (Nat.ne_of_lt hita)).trans g3
  obtain ⟨o4, e4, c4, d4⟩ := id st4
  refine wpAny_passesOwn hp (go_of (s := { s3 with heap := h' }) e4 c4 d4 (by decide) ?_)
  -- the list and its iterator stand still while the body runs
  have fps : ∀ b ∈ [it, a], FpOk X pins H3 b := fun b hb => by
    simp only [List.mem_cons, List.not_mem_nil, or_false] at hb
    rcases hb with rfl | rfl
    · exact f3
    · exact fa3
  have I5 : Inv X (pins ++ pinsAt [it, a] h') σ3 H3 { s3 with heap := h' } := I4.pinned fps fun b hb => by
    simp only [List.mem_cons, List.not_mem_nil, or_false] at hb
    rcases hb with rfl | rfl
    · exact ⟨o4, e4, fun v z => by rw [d4] at z; cases z⟩
    · exact ⟨ob, g4, fun v z => by rw [← ho] at z; cases z⟩
  obtain ⟨m5, hn5, _⟩ := I5.loc
  have hcls : (X.env.scope.kind == .class || (X.env.scope.kind == .module && X.env.locals != X.env.globals)) = false := by rw [I5.ok.kind]; rfl
  have both := wpAny_both (M := model X.prog X.w) (A := X.A) (E := X.xe) (E' := X.xe) (s := { s3 with heap := h' })
    (Q := fun _ s' => Inv X (pins ++ pinsAt [it, a] h') (σ3.set i (some (V.str cs[j]))) H3 s') (Q' := fun _ s' => TokV X x s' ∧ 1 ≤ s'.toks)
    (store_ok I5 hN hi (.inl hx) ru (fun s' I' => I') (.inr hx))
    (wpAny_storeName_local hx hn5 (fun h5 hn6 _ => ⟨⟨_, us[j], hn6, by simp, nzu⟩, by show 1 ≤ s3.toks + 1; omega⟩) hcls)
  refine wpAny_passesOwn hp (wpAny_mono (wpAny_assign_Name both) (fun _ s6 q6 => ?_) fun _ _ z => z.1)
  obtain ⟨I6, tv6, t6⟩ := q6
  refine wpAny_passesOwn hp (thk (hb _ s6 _ H3 _ t6 tv6 I6 (tstep cs[j] hcj)) fun f s7 t7 q7 => ?_)
  have again : ∀ {σ7 : L2.St} {H7 : Hp}, Inv X (pins ++ pinsAt [it, a] h') σ7 H7 s7 → W (j + 1) σ7 H7 → ∃ m, m < cs.length - j ∧ ∃ j σ' H', m = cs.length - j ∧ j ≤ cs.length ∧ Inv X pins σ' H' s7 ∧ s7.heap.IsListIter it a j ∧ s7.heap.get? a = some ob ∧ H' it = none ∧ H' a = none ∧ W j σ' H' ∧ 1 ≤ s7.toks := fun {σ7 H7} I7 w7 => by
    have p1 := I7.pin (it, o4) (List.mem_append_right _ (List.mem_append_right _ (mem_pinsAt (by simp) e4)))
    have p2 := I7.pin (a, ob) (List.mem_append_right _ (List.mem_append_right _ (mem_pinsAt (by simp) g4)))
    exact ⟨cs.length - (j + 1), by omega, j + 1, σ7, H7, rfl, by omega, I7.unpinned, ⟨o4, p1.1, c4, d4⟩, p2.1, p1.2.1, p2.2.1, w7, by omega⟩
  cases f with
  | next => obtain ⟨σ7, H7, I7, n7⟩ := q7; exact again I7 n7
  | cont => obtain ⟨σ7, H7, I7, n7⟩ := q7; exact again I7 n7
  | brk => obtain ⟨σ7, H7, I7, q7⟩ := q7; exact ⟨σ7, H7, I7.unpinned, q7⟩
  | ret v => obtain ⟨x7, σ7, H7, I7, r7, q7⟩ := q7; exact ⟨x7, σ7, H7, I7.unpinned, r7, q7⟩
end
end WP
namespace WP
open PySem PySem.Spec PyProof.Rows L2
section
variable {X : Cx} {pos : Pos} {x : Str}
theorem TokV.heap {s s' : Shared} (h : TokV X x s) (e : s.heap = s'.heap) : TokV X x s' := by
  obtain ⟨m, u, h1, h2, h3⟩ := h
  exact ⟨m, u, by rw [← e]; exact h1, h2, h3⟩
/-- the frame's own names stand behind a call -/
theorem TokV.un {pins : List (Addr × Obj)} {σ : L2.St} {H H' : Hp} {s s' : Shared} (h : TokV X x s) (I : Inv X pins σ H s) (u : Un (frs X.stack) [] H H' s.heap s'.heap) : TokV X x s' := by
  obtain ⟨m, v, ⟨o, es, ep, e, d, r⟩, h2, h3⟩ := h
  obtain ⟨sl, e'⟩ := u.any e I.free (by simp)
  exact ⟨m, v, ⟨_, es, ep, e', d, r⟩, h2, h3⟩
/-- a call f(a, n), a a local name, n a written number: the frame's names stand -/
theorem pev_call {CX : CXT} {k i : Nat} {f : Addr} {fd : FuncData} {ps : List Str} {sp : Sp} {y z : Str} {p p1 p2 : Pos} {n : Int} {j : Nat} (F : FnOk X.prog X.w X.K X.mg X.base CX k f fd ps sp) (hr : Room k X.A) (hg : Gl X y) (hm : X.mg y = some (.ref f)) (hk : PySem.W.keepIn X.K (.ref f) = true) (hb : Binds X.K fd ps []) (hx : Passes CX X E0)
    (hN : X.N[i]? = some z) (hz : X.env.scope.names.lookup z = some .local) (hdb : (y == ("__debug__" : Str)) = false := by decide) (hdz : (z == ("__debug__" : Str)) = false := by decide) (hcz : (z == ("__classdict__" : Str)) = false := by decide) :
    ∀ (pins : List (Addr × Obj)) (s : Shared) (σ : L2.St) (H : Hp) (Q : VK), TokV X x s → Inv X pins σ H s → tCall sp [] E0 (tCons (tVar i) (tCons (tC (.int n)) tNil)) σ H Q →
      wpAny (model X.prog X.w) X.A (eval (.Call (.Name y p) [.Name z p1, .Constant (.int n) j p2] [] pos) X.env) (fun u s' => EP X pins σ Q u s' ∧ TokV X x s') X.xe s := by
  intro pins s σ H Q tv I h
  refine wpAny_Call_Name_kw (ld_glob I hg hm ?_ hdb)
  refine PySem.W.callWith_K (h₀ := X.base) I.ok.mod.kin hk ?_ rfl rfl
  have ha : PA X [.Name z p1, .Constant (.int n) j p2] (tCons (tVar i) (tCons (tC (.int n)) tNil)) := pa_cons (pe_var hN (.inl hz) hdz hcz) (pa_cons pe_int pa_nil)
  have keep : wpAny (model X.prog X.w) X.A (spliced (backTo pos (starEach [.Name z p1, .Constant (.int n) j p2] X.env))) (fun _ s' => TokV X x s') (fun _ _ => True) s := by
    show wpAny _ _ (spliced [(false, eval (.Name z p1) X.env), (false, eval (.Constant (.int n) j p2) X.env)]) _ _ s
    obtain ⟨v, e, _⟩ := h
    obtain ⟨m, hn, hl⟩ := I.loc
    obtain ⟨u, r, l⟩ := hl i z v hN e (.inl hz)
    have hloc : X.env.kindOf z = some .local ∧ m z = some u := by
      rcases l with l | ⟨l, _⟩
      · exact l
      · have hz' : X.env.kindOf z = some .local := hz
        rcases l with l | l <;> (rw [hz'] at l; cases l)
    exact Calls.spliced_cons (wpAny_Name (wpAny_loadName_local I.ok.kind hloc.1 hn hloc.2 (Calls.spliced_cons (wpAny_Constant_int (Calls.spliced_nil (tv.heap rfl))))) hdz)
  refine wpAny_mono (wpAny_both (ha.run pos pins s σ H _ I h) keep) (fun us s1 q => ?_) fun _ _ q => q.1
  obtain ⟨⟨vs, H1, I1, r, q⟩, tv1⟩ := q
  refine ⟨I1.kIn, ?_⟩
  have r2 : Vals (vs ++ []) (us ++ []) := r.append .nil
  have hl : (us ++ []).length = ps.length := by rw [← r2.length]; exact F.len _ _ _ _ q
  have keep2 : wpAny (model X.prog X.w) X.A (call (.ref f) ([] ++ us)) (fun _ s' => TokV X x s') (fun _ _ => True) s1 := by
    refine wpAny_call (codeAny_mono (F.run X.A X.stack s1 H1 ⟨us, []⟩ (us ++ []) (vs ++ []) Q E0 hr I1.env0 (hb s1 us I1.kIn hl) r2 q) fun r s' hq => ?_)
    cases r with
    | error e => trivial
    | ok fl =>
      cases fl with
      | ret u =>
        obtain ⟨_, _, _, _, un, _⟩ := hq
        exact tv1.un I1 un
      | next => exact False.elim hq
      | brk => exact False.elim hq
      | cont => exact False.elim hq
  exact wpAny_mono (wpAny_both (run_fn F hr hb .nil hx I1 r q) keep2) (fun _ _ h => h) fun _ _ h => h.1
end
end WP
namespace WP
open PySem PySem.Spec PyProof.Rows L2
section
variable {X : Cx} {pos : Pos} {x : Str}
/-- an expression whose text has a token of its own -/
def PEZ (X : Cx) (e : Expr) (t : TE) : Prop :=
  ∀ (pins : List (Addr × Obj)) (s : Shared) (σ : L2.St) (H : Hp) (Q : VK), 1 ≤ s.toks → Inv X pins σ H s → t σ H Q → wpAny (model X.prog X.w) X.A (eval e X.env) (fun u s' => EP X pins σ Q u s' ∧ NzS u) X.xe s
def rAddZ (left : Bool) : V → V → Hp → VK → Prop := fun a b H Q => ∃ i j, a = .str i ∧ b = .str j ∧ (i.length == 0) = false ∧ (left = false → (j.length == 0) = false) ∧ i.length + j.length ≤ sizeLine ∧ Q (.str (i ++ j)) H
theorem nz_add {i j : Str} {t u : PySem.Tok} {s : Shared} (h0 : 1 ≤ s.toks) (hi : (i.length == 0) = false) (hz : i.length + j.length ≤ sizeLine) (hj : (j.length == 0) = false ∨ t ≠ 0) :
    wpAny (model X.prog X.w) X.A (binaryOp .Add (.str i t) (.str j u)) (fun v _ => NzS v) (fun _ _ => True) s := by
  refine PySem.P.add_str ?_
  rw [hi]
  rw [if_neg Bool.false_ne_true]
  cases hjl : (j.length == 0) with
  | true =>
    rw [if_pos rfl]
    rcases hj with hj | hj
    · rw [hjl] at hj; cases hj
    · exact ⟨i, t, rfl, hj⟩
  | false =>
    rw [if_neg Bool.false_ne_true]
    exact ⟨by rw [PySem.Str.length_append]; exact hz, i ++ j, s.toks, rfl, Nat.pos_iff_ne_zero.mp h0⟩
/-- two texts, neither empty -/
theorem pez_add {a b : Expr} {ta tb : TE} (ha : PE X a ta) (hb : PE X b tb) : PEZ X (.BinOp a .Add b pos) (tOp (rAddZ false) ta tb) := by
  intro pins s σ H Q h0 I h
  refine wpAny_BinOp (thk (ha.run pins s σ H _ I h) fun v s1 t1 ⟨x1, H1, I1, r1, q1⟩ => thk (hb.run pins s1 σ H1 _ I1 q1) fun u s2 t2 ⟨y1, H2, I2, r2, q2⟩ => ?_)
  obtain ⟨i, j, rfl, rfl, hi, hj, hz, q⟩ := q2
  obtain ⟨t, rfl⟩ := r1
  obtain ⟨t', rfl⟩ := r2
  exact wpAny_mono (wpAny_both (op_add_str pins s2 σ H2 (.str i) (.str j) _ _ Q I2 ⟨t, rfl⟩ ⟨t', rfl⟩ ⟨i, j, rfl, rfl, hz, q⟩) (nz_add (by omega) hi hz (.inl (hj rfl)))) (fun _ _ h => h) fun _ _ h => h.1
/-- the left text has a token of its own and is not empty -/
theorem pez_addL {a b : Expr} {ta tb : TE} (ha : PEZ X a ta) (hb : PE X b tb) : PEZ X (.BinOp a .Add b pos) (tOp (rAddZ true) ta tb) := by
  intro pins s σ H Q h0 I h
  refine wpAny_BinOp (thk (ha pins s σ H _ h0 I h) fun v s1 t1 ⟨⟨x1, H1, I1, r1, q1⟩, nz⟩ => thk (hb.run pins s1 σ H1 _ I1 q1) fun u s2 t2 ⟨y1, H2, I2, r2, q2⟩ => ?_)
  obtain ⟨i, j, rfl, rfl, hi, _, hz, q⟩ := q2
  obtain ⟨t, rfl⟩ := r1
  obtain ⟨t', rfl⟩ := r2
  obtain ⟨y0, t0, e, ht⟩ := nz
  cases e
  exact wpAny_mono (wpAny_both (op_add_str pins s2 σ H2 (.str i) (.str j) _ _ Q I2 ⟨t, rfl⟩ ⟨t', rfl⟩ ⟨i, j, rfl, rfl, hz, q⟩) (nz_add (by omega) hi hz (.inr ht))) (fun _ _ h => h) fun _ _ h => h.1
open Builtin Builtin.Str in
theorem gives_same (x y z : Str) (t u : PySem.Tok) (h0 : u ≠ 0) : Gives («str.replace» ⟨[.str x t, .str y u, .str z u], []⟩) (.val (.str x t)) := by
  have hs : isSame (.str y u) (.str z u) = pure true := by
    show (if (u == 0 || u == 0) = true then _ else if (u == u) = true then pure true else _ : Sem Bool) = _
    have h1 : (u == 0) = false := beq_eq_false_iff_ne.mpr h0
    rw [h1]
    simp
  show Gives (if ((occurrences x y 0 x.length (x.length + 1)).isEmpty || (y.length == 0 && z.length == 0)) = true then (do rule "str.replace.nothing"; ret (.str x t)) else
          (do let same ← isSame (.str y u) (.str z u)
              if same = true then (do rule "str.replace.old-is-new"; ret (.str x t)) else
              if tooLong (x.length + (occurrences x y 0 x.length (x.length + 1)).length * z.length) = true then unsupported "str.replace:memory" else
              retStr (glued z (partsBetween x (occurrences x y 0 x.length (x.length + 1)) y.length)))) _
  cases hc : ((occurrences x y 0 x.length (x.length + 1)).isEmpty || (y.length == 0 && z.length == 0))
  · rw [hs]
    exact .rule (.of_eq rfl)
  · exact .rule (.of_eq rfl)
theorem same_call {prog : Program} {w : World} {A : Around} {E : Value → Shared → Prop} {s : Shared} {x y z : Str} {t u : PySem.Tok} {Q : Value → Shared → Prop} (h0 : u ≠ 0) (hq : Q (.str x t) s) : wpAny (model prog w) A (call (.builtin "str.replace") [.str x t, .str y u, .str z u]) Q E s :=
  call_gives F.slot_str_replace (typeIs_str _ _ _) F.entry_str_replace (F.args_str_replace_3 _ _ _) (gives_same x y z t u h0) hq
/-- x.replace(y, z): x stays or is replaced in -/
def tRepV (iL iS : Nat) (te : TE) : TE := fun σ H Q => ∃ xL y, σ[iL]? = some (some (.str xL)) ∧ σ[iS]? = some (some (.str y)) ∧ te σ H fun v H1 => ∃ z, v = .str z ∧ (y == z) = false ∧ xL.length + (xL.length + 1) * z.length ≤ 16777216 ∧ Q (.str xL) H1 ∧ Q (.str (Txt.replace xL y z)) H1
theorem pev_rep {iL iS : Nat} {l sg : Str} {p1 p2 apos : Pos} {e : Expr} {te : TE} (hl : X.N[iL]? = some l) (hll : X.env.scope.names.lookup l = some .local) (hs : X.N[iS]? = some sg) (hsl : X.env.scope.names.lookup sg = some .local) (he : PEZ X e te)
    (hdl : (l == ("__debug__" : Str)) = false := by decide) (hcl : (l == ("__classdict__" : Str)) = false := by decide) (hds : (sg == ("__debug__" : Str)) = false := by decide)
    (hst : starEach [.Name sg p2, e] X.env = [(false, eval (.Name sg p2) X.env), (false, eval e X.env)] := by rfl)
    (hbase : attributeBase (.Name l p1) "replace" X.env (eval (.Name l p1) X.env) = eval (.Name l p1) X.env := by rfl) (hline : (apos.endLine == pos.line) = true := by rfl) :
    ∀ (pins : List (Addr × Obj)) (s : Shared) (σ : L2.St) (H : Hp) (Q : VK), 1 ≤ s.toks → TokV X sg s → Inv X pins σ H s → tRepV iL iS te σ H Q →
      wpAny (model X.prog X.w) X.A (eval (.Call (.Attribute (.Name l p1) "replace" apos) [.Name sg p2, e] [] pos) X.env) (EP X pins σ Q) X.xe s := by
  intro pins s σ H Q h0 tv I h
  obtain ⟨xL, y, e1, e2, h⟩ := h
  obtain ⟨m, hn, hlk⟩ := I.loc
  obtain ⟨uL, rL, lL⟩ := hlk iL l _ hl e1 (.inl hll)
  obtain ⟨uS, rS, lS⟩ := hlk iS sg _ hs e2 (.inl hsl)
  have loc : ∀ {n : Str} {u : Value}, X.env.scope.names.lookup n = some .local → Look X.env s.heap m n u → m n = some u := fun {n u} hk l => by
    have hk' : X.env.kindOf n = some .local := hk
    rcases l with l | ⟨l, _⟩
    · exact l.2
    · rcases l with l | l <;> (rw [hk'] at l; cases l)
  have mL := loc hll lL
  have mS := loc hsl lS
  obtain ⟨m', u', hn', hu', y0, t0, eu, ht⟩ := tv
  have : u' = uS := by
    obtain ⟨o1, es1, ep1, g1, d1, _, k1⟩ := id hn
    obtain ⟨o2, es2, ep2, g2, d2, _, k2⟩ := id hn'
    rw [g1] at g2
    cases g2
    rw [d1] at d2
    cases d2
    have := (k1 sg).symm.trans (k2 sg)
    rw [mS, hu'] at this
    cases this; rfl
  subst this
  subst eu
  obtain ⟨_, e3⟩ := rS
  cases e3
  obtain ⟨tL, rfl⟩ := rL
  refine PySem.Call_method2 hbase hst hline (wpAny_Name (wpAny_loadName_local I.ok.kind hll hn mL ?_) hdl)
  refine ⟨"str", _, PySem.F.plainAttrs_str, PySem.F.slot_str_replace, PySem.F.type_str_replace, typeIs_str _ _ _, (fun _ e => nomatch e), Calls.callWith_builtin rfl (Calls.evalArgs_plain (Calls.spliced_cons ?_))⟩
  refine wpAny_Name (wpAny_loadName_local I.ok.kind hsl hn mS ?_) hds
  refine Calls.spliced_cons (thk (he pins s σ H _ h0 I h) fun v s1 t1 ⟨⟨v1, H1, I1, r1, z, ez, hyz, hb, q1, q2⟩, nz⟩ => Calls.spliced_nil ?_)
  subst ez
  obtain ⟨tz, rfl⟩ := r1
  obtain ⟨_, tz', ez, hz⟩ := nz
  cases ez
  by_cases htt : t0 = tz
  · subst htt
    exact same_call ht ⟨.str xL, H1, I1, ⟨tL, rfl⟩, q1⟩
  · exact PySem.SC.replace ht hz htt hyz hb fun t' k => ⟨.str (Txt.replace xL y z), H1, I1.tok k, ⟨t', rfl⟩, q2⟩
end
end WP
namespace WP
open PySem PySem.Spec PyProof.Rows L2
section
variable {X : Cx} {pos : Pos} {x : Str}
theorem PIT.of {tg iter : Expr} {wi : TI} (h : PI X tg iter wi) : PIT X tg iter wi := fun pins s σ H R _ I q => h.run pins s σ H R I q
/-- f(a, n) == 0 -/
def tZero (tc : TE) : TT := fun σ H Q => tc σ H fun v H1 => ∃ n, v = .int n ∧ Q (n == 0) H1
theorem ptv_zero {c : Expr} {tc : TE} {j : Nat} {p : Pos} (hc : ∀ (pins : List (Addr × Obj)) (s : Shared) (σ : L2.St) (H : Hp) (Q : VK), TokV X x s → Inv X pins σ H s → tc σ H Q → wpAny (model X.prog X.w) X.A (eval c X.env) (fun u s' => EP X pins σ Q u s' ∧ TokV X x s') X.xe s)
    (hm : behindInMarks .Eq (.Constant (.int 0) j p) = false := by first | exact nobehind _ (by decide) (by decide) | rfl) :
    ∀ (pins : List (Addr × Obj)) (s : Shared) (σ : L2.St) (H : Hp) (Q : Bool → Hp → Prop), TokV X x s → Inv X pins σ H s → tZero tc σ H Q → wpAny (model X.prog X.w) X.A (isTrue (.Compare c [.Eq] [.Constant (.int 0) j p] pos) X.env (eval (.Compare c [.Eq] [.Constant (.int 0) j p] pos) X.env)) (fun b s' => TP X pins σ Q b s' ∧ TokV X x s') X.xe s := by
  intro pins s σ H Q tv I h
  refine wpAny_isTrue_Compare1 (thn (hc pins s σ H _ tv I h) fun v s1 ⟨⟨v1, H1, I1, r1, n, e, q⟩, tv1⟩ => wpAny_Constant_int ?_) hm
  subst e
  obtain ⟨t, rfl⟩ := r1
  exact PySem.P.eq_int (wpAny_truthy_bool ⟨⟨H1, I1.tok _, q⟩, tv1.heap rfl⟩)
/-- if f(a, n) == 0: l = e -/
theorem psv_if {c e : Expr} {tc : TE} {te : TE} {iL j : Nat} {l : Str} {p pl p1 p2 : Pos} (hc : ∀ (pins : List (Addr × Obj)) (s : Shared) (σ : L2.St) (H : Hp) (Q : VK), TokV X x s → Inv X pins σ H s → tc σ H Q → wpAny (model X.prog X.w) X.A (eval c X.env) (fun u s' => EP X pins σ Q u s' ∧ TokV X x s') X.xe s)
    (he : ∀ (pins : List (Addr × Obj)) (s : Shared) (σ : L2.St) (H : Hp) (Q : VK), 1 ≤ s.toks → TokV X x s → Inv X pins σ H s → te σ H Q → wpAny (model X.prog X.w) X.A (eval e X.env) (EP X pins σ Q) X.xe s)
    (hN : X.N.Nodup) (hl : X.N[iL]? = some l) (hll : X.env.scope.names.lookup l = some .local) (hsw : swapsWith e (some (.Name l pl)) p1.line X.env = pure false := by rfl)
    (hm : behindInMarks .Eq (.Constant (.int 0) j p) = false := by first | exact nobehind _ (by decide) (by decide) | rfl) :
    PSsV X x [.If (.Compare c [.Eq] [.Constant (.int 0) j p] pos) [.Assign [.Name l pl] e p1] [] p2] (tIfS (tZero tc) (tAsg te (gName iL)) tNext) := by
  intro pins s σ H D h0 tv I h
  refine wpAny_execs_cons (wpAny_If (thk (ptv_zero hc hm pins s σ H _ tv I h) fun b s1 t1 ⟨⟨H1, I1, q⟩, tv1⟩ => ?_))
  cases b with
  | false =>
    exact wpAny_execs_nil (wpAny_execs_nil ⟨σ, H1, I1, q⟩)
  | true =>
    refine wpAny_execs_cons (wpAny_Assign_Name (thn (he pins s1 σ H1 _ (by omega) tv1 I1 q) fun v s2 ⟨y, H2, I2, r2, q2⟩ => ?_) hsw)
    exact store_ok I2 hN hl (.inl hll) r2 (fun s' I' => wpAny_execs_nil (wpAny_execs_nil ⟨_, H2, I', q2⟩)) (.inr hll)
end
end WP
namespace WP
open PySem PySem.Spec PyProof.Rows L2 TL
local macro_rules | `(tactic| walk_at "len") => `(tactic| (show _ ≤ sizeLine; rw [sizeLine_eq]; (try simp only [al, lit_len]); (try simp) <;> omega))
local macro_rules | `(tactic| walk_at "lt") => `(tactic| (show _ < sizeLine; rw [sizeLine_eq]; (try simp only [List.length_map, List.length_append, List.length_cons, List.length_nil, List.length_take]); omega))
local macro_rules | `(tactic| walk_at "le") => `(tactic| (show _ ≤ sizeLine; rw [sizeLine_eq]; (try simp only [List.length_map, List.length_append, List.length_cons, List.length_nil, List.length_take]); omega))
local macro_rules | `(tactic| walk_at "now") => `(tactic| first | assumption | (refine (by assumption : Same _ _) _ _ ?_; walk_at "now"))
local macro_rules | `(tactic| walk_at "at") => `(tactic| first | exact at0 | exact at1 | exact at2 | exact at3 | exact at4 | exact at5 | exact at6 | exact at7 | exact at8)
local macro_rules | `(tactic| walk_at "v") => `(tactic| refine ⟨_, rfl, ?_⟩)
local macro_rules | `(tactic| walk_at "ix") => `(tactic| refine ⟨_, _, _, _, rfl, rfl, SqT.of (by walk_at "now"), (by walk_at "at"), ?_⟩)
local macro_rules | `(tactic| walk_at "ixl") => `(tactic| refine ⟨_, _, _, _, rfl, rfl, SqL.of (by walk_at "now"), (by walk_at "at"), ?_⟩)
local macro_rules | `(tactic| walk_at "str") => `(tactic| refine ⟨_, _, rfl, rfl, (by walk_at "len"), ?_⟩)
local macro_rules | `(tactic| walk_at "int") => `(tactic| refine ⟨_, _, rfl, rfl, ?_⟩)
local macro_rules | `(tactic| walk_at "eq") => `(tactic| refine ⟨rfl, _, rfl, ?_⟩)
local macro_rules | `(tactic| walk_at "app") => `(tactic| refine ⟨_, _, _, rfl, rfl, (by walk_at "now"), (by walk_at "lt"), ?_⟩)
local macro_rules | `(tactic| walk_at "ext") => `(tactic| refine ⟨_, _, _, _, rfl, rfl, (by walk_at "now"), (by walk_at "now"), (by walk_at "le"), ?_⟩)
local macro_rules | `(tactic| walk_at "cat") => `(tactic| refine ⟨_, _, _, _, rfl, rfl, (by walk_at "now"), (by walk_at "now"), (by walk_at "le"), ?_⟩)
local macro_rules | `(tactic| walk_at "num") => `(tactic| refine ⟨(by assumption : Nu _), ?_⟩)
local macro_rules | `(tactic| walk_at "ty") => `(tactic| refine ⟨Or.inl ⟨rfl, _, SqL.of (by walk_at "now")⟩, ?_⟩)
local macro_rules | `(tactic| walk_at "un2") => `(tactic| refine ⟨_, _, rfl, SqT.of (by walk_at "now"), rfl, _, _, rfl, _, _, rfl, rfl, ?_⟩)
local macro_rules | `(tactic| walk_at "un3") => `(tactic| refine ⟨_, _, rfl, SqT.of (by walk_at "now"), rfl, _, _, rfl, _, _, rfl, _, _, rfl, rfl, ?_⟩)
local macro_rules | `(tactic| walk_at "un4") => `(tactic| refine ⟨_, _, rfl, SqT.of (by walk_at "now"), rfl, _, _, rfl, _, _, rfl, _, _, rfl, _, _, rfl, rfl, ?_⟩)
local macro_rules | `(tactic| walk_at "un6") => `(tactic| refine ⟨_, _, rfl, SqT.of (by walk_at "now"), rfl, _, _, rfl, _, _, rfl, _, _, rfl, _, _, rfl, _, _, rfl, _, _, rfl, rfl, ?_⟩)
local macro_rules | `(tactic| walk_at "un9") => `(tactic| refine ⟨_, _, rfl, SqT.of (by walk_at "now"), rfl, _, _, rfl, _, _, rfl, _, _, rfl, _, _, rfl, _, _, rfl, _, _, rfl, _, _, rfl, _, _, rfl, _, _, rfl, rfl, ?_⟩)
local macro_rules | `(tactic| walk_at "go") => `(tactic| repeat (first | walk_at "v" | walk_at "eq" | walk_at "ix" | walk_at "str" | walk_at "ty" | walk_at "num"))

def spSpread : Sp := fun vs H Q _ => ∃ st c ll lines ts, vs = [.ref st, .ref ll] ∧ Gs st c H ∧ H ll = some (.lst (lines.map V.str)) ∧ ll ∉ [st, c] ∧ LL lines ts ∧ Sm 1576 lines ∧ ∀ z H', Kp [st, c] H H' → Gs st c H' → Lex (tl z) ts → z.length ≤ 14000000 → Q (.str z) H'
theorem fold_lines {ls : List Str} (h : ls ≠ []) : Str.join "" (ls.map fun l => l ++ "\n") = Str.join "\n" ls ++ "\n" := by
  refine ext_tl ?_
  rw [join_text h, tl_join]
  have e0 : tl (Str.ofString "") = [] := by decide +kernel
  have e1 : tl (Str.ofString "\n") = [10] := by decide +kernel
  rw [e0]
  have : ∀ l : List (List Nat), joinL [] l = l.flatten := by
    intro l
    induction l with
    | nil => rfl
    | cons a l ih =>
      cases l with
      | nil => simp [joinL]
      | cons b l => simp only [joinL, List.flatten_cons] at ih ⊢; simp [ih]
  rw [this, List.map_map]
  congr 1
  refine List.map_congr_left fun l _ => ?_
  show tl (l ++ "\n") = _
  rw [tl_append, e1]
section
variable {P : Program} {w : World} {K : PySem.W.Frag} {mg : Str → Option Value} {base : Heap} {k : Nat}
abbrev s_law : Stmt := top 86
abbrev n_law : List Str := ["_law_script", "_law_state_here", "_law_program_here", "_law_before", "_law_lines_here", "_law_text", "_law_line"]
theorem sc_law : FnScope n_law ["_law_script"] (defScope s_law) := ⟨rfl, rfl, rfl, by decide +kernel, rfl, by decide +kernel, by decide +kernel⟩
/- slots: 0 _law_script, 1 _law_state_here, 2 _law_program_here, 3 _law_before, 4 _law_lines_here, 5 _law_text, 6 _law_line -/
theorem law_body (B : Bt mg) (c1 : Ok P w K mg base k "_law_state" ["_law_script"] (spState K)) (c2 : Ok P w K mg base k "_law_program" ["_law_state_here"] spProgram) (c3 : Ok P w K mg base k "_law_lines" ["_law_program_here"] spLawLines) (c4 : Ok P w K mg base k "write_program" ["program"] spWrite)
    (c5 : Ok P w K mg base k "_law_same" ["_law_actual", "_law_due"] (spSame 31)) (c6 : Ok P w K mg base k "parse_program" ["text"] spParse) (c7 : Ok P w K mg base k "_law_spread" ["_law_state_here", "_law_lines_here"] spSpread)
    {fa a : Addr} {cdv : Value} {s : Shared} {H : Hp} {E : XK} {ns : List Int} (hr : Room k (callerA.deeper (envOfC "law" (defScope s_law) s.heap.objs.size fa cdv))) (ha : SqL K H a (ns.map V.int)) (hn : ns.length ≤ 1000) :
    ∃ t, PSs (cxOf CX0 P w K mg base n_law "law" (defScope s_law) fa cdv callerA [] s H E).nox (defBody s_law) t ∧ t { nx := fun _ _ => V.non = V.bl true, rt := fun v _ => v = .bl true } (L2.start n_law [.ref a]) H := by
  obtain ⟨_, _, G__law_state, m__law_state, k__law_state, b__law_state⟩ := c1.ex
  obtain ⟨_, _, G__law_program, m__law_program, k__law_program, b__law_program⟩ := c2.ex
  obtain ⟨_, _, G__law_lines, m__law_lines, k__law_lines, b__law_lines⟩ := c3.ex
  obtain ⟨_, _, G_write_program, m_write_program, k_write_program, b_write_program⟩ := c4.ex
  obtain ⟨_, _, G__law_same, m__law_same, k__law_same, b__law_same⟩ := c5.ex
  obtain ⟨_, _, G_parse_program, m_parse_program, k_parse_program, b_parse_program⟩ := c6.ex
  obtain ⟨_, _, G__law_spread, m__law_spread, k__law_spread, b__law_spread⟩ := c7.ex
  have hgd : (cxOf CX0 P w K mg base n_law "law" (defScope s_law) fa cdv callerA [] s H E).nox.A.guards = some [] ∧ (cxOf CX0 P w K mg base n_law "law" (defScope s_law) fa cdv callerA [] s H E).nox.A.units + 64 < cLine := ⟨rfl, hr.units⟩
  refine ⟨_, (pss_cons (ps_set (i := 1) sc_law.nd rfl (Or.inl rfl) (pe_call G__law_state hr (by rfl) m__law_state k__law_state b__law_state .nil pass0 (pa_cons (pv 0) pa_nil)))
    (pss_cons (ps_set (i := 2) sc_law.nd rfl (Or.inl rfl) (pe_call G__law_program hr (by rfl) m__law_program k__law_program b__law_program .nil pass0 (pa_cons (pv 1) pa_nil)))
    (pss_cons (ps_set (i := 3) sc_law.nd rfl (Or.inl rfl) (pe_callB (call_repr hgd) (by rfl) B.repr (by decide +kernel) (pa_cons (pv 2) pa_nil)))
    (pss_cons (ps_set (i := 4) sc_law.nd rfl (Or.inl rfl) (pe_call G__law_lines hr (by rfl) m__law_lines k__law_lines b__law_lines .nil pass0 (pa_cons (pv 2) pa_nil)))
    (pss_cons (ps_set (i := 5) sc_law.nd rfl (Or.inl rfl) (pe_call G_write_program hr (by rfl) m_write_program k_write_program b_write_program .nil pass0 (pa_cons (pv 2) pa_nil)))
    (pss_cons (ps_if (PW.pt (pw_or (pt_not (pt_val (pe_callB call_isi (by rfl) B.isinstance (by decide +kernel) (pa_cons (pv 5) (pa_cons (pe_bltn (v := .ty "str") (by rfl) B.str (by decide +kernel) rfl) pa_nil))))) (pw_or1 (pt_cmpR op_ne (pv 5) (pe_join pe_str (pe_lc (own := [("_law_line", 6)]) rfl sc_law.nd (pi_list (pv 4)) (blkOk_by (N := n_law) (sc := defScope s_law) (by decide +kernel)) (fun _ _ _ _ _ => (pg_name (i := 6) sc_law.nd rfl (Or.inl rfl) (Or.inr rfl))) (fun _ _ _ _ _ => pts_nil) (fun _ _ _ _ _ => (pe_op op_add_str (pv 6) pe_str)))) (nomark _))))) (pss_one (ps_ret pe_bl)) pss_nil)
    (pss_cons (ps_if (PW.pt (pw_or (pt_not (pt_val (pe_call G__law_same hr (by rfl) m__law_same k__law_same b__law_same .nil pass0 (pa_cons (pe_call G_parse_program hr (by rfl) m_parse_program k_parse_program b_parse_program .nil pass0 (pa_cons (pv 5) pa_nil)) (pa_cons (pv 2) pa_nil))))) (pw_or1 (pt_not (pt_val (pe_call G__law_same hr (by rfl) m__law_same k__law_same b__law_same .nil pass0 (pa_cons (pe_call G_parse_program hr (by rfl) m_parse_program k_parse_program b_parse_program .nil pass0 (pa_cons (pe_call G__law_spread hr (by rfl) m__law_spread k__law_spread b__law_spread .nil pass0 (pa_cons (pv 1) (pa_cons (pv 4) pa_nil))) pa_nil)) (pa_cons (pv 2) pa_nil)))))))) (pss_one (ps_ret pe_bl)) pss_nil)
    (pss_one (ps_ret (pe_cmpR op_eq (pe_callB (call_repr hgd) (by rfl) B.repr (by decide +kernel) (pa_cons (pv 2) pa_nil)) (pv 3) (nomark _))))))))))), ?_⟩
  refine ⟨_, rfl, a, ns, rfl, ha, hn, fun st c H1 s1 n1 n2 g1 => ?_⟩
  refine ⟨_, rfl, st, c, rfl, g1, fun pv H2 p wp k2 g2 h2 => ?_⟩
  have hp2 := h2.mono (nw_out (M := [st, c]) g1.mm)
  obtain ⟨pa, px, rfl, hpa, hpx⟩ := hp2.tup_inv
  have hp2 : At (Out [st, c] H2) (.ref pa) (ePrg p) := .tup hpa hpx
  have sz := sz_prg wp
  refine ⟨_, rfl, pa, 30, 1200000, ePrg p, rfl, hp2.mono out_le, sz, by omega, by omega, ?_⟩
  refine ⟨_, rfl, p, _, rfl, hp2.mono out_le, wp, fun ll H3 s3 e3 => ?_⟩
  have g3 := g2.same s3
  have hll : ll ∉ [st, c] := by
    obtain ⟨x, xs, ex⟩ : ∃ x xs, lPrg p = x :: xs := by
      cases e : lPrg p with
      | nil => exact absurd e lPrg_ne
      | cons x xs => exact ⟨x, xs, rfl⟩
    rw [ex] at e3
    obtain ⟨_, ⟨sd, h1, _⟩, ⟨ms, h4, _⟩⟩ := id g3
    intro z
    simp only [List.mem_cons, List.not_mem_nil, or_false] at z
    rcases z with rfl | rfl
    · rw [h1] at e3; cases e3
    · rw [h4] at e3
      cases ms with
      | nil => cases e3
      | cons m ms => cases e3
  have sm := lPrg_sm wp
  obtain ⟨jl1, jl2⟩ := joinN_len sm
  refine ⟨_, rfl, p, _, rfl, (hp2.mono out_le).mono s3, wp, fun H4 s4 => ?_⟩
  generalize hz : Str.join "\n" (lPrg p) ++ "\n" = z
  have e4 := s4 _ _ e3
  have s24 := s3.trans s4
  have g4 := g3.same s4
  refine ⟨_, rfl, _, _, _, _, true, rfl, .ty _, .base (.str z), kit_ty (by decide +kernel), _, rfl, ?_⟩
  refine iteF ?_
  refine ⟨_, rfl, ⟨_, rfl⟩, _, rfl, ll, rfl, ⟨_, SqL.of e4⟩, fun D hD => lc_map (lPrg p) PyData.str (fun l => V.str (l ++ "\n")) hD e4 AtL.strs (Nat.le_trans sm.few (by decide)) (fun l x H5 C C' hl hat s5 cc => ?_) fun H5 s5 e5 => ?_⟩
  · obtain rfl := hat.str_inv
    have := sm.short l hl
    refine ⟨rfl, _, rfl, _, _, rfl, rfl, by walk_at "len", cc _ (Same.refl _)⟩
  have js : (((lPrg p).map fun l : Str => l ++ ("\n" : Str)).map (·.length)).sum + ((lPrg p).map fun l : Str => l ++ ("\n" : Str)).length * (Str.ofString "").length ≤ 16777216 := by
    have h1 : (Str.ofString "\n").length = 1 := by decide +kernel
    have h0 : (Str.ofString "").length = 0 := by decide +kernel
    have h2 : ∀ l : List Str, (((l.map fun l : Str => l ++ ("\n" : Str)).map (·.length)).sum) = (l.map (·.length)).sum + l.length := by
      intro l
      induction l with
      | nil => rfl
      | cons x l ih =>
        simp only [List.map_cons, List.sum_cons, List.length_cons, al, h1] at ih ⊢
        omega
    rw [h2, h0]
    rw [h1] at jl1
    omega
  refine ⟨"", D, (lPrg p).map (fun l : Str => l ++ ("\n" : Str)), rfl, rfl, .inl (SqL.of (by rw [e5, List.map_map]; rfl)), js, ?_⟩
  rw [join_eq, fold_lines lPrg_ne, hz]
  refine ⟨rfl, _, rfl, ?_⟩
  refine iteNE rfl ?_
  have s25 := s24.trans s5
  have zl : z.length ≤ 14000000 := by
    rw [← hz, al]
    have h1 : (Str.ofString "\n").length = 1 := by decide +kernel
    omega
  have zlex : Lex (tl z) (kPrg p) := by rw [← hz]; exact write_lex wp
  have g5 := g4.same s5
  refine ⟨_, rfl, z, p, rfl, zlex, zl, wp, fun v6 H6 s6 h6 => ⟨_, rfl, v6, _, ePrg p, rfl, h6, ((hp2.mono out_le).mono (s25.trans s6)), sz.dp, fun H7 s7 => ⟨_, rfl, ?_⟩⟩⟩
  have s57 := s6.trans s7
  have g7 := g5.same s57
  have s27 := s25.trans s57
  refine iteF ⟨_, rfl, _, rfl, st, c, ll, lPrg p, kPrg p, rfl, g7, s57 _ _ (s5 _ _ e4), hll, lPrg_ll wp, sm, fun z8 H8 k8 g8 lx8 l8 => ?_⟩
  have hp8 := ((hp2.mono (out_mono s27)).mono k8.out)
  refine ⟨z8, p, rfl, lx8, l8, wp, fun v9 H9 s9 h9 => ⟨_, rfl, v9, _, ePrg p, rfl, h9, (hp8.mono out_le).mono s9, sz.dp, fun H10 s10 => ⟨_, rfl, ?_⟩⟩⟩
  refine iteF ?_
  have hp10 := ((hp8.mono out_le).mono s9).mono s10
  refine ⟨_, rfl, pa, 30, 1200000, ePrg p, rfl, hp10, sz, by omega, by omega, ?_⟩
  refine ⟨_, rfl, rfl, ?_⟩
  exact congrArg V.bl (decide_eq_true rfl)
end
end WP
namespace WP
open PySem PySem.Spec PyProof.Rows L2 TL
local macro_rules | `(tactic| walk_at "len") => `(tactic| (show _ ≤ sizeLine; rw [sizeLine_eq]; (try simp only [al, lit_len]); (try simp) <;> omega))
local macro_rules | `(tactic| walk_at "lt") => `(tactic| (show _ < sizeLine; rw [sizeLine_eq]; (try simp only [List.length_map, List.length_append, List.length_cons, List.length_nil, List.length_take]); omega))
local macro_rules | `(tactic| walk_at "le") => `(tactic| (show _ ≤ sizeLine; rw [sizeLine_eq]; (try simp only [List.length_map, List.length_append, List.length_cons, List.length_nil, List.length_take]); omega))
local macro_rules | `(tactic| walk_at "now") => `(tactic| first | assumption | (refine (by assumption : Same _ _) _ _ ?_; walk_at "now"))
local macro_rules | `(tactic| walk_at "at") => `(tactic| first | exact at0 | exact at1 | exact at2 | exact at3 | exact at4 | exact at5 | exact at6 | exact at7 | exact at8)
local macro_rules | `(tactic| walk_at "v") => `(tactic| refine ⟨_, rfl, ?_⟩)
local macro_rules | `(tactic| walk_at "ix") => `(tactic| refine ⟨_, _, _, _, rfl, rfl, SqT.of (by walk_at "now"), (by walk_at "at"), ?_⟩)
local macro_rules | `(tactic| walk_at "ixl") => `(tactic| refine ⟨_, _, _, _, rfl, rfl, SqL.of (by walk_at "now"), (by walk_at "at"), ?_⟩)
local macro_rules | `(tactic| walk_at "str") => `(tactic| refine ⟨_, _, rfl, rfl, (by walk_at "len"), ?_⟩)
local macro_rules | `(tactic| walk_at "int") => `(tactic| refine ⟨_, _, rfl, rfl, ?_⟩)
local macro_rules | `(tactic| walk_at "eq") => `(tactic| refine ⟨rfl, _, rfl, ?_⟩)
local macro_rules | `(tactic| walk_at "app") => `(tactic| refine ⟨_, _, _, rfl, rfl, (by walk_at "now"), (by walk_at "lt"), ?_⟩)
local macro_rules | `(tactic| walk_at "ext") => `(tactic| refine ⟨_, _, _, _, rfl, rfl, (by walk_at "now"), (by walk_at "now"), (by walk_at "le"), ?_⟩)
local macro_rules | `(tactic| walk_at "cat") => `(tactic| refine ⟨_, _, _, _, rfl, rfl, (by walk_at "now"), (by walk_at "now"), (by walk_at "le"), ?_⟩)
local macro_rules | `(tactic| walk_at "num") => `(tactic| refine ⟨(by assumption : Nu _), ?_⟩)
local macro_rules | `(tactic| walk_at "ty") => `(tactic| refine ⟨Or.inl ⟨rfl, _, SqL.of (by walk_at "now")⟩, ?_⟩)
local macro_rules | `(tactic| walk_at "un2") => `(tactic| refine ⟨_, _, rfl, SqT.of (by walk_at "now"), rfl, _, _, rfl, _, _, rfl, rfl, ?_⟩)
local macro_rules | `(tactic| walk_at "un3") => `(tactic| refine ⟨_, _, rfl, SqT.of (by walk_at "now"), rfl, _, _, rfl, _, _, rfl, _, _, rfl, rfl, ?_⟩)
local macro_rules | `(tactic| walk_at "un4") => `(tactic| refine ⟨_, _, rfl, SqT.of (by walk_at "now"), rfl, _, _, rfl, _, _, rfl, _, _, rfl, _, _, rfl, rfl, ?_⟩)
local macro_rules | `(tactic| walk_at "un6") => `(tactic| refine ⟨_, _, rfl, SqT.of (by walk_at "now"), rfl, _, _, rfl, _, _, rfl, _, _, rfl, _, _, rfl, _, _, rfl, _, _, rfl, rfl, ?_⟩)
local macro_rules | `(tactic| walk_at "un9") => `(tactic| refine ⟨_, _, rfl, SqT.of (by walk_at "now"), rfl, _, _, rfl, _, _, rfl, _, _, rfl, _, _, rfl, _, _, rfl, _, _, rfl, _, _, rfl, _, _, rfl, _, _, rfl, rfl, ?_⟩)
local macro_rules | `(tactic| walk_at "go") => `(tactic| repeat (first | walk_at "v" | walk_at "eq" | walk_at "ix" | walk_at "str" | walk_at "ty" | walk_at "num"))

theorem pst_setT {X : Cx} {i : Nat} {x : Str} {e : Expr} {te : TE} {pos pos' : Pos} (hN : X.N.Nodup) (hi : X.N[i]? = some x) (hx : X.env.scope.names.lookup x = some .local) (he : PET X e te) (hs : swapsWith e (some (.Name x pos')) pos.line X.env = pure false := by rfl) :
    PST X (.Assign [.Name x pos'] e pos) (tAsg te (gName i)) := by
  intro pins s σ H D h0 I h
  refine wpAny_Assign_Name (thn (he pins s σ H _ h0 I h) fun v s1 ⟨y, H1, I1, r1, q1⟩ => ?_) hs
  exact store_ok I1 hN hi (.inl hx) r1 (fun s2 I2 => ⟨_, H1, I2, q1⟩) (.inr hx)
theorem csg_at : ∀ (j : Nat) (c : Str), CSG[j]? = some c → ∃ d, tl c = [d] ∧ d ∈ CS ∧ CS.drop j = d :: CS.drop (j + 1) ∧ d ∉ CS.drop (j + 1) := by
  intro j c h
  have hj : j < 8 := (List.getElem?_eq_some_iff.mp h).1
  have : ∀ j < 8, ∀ c, CSG[j]? = some c → (match tl c with | [d] => decide (d ∈ CS ∧ CS.drop j = d :: CS.drop (j + 1) ∧ d ∉ CS.drop (j + 1)) | _ => false) = true := by
    intro j hj
    match j, hj with
    | 0, _ | 1, _ | 2, _ | 3, _ | 4, _ | 5, _ | 6, _ | 7, _ => intro c h; cases h; decide +kernel
  have := this j hj c h
  match e : tl c, this with
  | [d], h => exact ⟨d, rfl, of_decide_eq_true h⟩
section
variable {P : Program} {w : World} {K : PySem.W.Frag} {mg : Str → Option Value} {base : Heap} {k : Nat}
abbrev s__law_spread : Stmt := top 84
abbrev n__law_spread : List Str := ["_law_state_here", "_law_lines_here", "_law_text", "_law_line", "_law_sign"]
theorem sc__law_spread : FnScope n__law_spread ["_law_state_here", "_law_lines_here"] (defScope s__law_spread) := ⟨rfl, rfl, rfl, by decide +kernel, rfl, by decide +kernel, by decide +kernel⟩
/- slots: 0 _law_state_here, 1 _law_lines_here, 2 _law_text, 3 _law_line, 4 _law_sign -/
theorem ok__law_spread (B : Bt mg) (h : Has K mg "_law_spread" s__law_spread ["_law_state_here", "_law_lines_here"]) (c1 : Ok P w K mg base k "_law_draw" ["_law_state_here", "_law_many"] spDraw) (c2 : Ok P w K mg base k "_law_pick" ["_law_state_here", "_law_row"] spPick) :
    Ok P w K mg base (k + 1) "_law_spread" ["_law_state_here", "_law_lines_here"] spSpread := by
  obtain ⟨_, _, G__law_draw, m__law_draw, k__law_draw, b__law_draw⟩ := c1.ex
  obtain ⟨_, _, G__law_pick, m__law_pick, k__law_pick, b__law_pick⟩ := c2.ex
  refine h.ok sc__law_spread (fun vs H Q E h => ?_) (fun f0 cdv A outer s H vs Q E hr h => ?_)
  · obtain ⟨_, _, _, _, _, rfl, _⟩ := h; rfl
  obtain ⟨st, c, ll, lines, ts, rfl, g, hll, lln, hlx, hsm, q⟩ := h
  refine ⟨_, pss_str (i := 2) sc__law_spread.nd rfl (Or.inl rfl)
    (psst_cons (pst_forT PassesOwn.never rfl (PIT.of (pi_list (pv 1))) (pg_name (i := 3) sc__law_spread.nd rfl (Or.inl rfl))
      (psst_cons (pst_forV (i := 4) (cs := CSG) (.cons _ _ _ (.cons _ _ _ (.cons _ _ _ (.cons _ _ _ (.cons _ _ _ (.cons _ _ _ (.cons _ _ _ (.cons _ _ _ .nil)))))))) (by decide) PassesOwn.never rfl sc__law_spread.nd rfl rfl
          (psv_if (iL := 3) (pev_call (i := 0) G__law_draw hr (by rfl) m__law_draw k__law_draw b__law_draw pass0 rfl rfl)
            (pev_rep (iL := 3) (iS := 4) rfl rfl rfl rfl (pez_addL (pez_add (pe_call G__law_pick hr (by rfl) m__law_pick k__law_pick b__law_pick .nil pass0 (pa_cons (pv 0) (pa_cons (pe_lstS (pa_cons pe_str (pa_cons pe_str (pa_cons pe_str pa_nil)))) pa_nil))) (pv 4)) (pe_call G__law_pick hr (by rfl) m__law_pick k__law_pick b__law_pick .nil pass0 (pa_cons (pv 0) (pa_cons (pe_lstS (pa_cons pe_str (pa_cons pe_str (pa_cons pe_str pa_nil)))) pa_nil)))))
            sc__law_spread.nd rfl rfl))
      (psst_cons (CwR.pst_if (pt_cmpR op_eq (pe_call G__law_draw hr (by rfl) m__law_draw k__law_draw b__law_draw .nil pass0 (pa_cons (pv 0) (pa_cons pe_int pa_nil))) pe_int (nomark _))
          (CwR.psst_one (pst_setT (i := 3) sc__law_spread.nd rfl rfl (CwR.pet_replC (pv 3) (by decide +kernel)))) CwR.psst_nil)
      (PSsT.of (pss_one (ps_set (i := 2) sc__law_spread.nd rfl (Or.inl rfl) (pe_op op_add_str (pe_op op_add_str (pv 2) (pv 3)) (pe_call G__law_pick hr (by rfl) m__law_pick k__law_pick b__law_pick .nil pass0 (pa_cons (pv 0) (pa_cons (pe_lstS (pa_cons pe_str (pa_cons pe_str (pa_cons pe_str (pa_cons pe_str pa_nil))))) pa_nil))))))))))
    (PSsT.of (pss_one (ps_ret (pv 2))))), ?_⟩
  obtain ⟨qs, eq1, eq2, hqs⟩ := hlx.get
  refine ⟨_, rfl, ll, rfl, ⟨_, SqL.of hll⟩, for_list (K := K) (a := ll) (xs := lines.map V.str) (fun i σ' H' => ∃ (t : Str) (x y : Option V), σ' = [some (.ref st), some (.ref ll), some (.str t), x, y] ∧ Cl (tl t) ((qs.take i).flatten) ∧ t.length ≤ i * 8407 ∧ Kp [st, c] H H' ∧ Gs st c H')
    ⟨"", _, _, rfl, by rw [show tl (Str.ofString "") = [] from by decide +kernel]; exact Cl.nil, by decide +kernel, Kp.refl, g⟩ (fun i σ' H' _ ⟨_, _, _, _, _, _, k, _⟩ => SqL.of (k _ _ lln hll)) ?_ ?_⟩
  · rintro i x σ' H1 hi ⟨t, x0, y0, rfl, ht, tlen, k1, g1⟩
    obtain ⟨l, hl, hat⟩ := (AtL.strs (H := H1) (ss := lines)).getM hi
    obtain rfl := hat.str_inv
    obtain ⟨qi, hqi, hlex⟩ := hqs i l hl
    have hil := (List.getElem?_eq_some_iff.mp hl).1
    have hl6 := hsm.short l (List.mem_of_getElem? hl)
    have hfew := hsm.few
    have hi7 : i * 8407 ≤ 1576 * 8407 := Nat.mul_le_mul_right _ (by omega)
    have w0 : wt (CS.drop 0) (tl l) ≤ 4200 := Nat.le_trans (wt_le _ _) (by rw [← len_tl]; omega)
    refine ⟨fun j σ' H' => ∃ (l' : Str) (y : Option V), σ' = [some (.ref st), some (.ref ll), some (.str t), some (.str l'), y] ∧ Lex (tl l') qi ∧ wt (CS.drop j) (tl l') ≤ 4200 ∧ Kp [st, c] H H' ∧ Gs st c H', ⟨l, _, rfl, hlex, w0, k1, g1⟩, ?_⟩
    rintro j σ' H2 ⟨l2, y2, rfl, lx2, wt2, k2, g2⟩
    refine ⟨fun hj => ?_, fun sg hsg => ?_⟩
    · -- all signs are done
      rw [hj] at wt2
      have len2 : l2.length ≤ 4200 := by
        have e : CS.drop CSG.length = [] := by decide
        rw [e, wt_nil, ← len_tl] at wt2
        exact wt2
      have fin : ∀ (l3 : Str) (H3 : Hp), Lex (tl l3) qi → l3.length ≤ 8400 → Kp [st, c] H H3 → Gs st c H3 → ∀ D : Ends, (∀ (t' : Str) (H5 : Hp), Cl (tl t') ((qs.take (i + 1)).flatten) → t'.length ≤ (i + 1) * 8407 → Kp [st, c] H H5 → Gs st c H5 → D.nx [some (.ref st), some (.ref ll), some (.str t'), some (.str l3), y2] H5) →
          tAsg (tOp (fun x y H Q => ∃ i j, x = .str i ∧ y = .str j ∧ i.length + j.length ≤ sizeLine ∧ Q (.str (i ++ j)) H) (tOp (fun x y H Q => ∃ i j, x = .str i ∧ y = .str j ∧ i.length + j.length ≤ sizeLine ∧ Q (.str (i ++ j)) H) (tVar 2) (tVar 3)) (tCall spPick [] E0 (tCons (tVar 0) (tCons (tLstS (tCons (tC (.str "\n")) (tCons (tC (.str " ")) (tCons (tC (.str " # end\n")) (tCons (tC (.str "\n\n")) tNil))))) tNil)))) (gName 2) D [some (.ref st), some (.ref ll), some (.str t), some (.str l3), y2] H3 := by
        intro l3 H3 lx3 len3 k3 g3 D hD
        refine ⟨_, rfl, _, rfl, _, _, rfl, rfl, sz (by omega), _, rfl, by walk_at "le", fun p H4 hp s4 e4 => ⟨st, c, p, _, rfl, g3.same s4, e4, g3.nin hp, by simp, by simp, fun ii xx H5 hx k5 g5 => ?_⟩⟩
        obtain ⟨e, he, hat⟩ := (AtL.strs (H := H5) (ss := ENDS)).getM hx
        obtain rfl := hat.str_inv
        have hem := List.mem_of_getElem? he
        have hel := (end_cl e hem).2.2
        refine ⟨_, _, rfl, rfl, sz (by rw [al]; omega), hD _ H5 ?_ ?_ ((k3.trans (Kp.same s4)).trans k5) g5⟩
        · rw [take_s hqi, List.flatten_append]
          have := text_more ht lx3 hem
          simpa using this
        · rw [al, al, Nat.succ_mul]; omega
      refine ⟨_, rfl, st, c, 4, rfl, g2, by decide, by decide, fun n3 H3 n30 n31 k3 g3 => ⟨rfl, _, rfl, ?_⟩⟩
      have k03 := k2.trans k3
      by_cases h0 : V.int n3 = V.int 0
      · obtain ⟨sp1, sp2⟩ := spread_sp lx2
        have e1 : (Str.ofString "  ").length = 2 := by decide +kernel
        refine ifE h0 ⟨_, rfl, l2, rfl, by rw [e1]; omega, ?_⟩
        exact fin _ H3 sp1 (by omega) k03 g3 _ fun t' H5 c5 l5 k5 g5 => ⟨t', _, _, rfl, c5, l5, k5, g5⟩
      · refine ifN h0 ?_
        exact fin l2 H3 lx2 (by omega) k03 g3 _ fun t' H5 c5 l5 k5 g5 => ⟨t', _, _, rfl, c5, l5, k5, g5⟩
    · obtain ⟨dg, ed, dCS, drp, dno⟩ := csg_at j sg hsg
      have wless : wt (CS.drop (j + 1)) (tl l2) ≤ 4200 := Nat.le_trans (wt_less (fun x hx => by rw [drp]; exact List.mem_cons_of_mem _ hx) _) wt2
      have l2len : l2.length ≤ 4200 := Nat.le_trans (by rw [len_tl]; exact wt_ge _ _) wt2
      have sgl : sg.length = 1 := by rw [len_tl, ed]; rfl
      refine ⟨_, rfl, st, c, 9, rfl, g2, by decide, by decide, fun n3 H3 n30 n31 k3 g3 => ⟨n3, rfl, ?_⟩⟩
      have k03 := k2.trans k3
      cases hz : (n3 == 0) with
      | false => exact iteF ⟨l2, _, rfl, lx2, wless, k03, g3⟩
      | true =>
        refine iteT ⟨l2, sg, rfl, rfl, _, rfl, by walk_at "le", fun p H4 hp s4 e4 => ⟨st, c, p, _, rfl, g3.same s4, e4, g3.nin hp, by simp, by simp, fun ii xx H5 hx k5 g5 => ?_⟩⟩
        obtain ⟨pr, hpr, hat⟩ := (AtL.strs (H := H5) (ss := PRE)).getM hx
        obtain rfl := hat.str_inv
        have hpm := List.mem_of_getElem? hpr
        have hpl := (pre_cl pr hpm).2.2
        have hpn : (pr.length == 0) = false := by
          have : ∀ p ∈ PRE, (p.length == 0) = false := by decide +kernel
          exact this pr hpm
        refine ⟨_, rfl, pr, sg, rfl, rfl, hpn, fun _ => by rw [sgl]; rfl, sz (by omega), ?_⟩
        refine ⟨_, rfl, by walk_at "le", fun p6 H6 hp6 s6 e6 => ⟨st, c, p6, _, rfl, g5.same s6, e6, g5.nin hp6, by simp, by simp, fun ii2 xx2 H7 hx2 k7 g7 => ?_⟩⟩
        obtain ⟨po, hpo, hat⟩ := (AtL.strs (H := H7) (ss := POST)).getM hx2
        obtain rfl := hat.str_inv
        have hom := List.mem_of_getElem? hpo
        have hol := (post_cl po hom).2
        have zl : (pr ++ sg ++ po).length ≤ 7 := by rw [al, al]; omega
        have k07 := (((k03.trans (Kp.same s4)).trans k5).trans (Kp.same s6)).trans k7
        obtain ⟨sp1, sp2⟩ := spread_one (R := CS.drop (j + 1)) (p := pr) (q := po) ed dCS dno (fun d hd => List.mem_of_mem_drop hd) hpm hom lx2
        rw [← drp] at sp2
        have prl : 1 ≤ pr.length := by
          rcases Nat.eq_zero_or_pos pr.length with h | h
          · rw [h] at hpn; cases hpn
          · exact h
        refine ⟨pr ++ sg, po, rfl, rfl, beq_eq_false_iff_ne.mpr (by rw [al]; omega), (fun h => by cases h), sz (by rw [al]; omega), pr ++ sg ++ po, rfl, ?_, ?_, ⟨l2, _, rfl, lx2, wless, k07, g7⟩, ⟨_, _, rfl, sp1, Nat.le_trans sp2 wt2, k07, g7⟩⟩
        · refine beq_eq_false_iff_ne.mpr fun e => ?_
          have := congrArg Str.length e
          rw [al, al] at this
          omega
        · have : (l2.length + 1) * (pr ++ sg ++ po).length ≤ (l2.length + 1) * 7 := Nat.mul_le_mul_left _ zl
          omega
  · rintro σ' H1 ⟨t, x0, y0, rfl, ht, tlen, k1, g1⟩
    rw [List.length_map, ← eq2, List.take_length, eq1] at ht
    rw [List.length_map] at tlen
    have hfew := hsm.few
    have : lines.length * 8407 ≤ 1576 * 8407 := Nat.mul_le_mul_right _ hfew
    exact ⟨_, rfl, q t H1 k1 g1 ht.lex (by omega)⟩
end
end WP
namespace WP
open PySem PySem.Spec PyProof.Rows L2
abbrev s_hex_value : Stmt := top 13
abbrev s_Reader_fail : Stmt := inClass (top 24) 3
section
variable {K : PySem.W.Frag} {h : Heap} {mg : Str → Option Value}
theorem has__law_state {f : Addr} {od an : Option Addr} {sl : Array (Option Value)} {oc kV dc pm cd ct : Value} (X : K.In h) (G : h.Ns mainGlobals mg) (a : PySem.W.nsIn K mainGlobals "_law_state" = some (some (.ref f))) (l : K.lookup f = some ⟨oc, od, .func (PySem.W.fnOf "_law_state" "_law_state" (defArgs s__law_state) (defBody s__law_state) (defScope s__law_state) .none kV dc pm an cd ct), sl⟩) (c : PySem.W.codeIn K cd "_law_state" = true) (k : PySem.W.keepIn K (.ref f) = true) : Has K mg "_law_state" s__law_state ["_law_script"] :=
  ⟨f, _, fun_mk (st := s__law_state) l c k, PySem.W.mg_of X G a, (fun_mk (st := s__law_state) l c k).binds (ps := ["_law_script"]) fun _ _ _ _ _ _ us hl => match us, hl with | [_], _ => rfl⟩
theorem has__law_draw {f : Addr} {od an : Option Addr} {sl : Array (Option Value)} {oc kV dc pm cd ct : Value} (X : K.In h) (G : h.Ns mainGlobals mg) (a : PySem.W.nsIn K mainGlobals "_law_draw" = some (some (.ref f))) (l : K.lookup f = some ⟨oc, od, .func (PySem.W.fnOf "_law_draw" "_law_draw" (defArgs s__law_draw) (defBody s__law_draw) (defScope s__law_draw) .none kV dc pm an cd ct), sl⟩) (c : PySem.W.codeIn K cd "_law_draw" = true) (k : PySem.W.keepIn K (.ref f) = true) : Has K mg "_law_draw" s__law_draw ["_law_state_here", "_law_many"] :=
  ⟨f, _, fun_mk (st := s__law_draw) l c k, PySem.W.mg_of X G a, (fun_mk (st := s__law_draw) l c k).binds (ps := ["_law_state_here", "_law_many"]) fun _ _ _ _ _ _ us hl => match us, hl with | [_, _], _ => rfl⟩
theorem has__law_pick {f : Addr} {od an : Option Addr} {sl : Array (Option Value)} {oc kV dc pm cd ct : Value} (X : K.In h) (G : h.Ns mainGlobals mg) (a : PySem.W.nsIn K mainGlobals "_law_pick" = some (some (.ref f))) (l : K.lookup f = some ⟨oc, od, .func (PySem.W.fnOf "_law_pick" "_law_pick" (defArgs s__law_pick) (defBody s__law_pick) (defScope s__law_pick) .none kV dc pm an cd ct), sl⟩) (c : PySem.W.codeIn K cd "_law_pick" = true) (k : PySem.W.keepIn K (.ref f) = true) : Has K mg "_law_pick" s__law_pick ["_law_state_here", "_law_row"] :=
  ⟨f, _, fun_mk (st := s__law_pick) l c k, PySem.W.mg_of X G a, (fun_mk (st := s__law_pick) l c k).binds (ps := ["_law_state_here", "_law_row"]) fun _ _ _ _ _ _ us hl => match us, hl with | [_, _], _ => rfl⟩
theorem has__law_actions {f : Addr} {od an : Option Addr} {sl : Array (Option Value)} {oc kV dc pm cd ct : Value} (X : K.In h) (G : h.Ns mainGlobals mg) (a : PySem.W.nsIn K mainGlobals "_law_actions" = some (some (.ref f))) (l : K.lookup f = some ⟨oc, od, .func (PySem.W.fnOf "_law_actions" "_law_actions" (defArgs s__law_actions) (defBody s__law_actions) (defScope s__law_actions) .none kV dc pm an cd ct), sl⟩) (c : PySem.W.codeIn K cd "_law_actions" = true) (k : PySem.W.keepIn K (.ref f) = true) : Has K mg "_law_actions" s__law_actions ["_law_state_here", "_law_headers_here", "_law_refs_here"] :=
  ⟨f, _, fun_mk (st := s__law_actions) l c k, PySem.W.mg_of X G a, (fun_mk (st := s__law_actions) l c k).binds (ps := ["_law_state_here", "_law_headers_here", "_law_refs_here"]) fun _ _ _ _ _ _ us hl => match us, hl with | [_, _, _], _ => rfl⟩
theorem has__law_args {f : Addr} {od an : Option Addr} {sl : Array (Option Value)} {oc kV dc pm cd ct : Value} (X : K.In h) (G : h.Ns mainGlobals mg) (a : PySem.W.nsIn K mainGlobals "_law_args" = some (some (.ref f))) (l : K.lookup f = some ⟨oc, od, .func (PySem.W.fnOf "_law_args" "_law_args" (defArgs s__law_args) (defBody s__law_args) (defScope s__law_args) .none kV dc pm an cd ct), sl⟩) (c : PySem.W.codeIn K cd "_law_args" = true) (k : PySem.W.keepIn K (.ref f) = true) : Has K mg "_law_args" s__law_args ["_law_state_here", "_law_actions_here", "_law_name_here"] :=
  ⟨f, _, fun_mk (st := s__law_args) l c k, PySem.W.mg_of X G a, (fun_mk (st := s__law_args) l c k).binds (ps := ["_law_state_here", "_law_actions_here", "_law_name_here"]) fun _ _ _ _ _ _ us hl => match us, hl with | [_, _, _], _ => rfl⟩
theorem has__law_table {f : Addr} {od an : Option Addr} {sl : Array (Option Value)} {oc kV dc pm cd ct : Value} (X : K.In h) (G : h.Ns mainGlobals mg) (a : PySem.W.nsIn K mainGlobals "_law_table" = some (some (.ref f))) (l : K.lookup f = some ⟨oc, od, .func (PySem.W.fnOf "_law_table" "_law_table" (defArgs s__law_table) (defBody s__law_table) (defScope s__law_table) .none kV dc pm an cd ct), sl⟩) (c : PySem.W.codeIn K cd "_law_table" = true) (k : PySem.W.keepIn K (.ref f) = true) : Has K mg "_law_table" s__law_table ["_law_state_here", "_law_k", "_law_actions_here", "_law_refs_here"] :=
  ⟨f, _, fun_mk (st := s__law_table) l c k, PySem.W.mg_of X G a, (fun_mk (st := s__law_table) l c k).binds (ps := ["_law_state_here", "_law_k", "_law_actions_here", "_law_refs_here"]) fun _ _ _ _ _ _ us hl => match us, hl with | [_, _, _, _], _ => rfl⟩
theorem has__law_test {f : Addr} {od an : Option Addr} {sl : Array (Option Value)} {oc kV dc pm cd ct : Value} (X : K.In h) (G : h.Ns mainGlobals mg) (a : PySem.W.nsIn K mainGlobals "_law_test" = some (some (.ref f))) (l : K.lookup f = some ⟨oc, od, .func (PySem.W.fnOf "_law_test" "_law_test" (defArgs s__law_test) (defBody s__law_test) (defScope s__law_test) .none kV dc pm an cd ct), sl⟩) (c : PySem.W.codeIn K cd "_law_test" = true) (k : PySem.W.keepIn K (.ref f) = true) : Has K mg "_law_test" s__law_test ["_law_state_here", "_law_headers_here", "_law_refs_here", "_law_deep"] :=
  ⟨f, _, fun_mk (st := s__law_test) l c k, PySem.W.mg_of X G a, (fun_mk (st := s__law_test) l c k).binds (ps := ["_law_state_here", "_law_headers_here", "_law_refs_here", "_law_deep"]) fun _ _ _ _ _ _ us hl => match us, hl with | [_, _, _, _], _ => rfl⟩
theorem has__law_control {f : Addr} {od an : Option Addr} {sl : Array (Option Value)} {oc kV dc pm cd ct : Value} (X : K.In h) (G : h.Ns mainGlobals mg) (a : PySem.W.nsIn K mainGlobals "_law_control" = some (some (.ref f))) (l : K.lookup f = some ⟨oc, od, .func (PySem.W.fnOf "_law_control" "_law_control" (defArgs s__law_control) (defBody s__law_control) (defScope s__law_control) .none kV dc pm an cd ct), sl⟩) (c : PySem.W.codeIn K cd "_law_control" = true) (k : PySem.W.keepIn K (.ref f) = true) : Has K mg "_law_control" s__law_control ["_law_state_here", "_law_headers_here", "_law_refs_here", "_law_names", "_law_nested", "_law_left"] :=
  ⟨f, _, fun_mk (st := s__law_control) l c k, PySem.W.mg_of X G a, (fun_mk (st := s__law_control) l c k).binds (ps := ["_law_state_here", "_law_headers_here", "_law_refs_here", "_law_names", "_law_nested", "_law_left"]) fun _ _ _ _ _ _ us hl => match us, hl with | [_, _, _, _, _, _], _ => rfl⟩
theorem has__law_program {f : Addr} {od an : Option Addr} {sl : Array (Option Value)} {oc kV dc pm cd ct : Value} (X : K.In h) (G : h.Ns mainGlobals mg) (a : PySem.W.nsIn K mainGlobals "_law_program" = some (some (.ref f))) (l : K.lookup f = some ⟨oc, od, .func (PySem.W.fnOf "_law_program" "_law_program" (defArgs s__law_program) (defBody s__law_program) (defScope s__law_program) .none kV dc pm an cd ct), sl⟩) (c : PySem.W.codeIn K cd "_law_program" = true) (k : PySem.W.keepIn K (.ref f) = true) : Has K mg "_law_program" s__law_program ["_law_state_here"] :=
  ⟨f, _, fun_mk (st := s__law_program) l c k, PySem.W.mg_of X G a, (fun_mk (st := s__law_program) l c k).binds (ps := ["_law_state_here"]) fun _ _ _ _ _ _ us hl => match us, hl with | [_], _ => rfl⟩
theorem has__law_name {f : Addr} {od an : Option Addr} {sl : Array (Option Value)} {oc kV dc pm cd ct : Value} (X : K.In h) (G : h.Ns mainGlobals mg) (a : PySem.W.nsIn K mainGlobals "_law_name" = some (some (.ref f))) (l : K.lookup f = some ⟨oc, od, .func (PySem.W.fnOf "_law_name" "_law_name" (defArgs s__law_name) (defBody s__law_name) (defScope s__law_name) .none kV dc pm an cd ct), sl⟩) (c : PySem.W.codeIn K cd "_law_name" = true) (k : PySem.W.keepIn K (.ref f) = true) : Has K mg "_law_name" s__law_name ["_law_state_here", "_law_k"] :=
  ⟨f, _, fun_mk (st := s__law_name) l c k, PySem.W.mg_of X G a, (fun_mk (st := s__law_name) l c k).binds (ps := ["_law_state_here", "_law_k"]) fun _ _ _ _ _ _ us hl => match us, hl with | [_, _], _ => rfl⟩
theorem has__law_fields {f : Addr} {od an : Option Addr} {sl : Array (Option Value)} {oc kV dc pm cd ct : Value} (X : K.In h) (G : h.Ns mainGlobals mg) (a : PySem.W.nsIn K mainGlobals "_law_fields" = some (some (.ref f))) (l : K.lookup f = some ⟨oc, od, .func (PySem.W.fnOf "_law_fields" "_law_fields" (defArgs s__law_fields) (defBody s__law_fields) (defScope s__law_fields) .none kV dc pm an cd ct), sl⟩) (c : PySem.W.codeIn K cd "_law_fields" = true) (k : PySem.W.keepIn K (.ref f) = true) : Has K mg "_law_fields" s__law_fields ["_law_state_here", "_law_bits"] :=
  ⟨f, _, fun_mk (st := s__law_fields) l c k, PySem.W.mg_of X G a, (fun_mk (st := s__law_fields) l c k).binds (ps := ["_law_state_here", "_law_bits"]) fun _ _ _ _ _ _ us hl => match us, hl with | [_, _], _ => rfl⟩
theorem has__law_headers {f : Addr} {od an : Option Addr} {sl : Array (Option Value)} {oc kV dc pm cd ct : Value} (X : K.In h) (G : h.Ns mainGlobals mg) (a : PySem.W.nsIn K mainGlobals "_law_headers" = some (some (.ref f))) (l : K.lookup f = some ⟨oc, od, .func (PySem.W.fnOf "_law_headers" "_law_headers" (defArgs s__law_headers) (defBody s__law_headers) (defScope s__law_headers) .none kV dc pm an cd ct), sl⟩) (c : PySem.W.codeIn K cd "_law_headers" = true) (k : PySem.W.keepIn K (.ref f) = true) : Has K mg "_law_headers" s__law_headers ["_law_state_here"] :=
  ⟨f, _, fun_mk (st := s__law_headers) l c k, PySem.W.mg_of X G a, (fun_mk (st := s__law_headers) l c k).binds (ps := ["_law_state_here"]) fun _ _ _ _ _ _ us hl => match us, hl with | [_], _ => rfl⟩
theorem has__law_refs {f : Addr} {od an : Option Addr} {sl : Array (Option Value)} {oc kV dc pm cd ct : Value} (X : K.In h) (G : h.Ns mainGlobals mg) (a : PySem.W.nsIn K mainGlobals "_law_refs" = some (some (.ref f))) (l : K.lookup f = some ⟨oc, od, .func (PySem.W.fnOf "_law_refs" "_law_refs" (defArgs s__law_refs) (defBody s__law_refs) (defScope s__law_refs) .none kV dc pm an cd ct), sl⟩) (c : PySem.W.codeIn K cd "_law_refs" = true) (k : PySem.W.keepIn K (.ref f) = true) : Has K mg "_law_refs" s__law_refs ["_law_headers_here", "_law_meta"] :=
  ⟨f, _, fun_mk (st := s__law_refs) l c k, PySem.W.mg_of X G a, (fun_mk (st := s__law_refs) l c k).binds (ps := ["_law_headers_here", "_law_meta"]) fun _ _ _ _ _ _ us hl => match us, hl with | [_, _], _ => rfl⟩
theorem has__law_goal {f : Addr} {od an : Option Addr} {sl : Array (Option Value)} {oc kV dc pm cd ct : Value} (X : K.In h) (G : h.Ns mainGlobals mg) (a : PySem.W.nsIn K mainGlobals "_law_goal" = some (some (.ref f))) (l : K.lookup f = some ⟨oc, od, .func (PySem.W.fnOf "_law_goal" "_law_goal" (defArgs s__law_goal) (defBody s__law_goal) (defScope s__law_goal) .none kV dc pm an cd ct), sl⟩) (c : PySem.W.codeIn K cd "_law_goal" = true) (k : PySem.W.keepIn K (.ref f) = true) : Has K mg "_law_goal" s__law_goal ["_law_state_here", "_law_names"] :=
  ⟨f, _, fun_mk (st := s__law_goal) l c k, PySem.W.mg_of X G a, (fun_mk (st := s__law_goal) l c k).binds (ps := ["_law_state_here", "_law_names"]) fun _ _ _ _ _ _ us hl => match us, hl with | [_, _], _ => rfl⟩
theorem has__law_select {f : Addr} {od an : Option Addr} {sl : Array (Option Value)} {oc kV dc pm cd ct : Value} (X : K.In h) (G : h.Ns mainGlobals mg) (a : PySem.W.nsIn K mainGlobals "_law_select" = some (some (.ref f))) (l : K.lookup f = some ⟨oc, od, .func (PySem.W.fnOf "_law_select" "_law_select" (defArgs s__law_select) (defBody s__law_select) (defScope s__law_select) .none kV dc pm an cd ct), sl⟩) (c : PySem.W.codeIn K cd "_law_select" = true) (k : PySem.W.keepIn K (.ref f) = true) : Has K mg "_law_select" s__law_select ["_law_state_here", "_law_refs_here", "_law_names"] :=
  ⟨f, _, fun_mk (st := s__law_select) l c k, PySem.W.mg_of X G a, (fun_mk (st := s__law_select) l c k).binds (ps := ["_law_state_here", "_law_refs_here", "_law_names"]) fun _ _ _ _ _ _ us hl => match us, hl with | [_, _, _], _ => rfl⟩
theorem has__law_states {f : Addr} {od an : Option Addr} {sl : Array (Option Value)} {oc kV dc pm cd ct : Value} (X : K.In h) (G : h.Ns mainGlobals mg) (a : PySem.W.nsIn K mainGlobals "_law_states" = some (some (.ref f))) (l : K.lookup f = some ⟨oc, od, .func (PySem.W.fnOf "_law_states" "_law_states" (defArgs s__law_states) (defBody s__law_states) (defScope s__law_states) .none kV dc pm an cd ct), sl⟩) (c : PySem.W.codeIn K cd "_law_states" = true) (k : PySem.W.keepIn K (.ref f) = true) : Has K mg "_law_states" s__law_states ["_law_state_here", "_law_headers_here"] :=
  ⟨f, _, fun_mk (st := s__law_states) l c k, PySem.W.mg_of X G a, (fun_mk (st := s__law_states) l c k).binds (ps := ["_law_state_here", "_law_headers_here"]) fun _ _ _ _ _ _ us hl => match us, hl with | [_, _], _ => rfl⟩
theorem has__law_operand {f : Addr} {od an : Option Addr} {sl : Array (Option Value)} {oc kV dc pm cd ct : Value} (X : K.In h) (G : h.Ns mainGlobals mg) (a : PySem.W.nsIn K mainGlobals "_law_operand" = some (some (.ref f))) (l : K.lookup f = some ⟨oc, od, .func (PySem.W.fnOf "_law_operand" "_law_operand" (defArgs s__law_operand) (defBody s__law_operand) (defScope s__law_operand) .none kV dc pm an cd ct), sl⟩) (c : PySem.W.codeIn K cd "_law_operand" = true) (k : PySem.W.keepIn K (.ref f) = true) : Has K mg "_law_operand" s__law_operand ["_law_state_here", "_law_refs_here", "_law_params"] :=
  ⟨f, _, fun_mk (st := s__law_operand) l c k, PySem.W.mg_of X G a, (fun_mk (st := s__law_operand) l c k).binds (ps := ["_law_state_here", "_law_refs_here", "_law_params"]) fun _ _ _ _ _ _ us hl => match us, hl with | [_, _, _], _ => rfl⟩
theorem has__law_expression {f : Addr} {od an : Option Addr} {sl : Array (Option Value)} {oc kV dc pm cd ct : Value} (X : K.In h) (G : h.Ns mainGlobals mg) (a : PySem.W.nsIn K mainGlobals "_law_expression" = some (some (.ref f))) (l : K.lookup f = some ⟨oc, od, .func (PySem.W.fnOf "_law_expression" "_law_expression" (defArgs s__law_expression) (defBody s__law_expression) (defScope s__law_expression) .none kV dc pm an cd ct), sl⟩) (c : PySem.W.codeIn K cd "_law_expression" = true) (k : PySem.W.keepIn K (.ref f) = true) : Has K mg "_law_expression" s__law_expression ["_law_state_here", "_law_refs_here", "_law_params"] :=
  ⟨f, _, fun_mk (st := s__law_expression) l c k, PySem.W.mg_of X G a, (fun_mk (st := s__law_expression) l c k).binds (ps := ["_law_state_here", "_law_refs_here", "_law_params"]) fun _ _ _ _ _ _ us hl => match us, hl with | [_, _, _], _ => rfl⟩
theorem has__law_operation {f : Addr} {od an : Option Addr} {sl : Array (Option Value)} {oc kV dc pm cd ct : Value} (X : K.In h) (G : h.Ns mainGlobals mg) (a : PySem.W.nsIn K mainGlobals "_law_operation" = some (some (.ref f))) (l : K.lookup f = some ⟨oc, od, .func (PySem.W.fnOf "_law_operation" "_law_operation" (defArgs s__law_operation) (defBody s__law_operation) (defScope s__law_operation) .none kV dc pm an cd ct), sl⟩) (c : PySem.W.codeIn K cd "_law_operation" = true) (k : PySem.W.keepIn K (.ref f) = true) : Has K mg "_law_operation" s__law_operation ["_law_state_here", "_law_headers_here", "_law_refs_here", "_law_params"] :=
  ⟨f, _, fun_mk (st := s__law_operation) l c k, PySem.W.mg_of X G a, (fun_mk (st := s__law_operation) l c k).binds (ps := ["_law_state_here", "_law_headers_here", "_law_refs_here", "_law_params"]) fun _ _ _ _ _ _ us hl => match us, hl with | [_, _, _, _], _ => rfl⟩
theorem has__law_field_text {f : Addr} {od an : Option Addr} {sl : Array (Option Value)} {oc kV dc pm cd ct : Value} (X : K.In h) (G : h.Ns mainGlobals mg) (a : PySem.W.nsIn K mainGlobals "_law_field_text" = some (some (.ref f))) (l : K.lookup f = some ⟨oc, od, .func (PySem.W.fnOf "_law_field_text" "_law_field_text" (defArgs s__law_field_text) (defBody s__law_field_text) (defScope s__law_field_text) .none kV dc pm an cd ct), sl⟩) (c : PySem.W.codeIn K cd "_law_field_text" = true) (k : PySem.W.keepIn K (.ref f) = true) : Has K mg "_law_field_text" s__law_field_text ["_law_field"] :=
  ⟨f, _, fun_mk (st := s__law_field_text) l c k, PySem.W.mg_of X G a, (fun_mk (st := s__law_field_text) l c k).binds (ps := ["_law_field"]) fun _ _ _ _ _ _ us hl => match us, hl with | [_], _ => rfl⟩
theorem has__law_expression_text {f : Addr} {od an : Option Addr} {sl : Array (Option Value)} {oc kV dc pm cd ct : Value} (X : K.In h) (G : h.Ns mainGlobals mg) (a : PySem.W.nsIn K mainGlobals "_law_expression_text" = some (some (.ref f))) (l : K.lookup f = some ⟨oc, od, .func (PySem.W.fnOf "_law_expression_text" "_law_expression_text" (defArgs s__law_expression_text) (defBody s__law_expression_text) (defScope s__law_expression_text) .none kV dc pm an cd ct), sl⟩) (c : PySem.W.codeIn K cd "_law_expression_text" = true) (k : PySem.W.keepIn K (.ref f) = true) : Has K mg "_law_expression_text" s__law_expression_text ["_law_e"] :=
  ⟨f, _, fun_mk (st := s__law_expression_text) l c k, PySem.W.mg_of X G a, (fun_mk (st := s__law_expression_text) l c k).binds (ps := ["_law_e"]) fun _ _ _ _ _ _ us hl => match us, hl with | [_], _ => rfl⟩
theorem has__law_op_text {f : Addr} {od an : Option Addr} {sl : Array (Option Value)} {oc kV dc pm cd ct : Value} (X : K.In h) (G : h.Ns mainGlobals mg) (a : PySem.W.nsIn K mainGlobals "_law_op_text" = some (some (.ref f))) (l : K.lookup f = some ⟨oc, od, .func (PySem.W.fnOf "_law_op_text" "_law_op_text" (defArgs s__law_op_text) (defBody s__law_op_text) (defScope s__law_op_text) .none kV dc pm an cd ct), sl⟩) (c : PySem.W.codeIn K cd "_law_op_text" = true) (k : PySem.W.keepIn K (.ref f) = true) : Has K mg "_law_op_text" s__law_op_text ["_law_op"] :=
  ⟨f, _, fun_mk (st := s__law_op_text) l c k, PySem.W.mg_of X G a, (fun_mk (st := s__law_op_text) l c k).binds (ps := ["_law_op"]) fun _ _ _ _ _ _ us hl => match us, hl with | [_], _ => rfl⟩
theorem has__law_test_text {f : Addr} {od an : Option Addr} {sl : Array (Option Value)} {oc kV dc pm cd ct : Value} (X : K.In h) (G : h.Ns mainGlobals mg) (a : PySem.W.nsIn K mainGlobals "_law_test_text" = some (some (.ref f))) (l : K.lookup f = some ⟨oc, od, .func (PySem.W.fnOf "_law_test_text" "_law_test_text" (defArgs s__law_test_text) (defBody s__law_test_text) (defScope s__law_test_text) .none kV dc pm an cd ct), sl⟩) (c : PySem.W.codeIn K cd "_law_test_text" = true) (k : PySem.W.keepIn K (.ref f) = true) : Has K mg "_law_test_text" s__law_test_text ["_law_test_here"] :=
  ⟨f, _, fun_mk (st := s__law_test_text) l c k, PySem.W.mg_of X G a, (fun_mk (st := s__law_test_text) l c k).binds (ps := ["_law_test_here"]) fun _ _ _ _ _ _ us hl => match us, hl with | [_], _ => rfl⟩
theorem has__law_state_lines {f : Addr} {od an : Option Addr} {sl : Array (Option Value)} {oc kV dc pm cd ct : Value} (X : K.In h) (G : h.Ns mainGlobals mg) (a : PySem.W.nsIn K mainGlobals "_law_state_lines" = some (some (.ref f))) (l : K.lookup f = some ⟨oc, od, .func (PySem.W.fnOf "_law_state_lines" "_law_state_lines" (defArgs s__law_state_lines) (defBody s__law_state_lines) (defScope s__law_state_lines) .none kV dc pm an cd ct), sl⟩) (c : PySem.W.codeIn K cd "_law_state_lines" = true) (k : PySem.W.keepIn K (.ref f) = true) : Has K mg "_law_state_lines" s__law_state_lines ["_law_part"] :=
  ⟨f, _, fun_mk (st := s__law_state_lines) l c k, PySem.W.mg_of X G a, (fun_mk (st := s__law_state_lines) l c k).binds (ps := ["_law_part"]) fun _ _ _ _ _ _ us hl => match us, hl with | [_], _ => rfl⟩
theorem has__law_table_lines {f : Addr} {od an : Option Addr} {sl : Array (Option Value)} {oc kV dc pm cd ct : Value} (X : K.In h) (G : h.Ns mainGlobals mg) (a : PySem.W.nsIn K mainGlobals "_law_table_lines" = some (some (.ref f))) (l : K.lookup f = some ⟨oc, od, .func (PySem.W.fnOf "_law_table_lines" "_law_table_lines" (defArgs s__law_table_lines) (defBody s__law_table_lines) (defScope s__law_table_lines) .none kV dc pm an cd ct), sl⟩) (c : PySem.W.codeIn K cd "_law_table_lines" = true) (k : PySem.W.keepIn K (.ref f) = true) : Has K mg "_law_table_lines" s__law_table_lines ["_law_table_here"] :=
  ⟨f, _, fun_mk (st := s__law_table_lines) l c k, PySem.W.mg_of X G a, (fun_mk (st := s__law_table_lines) l c k).binds (ps := ["_law_table_here"]) fun _ _ _ _ _ _ us hl => match us, hl with | [_], _ => rfl⟩
theorem has__law_block_lines {f : Addr} {od an : Option Addr} {sl : Array (Option Value)} {oc kV dc pm cd ct : Value} (X : K.In h) (G : h.Ns mainGlobals mg) (a : PySem.W.nsIn K mainGlobals "_law_block_lines" = some (some (.ref f))) (l : K.lookup f = some ⟨oc, od, .func (PySem.W.fnOf "_law_block_lines" "_law_block_lines" (defArgs s__law_block_lines) (defBody s__law_block_lines) (defScope s__law_block_lines) .none kV dc pm an cd ct), sl⟩) (c : PySem.W.codeIn K cd "_law_block_lines" = true) (k : PySem.W.keepIn K (.ref f) = true) : Has K mg "_law_block_lines" s__law_block_lines ["_law_statements", "_law_indent"] :=
  ⟨f, _, fun_mk (st := s__law_block_lines) l c k, PySem.W.mg_of X G a, (fun_mk (st := s__law_block_lines) l c k).binds (ps := ["_law_statements", "_law_indent"]) fun _ _ _ _ _ _ us hl => match us, hl with | [_, _], _ => rfl⟩
theorem has__law_lines {f : Addr} {od an : Option Addr} {sl : Array (Option Value)} {oc kV dc pm cd ct : Value} (X : K.In h) (G : h.Ns mainGlobals mg) (a : PySem.W.nsIn K mainGlobals "_law_lines" = some (some (.ref f))) (l : K.lookup f = some ⟨oc, od, .func (PySem.W.fnOf "_law_lines" "_law_lines" (defArgs s__law_lines) (defBody s__law_lines) (defScope s__law_lines) .none kV dc pm an cd ct), sl⟩) (c : PySem.W.codeIn K cd "_law_lines" = true) (k : PySem.W.keepIn K (.ref f) = true) : Has K mg "_law_lines" s__law_lines ["_law_program_here"] :=
  ⟨f, _, fun_mk (st := s__law_lines) l c k, PySem.W.mg_of X G a, (fun_mk (st := s__law_lines) l c k).binds (ps := ["_law_program_here"]) fun _ _ _ _ _ _ us hl => match us, hl with | [_], _ => rfl⟩
theorem has_law {f : Addr} {od an : Option Addr} {sl : Array (Option Value)} {oc kV dc pm cd ct : Value} (X : K.In h) (G : h.Ns mainGlobals mg) (a : PySem.W.nsIn K mainGlobals "law" = some (some (.ref f))) (l : K.lookup f = some ⟨oc, od, .func (PySem.W.fnOf "law" "law" (defArgs s_law) (defBody s_law) (defScope s_law) .none kV dc pm an cd ct), sl⟩) (c : PySem.W.codeIn K cd "law" = true) (k : PySem.W.keepIn K (.ref f) = true) : Has K mg "law" s_law ["_law_script"] :=
  ⟨f, _, fun_mk (st := s_law) l c k, PySem.W.mg_of X G a, (fun_mk (st := s_law) l c k).binds (ps := ["_law_script"]) fun _ _ _ _ _ _ us hl => match us, hl with | [_], _ => rfl⟩
theorem has_is_reserved {f : Addr} {od an : Option Addr} {sl : Array (Option Value)} {oc kV dc pm cd ct : Value} (X : K.In h) (G : h.Ns mainGlobals mg) (a : PySem.W.nsIn K mainGlobals "is_reserved" = some (some (.ref f))) (l : K.lookup f = some ⟨oc, od, .func (PySem.W.fnOf "is_reserved" "is_reserved" (defArgs s_is_reserved) (defBody s_is_reserved) (defScope s_is_reserved) .none kV dc pm an cd ct), sl⟩) (c : PySem.W.codeIn K cd "is_reserved" = true) (k : PySem.W.keepIn K (.ref f) = true) : Has K mg "is_reserved" s_is_reserved ["name"] :=
  ⟨f, _, fun_mk (st := s_is_reserved) l c k, PySem.W.mg_of X G a, (fun_mk (st := s_is_reserved) l c k).binds (ps := ["name"]) fun _ _ _ _ _ _ us hl => match us, hl with | [_], _ => rfl⟩
theorem has_is_letter {f : Addr} {od an : Option Addr} {sl : Array (Option Value)} {oc kV dc pm cd ct : Value} (X : K.In h) (G : h.Ns mainGlobals mg) (a : PySem.W.nsIn K mainGlobals "is_letter" = some (some (.ref f))) (l : K.lookup f = some ⟨oc, od, .func (PySem.W.fnOf "is_letter" "is_letter" (defArgs s_is_letter) (defBody s_is_letter) (defScope s_is_letter) .none kV dc pm an cd ct), sl⟩) (c : PySem.W.codeIn K cd "is_letter" = true) (k : PySem.W.keepIn K (.ref f) = true) : Has K mg "is_letter" s_is_letter ["char"] :=
  ⟨f, _, fun_mk (st := s_is_letter) l c k, PySem.W.mg_of X G a, (fun_mk (st := s_is_letter) l c k).binds (ps := ["char"]) fun _ _ _ _ _ _ us hl => match us, hl with | [_], _ => rfl⟩
theorem has_is_digit {f : Addr} {od an : Option Addr} {sl : Array (Option Value)} {oc kV dc pm cd ct : Value} (X : K.In h) (G : h.Ns mainGlobals mg) (a : PySem.W.nsIn K mainGlobals "is_digit" = some (some (.ref f))) (l : K.lookup f = some ⟨oc, od, .func (PySem.W.fnOf "is_digit" "is_digit" (defArgs s_is_digit) (defBody s_is_digit) (defScope s_is_digit) .none kV dc pm an cd ct), sl⟩) (c : PySem.W.codeIn K cd "is_digit" = true) (k : PySem.W.keepIn K (.ref f) = true) : Has K mg "is_digit" s_is_digit ["char"] :=
  ⟨f, _, fun_mk (st := s_is_digit) l c k, PySem.W.mg_of X G a, (fun_mk (st := s_is_digit) l c k).binds (ps := ["char"]) fun _ _ _ _ _ _ us hl => match us, hl with | [_], _ => rfl⟩
theorem has_run_end {f : Addr} {od an : Option Addr} {sl : Array (Option Value)} {oc kV dc pm cd ct : Value} (X : K.In h) (G : h.Ns mainGlobals mg) (a : PySem.W.nsIn K mainGlobals "run_end" = some (some (.ref f))) (l : K.lookup f = some ⟨oc, od, .func (PySem.W.fnOf "run_end" "run_end" (defArgs s_run_end) (defBody s_run_end) (defScope s_run_end) .none kV dc pm an cd ct), sl⟩) (c : PySem.W.codeIn K cd "run_end" = true) (k : PySem.W.keepIn K (.ref f) = true) : Has K mg "run_end" s_run_end ["text", "start"] :=
  ⟨f, _, fun_mk (st := s_run_end) l c k, PySem.W.mg_of X G a, (fun_mk (st := s_run_end) l c k).binds (ps := ["text", "start"]) fun _ _ _ _ _ _ us hl => match us, hl with | [_, _], _ => rfl⟩
theorem has_operation {f : Addr} {od an : Option Addr} {sl : Array (Option Value)} {oc kV dc pm cd ct : Value} (X : K.In h) (G : h.Ns mainGlobals mg) (a : PySem.W.nsIn K mainGlobals "operation" = some (some (.ref f))) (l : K.lookup f = some ⟨oc, od, .func (PySem.W.fnOf "operation" "operation" (defArgs s_operation) (defBody s_operation) (defScope s_operation) .none kV dc pm an cd ct), sl⟩) (c : PySem.W.codeIn K cd "operation" = true) (k : PySem.W.keepIn K (.ref f) = true) : Has K mg "operation" s_operation ["reader"] :=
  ⟨f, _, fun_mk (st := s_operation) l c k, PySem.W.mg_of X G a, (fun_mk (st := s_operation) l c k).binds (ps := ["reader"]) fun _ _ _ _ _ _ us hl => match us, hl with | [_], _ => rfl⟩
theorem has_state {f : Addr} {od an : Option Addr} {sl : Array (Option Value)} {oc kV dc pm cd ct : Value} (X : K.In h) (G : h.Ns mainGlobals mg) (a : PySem.W.nsIn K mainGlobals "state" = some (some (.ref f))) (l : K.lookup f = some ⟨oc, od, .func (PySem.W.fnOf "state" "state" (defArgs s_state) (defBody s_state) (defScope s_state) .none kV dc pm an cd ct), sl⟩) (c : PySem.W.codeIn K cd "state" = true) (k : PySem.W.keepIn K (.ref f) = true) : Has K mg "state" s_state ["reader"] :=
  ⟨f, _, fun_mk (st := s_state) l c k, PySem.W.mg_of X G a, (fun_mk (st := s_state) l c k).binds (ps := ["reader"]) fun _ _ _ _ _ _ us hl => match us, hl with | [_], _ => rfl⟩
theorem has_test {f : Addr} {od an : Option Addr} {sl : Array (Option Value)} {oc kV dc pm cd ct : Value} (X : K.In h) (G : h.Ns mainGlobals mg) (a : PySem.W.nsIn K mainGlobals "test" = some (some (.ref f))) (l : K.lookup f = some ⟨oc, od, .func (PySem.W.fnOf "test" "test" (defArgs s_test) (defBody s_test) (defScope s_test) .none kV dc pm an cd ct), sl⟩) (c : PySem.W.codeIn K cd "test" = true) (k : PySem.W.keepIn K (.ref f) = true) : Has K mg "test" s_test ["reader"] :=
  ⟨f, _, fun_mk (st := s_test) l c k, PySem.W.mg_of X G a, (fun_mk (st := s_test) l c k).binds (ps := ["reader"]) fun _ _ _ _ _ _ us hl => match us, hl with | [_], _ => rfl⟩
theorem has_action {f : Addr} {od an : Option Addr} {sl : Array (Option Value)} {oc kV dc pm cd ct : Value} (X : K.In h) (G : h.Ns mainGlobals mg) (a : PySem.W.nsIn K mainGlobals "action" = some (some (.ref f))) (l : K.lookup f = some ⟨oc, od, .func (PySem.W.fnOf "action" "action" (defArgs s_action) (defBody s_action) (defScope s_action) .none kV dc pm an cd ct), sl⟩) (c : PySem.W.codeIn K cd "action" = true) (k : PySem.W.keepIn K (.ref f) = true) : Has K mg "action" s_action ["reader"] :=
  ⟨f, _, fun_mk (st := s_action) l c k, PySem.W.mg_of X G a, (fun_mk (st := s_action) l c k).binds (ps := ["reader"]) fun _ _ _ _ _ _ us hl => match us, hl with | [_], _ => rfl⟩
theorem has_table {f : Addr} {od an : Option Addr} {sl : Array (Option Value)} {oc kV dc pm cd ct : Value} (X : K.In h) (G : h.Ns mainGlobals mg) (a : PySem.W.nsIn K mainGlobals "table" = some (some (.ref f))) (l : K.lookup f = some ⟨oc, od, .func (PySem.W.fnOf "table" "table" (defArgs s_table) (defBody s_table) (defScope s_table) .none kV dc pm an cd ct), sl⟩) (c : PySem.W.codeIn K cd "table" = true) (k : PySem.W.keepIn K (.ref f) = true) : Has K mg "table" s_table ["reader"] :=
  ⟨f, _, fun_mk (st := s_table) l c k, PySem.W.mg_of X G a, (fun_mk (st := s_table) l c k).binds (ps := ["reader"]) fun _ _ _ _ _ _ us hl => match us, hl with | [_], _ => rfl⟩
theorem has_repeated {f : Addr} {od an : Option Addr} {sl : Array (Option Value)} {oc kV dc pm cd ct : Value} (X : K.In h) (G : h.Ns mainGlobals mg) (a : PySem.W.nsIn K mainGlobals "repeated" = some (some (.ref f))) (l : K.lookup f = some ⟨oc, od, .func (PySem.W.fnOf "repeated" "repeated" (defArgs s_repeated) (defBody s_repeated) (defScope s_repeated) .none kV dc pm an cd ct), sl⟩) (c : PySem.W.codeIn K cd "repeated" = true) (k : PySem.W.keepIn K (.ref f) = true) : Has K mg "repeated" s_repeated ["reader", "word", "parse"] :=
  ⟨f, _, fun_mk (st := s_repeated) l c k, PySem.W.mg_of X G a, (fun_mk (st := s_repeated) l c k).binds (ps := ["reader", "word", "parse"]) fun _ _ _ _ _ _ us hl => match us, hl with | [_, _, _], _ => rfl⟩
theorem has_block {f : Addr} {od an : Option Addr} {sl : Array (Option Value)} {oc kV dc pm cd ct : Value} (X : K.In h) (G : h.Ns mainGlobals mg) (a : PySem.W.nsIn K mainGlobals "block" = some (some (.ref f))) (l : K.lookup f = some ⟨oc, od, .func (PySem.W.fnOf "block" "block" (defArgs s_block) (defBody s_block) (defScope s_block) .none kV dc pm an cd ct), sl⟩) (c : PySem.W.codeIn K cd "block" = true) (k : PySem.W.keepIn K (.ref f) = true) : Has K mg "block" s_block ["reader"] :=
  ⟨f, _, fun_mk (st := s_block) l c k, PySem.W.mg_of X G a, (fun_mk (st := s_block) l c k).binds (ps := ["reader"]) fun _ _ _ _ _ _ us hl => match us, hl with | [_], _ => rfl⟩
theorem has_Reader___init__ {C f : Addr} {od an : Option Addr} {sl : Array (Option Value)} {oc kV dc pm cd ct : Value} (a : PySem.W.findIn K (.ref C) "__init__" = some (some (.ref f))) (i : PySem.W.isFn K (.ref f) = true) (l : K.lookup f = some ⟨oc, od, .func (PySem.W.fnOf "__init__" "Reader.__init__" (defArgs s_Reader___init__) (defBody s_Reader___init__) (defScope s_Reader___init__) .none kV dc pm an cd ct), sl⟩) (c : PySem.W.codeIn K cd "Reader.__init__" = true) (k : PySem.W.keepIn K (.ref f) = true) : HasM K C "__init__" "Reader.__init__" s_Reader___init__ ["self", "text"] :=
  ⟨f, _, fun_mk (st := s_Reader___init__) l c k, ⟨a, i, k⟩, (fun_mk (st := s_Reader___init__) l c k).binds (ps := ["self", "text"]) fun _ _ _ _ _ _ us hl => match us, hl with | [_, _], _ => rfl⟩
theorem has_parse_program {f : Addr} {od an : Option Addr} {sl : Array (Option Value)} {oc kV dc pm cd ct : Value} (X : K.In h) (G : h.Ns mainGlobals mg) (a : PySem.W.nsIn K mainGlobals "parse_program" = some (some (.ref f))) (l : K.lookup f = some ⟨oc, od, .func (PySem.W.fnOf "parse_program" "parse_program" (defArgs s_parse_program) (defBody s_parse_program) (defScope s_parse_program) .none kV dc pm an cd ct), sl⟩) (c : PySem.W.codeIn K cd "parse_program" = true) (k : PySem.W.keepIn K (.ref f) = true) : Has K mg "parse_program" s_parse_program ["text"] :=
  ⟨f, _, fun_mk (st := s_parse_program) l c k, PySem.W.mg_of X G a, (fun_mk (st := s_parse_program) l c k).binds (ps := ["text"]) fun _ _ _ _ _ _ us hl => match us, hl with | [_], _ => rfl⟩
theorem has_number_value {f : Addr} {od an : Option Addr} {sl : Array (Option Value)} {oc kV dc pm cd ct : Value} (X : K.In h) (G : h.Ns mainGlobals mg) (a : PySem.W.nsIn K mainGlobals "number_value" = some (some (.ref f))) (l : K.lookup f = some ⟨oc, od, .func (PySem.W.fnOf "number_value" "number_value" (defArgs s_number_value) (defBody s_number_value) (defScope s_number_value) .none kV dc pm an cd ct), sl⟩) (c : PySem.W.codeIn K cd "number_value" = true) (k : PySem.W.keepIn K (.ref f) = true) : Has K mg "number_value" s_number_value ["run"] :=
  ⟨f, _, fun_mk (st := s_number_value) l c k, PySem.W.mg_of X G a, (fun_mk (st := s_number_value) l c k).binds (ps := ["run"]) fun _ _ _ _ _ _ us hl => match us, hl with | [_], _ => rfl⟩
theorem has_run_token {f : Addr} {od an : Option Addr} {sl : Array (Option Value)} {oc kV dc pm cd ct : Value} (X : K.In h) (G : h.Ns mainGlobals mg) (a : PySem.W.nsIn K mainGlobals "run_token" = some (some (.ref f))) (l : K.lookup f = some ⟨oc, od, .func (PySem.W.fnOf "run_token" "run_token" (defArgs s_run_token) (defBody s_run_token) (defScope s_run_token) .none kV dc pm an cd ct), sl⟩) (c : PySem.W.codeIn K cd "run_token" = true) (k : PySem.W.keepIn K (.ref f) = true) : Has K mg "run_token" s_run_token ["run", "line"] :=
  ⟨f, _, fun_mk (st := s_run_token) l c k, PySem.W.mg_of X G a, (fun_mk (st := s_run_token) l c k).binds (ps := ["run", "line"]) fun _ _ _ _ _ _ us hl => match us, hl with | [_, _], _ => rfl⟩
theorem has_sign_at {f : Addr} {od an : Option Addr} {sl : Array (Option Value)} {oc kV dc pm cd ct : Value} (X : K.In h) (G : h.Ns mainGlobals mg) (a : PySem.W.nsIn K mainGlobals "sign_at" = some (some (.ref f))) (l : K.lookup f = some ⟨oc, od, .func (PySem.W.fnOf "sign_at" "sign_at" (defArgs s_sign_at) (defBody s_sign_at) (defScope s_sign_at) .none kV dc pm an cd ct), sl⟩) (c : PySem.W.codeIn K cd "sign_at" = true) (k : PySem.W.keepIn K (.ref f) = true) : Has K mg "sign_at" s_sign_at ["text", "at", "line"] :=
  ⟨f, _, fun_mk (st := s_sign_at) l c k, PySem.W.mg_of X G a, (fun_mk (st := s_sign_at) l c k).binds (ps := ["text", "at", "line"]) fun _ _ _ _ _ _ us hl => match us, hl with | [_, _, _], _ => rfl⟩
theorem has_line_tokens {f : Addr} {od an : Option Addr} {sl : Array (Option Value)} {oc kV dc pm cd ct : Value} (X : K.In h) (G : h.Ns mainGlobals mg) (a : PySem.W.nsIn K mainGlobals "line_tokens" = some (some (.ref f))) (l : K.lookup f = some ⟨oc, od, .func (PySem.W.fnOf "line_tokens" "line_tokens" (defArgs s_line_tokens) (defBody s_line_tokens) (defScope s_line_tokens) .none kV dc pm an cd ct), sl⟩) (c : PySem.W.codeIn K cd "line_tokens" = true) (k : PySem.W.keepIn K (.ref f) = true) : Has K mg "line_tokens" s_line_tokens ["text", "line"] :=
  ⟨f, _, fun_mk (st := s_line_tokens) l c k, PySem.W.mg_of X G a, (fun_mk (st := s_line_tokens) l c k).binds (ps := ["text", "line"]) fun _ _ _ _ _ _ us hl => match us, hl with | [_, _], _ => rfl⟩
theorem has_tokenize {f : Addr} {od an : Option Addr} {sl : Array (Option Value)} {oc kV dc pm cd ct : Value} (X : K.In h) (G : h.Ns mainGlobals mg) (a : PySem.W.nsIn K mainGlobals "tokenize" = some (some (.ref f))) (l : K.lookup f = some ⟨oc, od, .func (PySem.W.fnOf "tokenize" "tokenize" (defArgs s_tokenize) (defBody s_tokenize) (defScope s_tokenize) .none kV dc pm an cd ct), sl⟩) (c : PySem.W.codeIn K cd "tokenize" = true) (k : PySem.W.keepIn K (.ref f) = true) : Has K mg "tokenize" s_tokenize ["text"] :=
  ⟨f, _, fun_mk (st := s_tokenize) l c k, PySem.W.mg_of X G a, (fun_mk (st := s_tokenize) l c k).binds (ps := ["text"]) fun _ _ _ _ _ _ us hl => match us, hl with | [_], _ => rfl⟩
theorem has_Reader_peek {C f : Addr} {od an : Option Addr} {sl : Array (Option Value)} {oc kV dc pm cd ct : Value} (a : PySem.W.findIn K (.ref C) "peek" = some (some (.ref f))) (i : PySem.W.isFn K (.ref f) = true) (l : K.lookup f = some ⟨oc, od, .func (PySem.W.fnOf "peek" "Reader.peek" (defArgs s_Reader_peek) (defBody s_Reader_peek) (defScope s_Reader_peek) .none kV dc pm an cd ct), sl⟩) (c : PySem.W.codeIn K cd "Reader.peek" = true) (k : PySem.W.keepIn K (.ref f) = true) : HasM K C "peek" "Reader.peek" s_Reader_peek ["self"] :=
  ⟨f, _, fun_mk (st := s_Reader_peek) l c k, ⟨a, i, k⟩, (fun_mk (st := s_Reader_peek) l c k).binds (ps := ["self"]) fun _ _ _ _ _ _ us hl => match us, hl with | [_], _ => rfl⟩
theorem has_Reader_kind {C f : Addr} {od an : Option Addr} {sl : Array (Option Value)} {oc kV dc pm cd ct : Value} (a : PySem.W.findIn K (.ref C) "kind" = some (some (.ref f))) (i : PySem.W.isFn K (.ref f) = true) (l : K.lookup f = some ⟨oc, od, .func (PySem.W.fnOf "kind" "Reader.kind" (defArgs s_Reader_kind) (defBody s_Reader_kind) (defScope s_Reader_kind) .none kV dc pm an cd ct), sl⟩) (c : PySem.W.codeIn K cd "Reader.kind" = true) (k : PySem.W.keepIn K (.ref f) = true) : HasM K C "kind" "Reader.kind" s_Reader_kind ["self"] :=
  ⟨f, _, fun_mk (st := s_Reader_kind) l c k, ⟨a, i, k⟩, (fun_mk (st := s_Reader_kind) l c k).binds (ps := ["self"]) fun _ _ _ _ _ _ us hl => match us, hl with | [_], _ => rfl⟩
theorem has_Reader_sees {C f : Addr} {od an : Option Addr} {sl : Array (Option Value)} {oc kV dc pm cd ct : Value} (a : PySem.W.findIn K (.ref C) "sees" = some (some (.ref f))) (i : PySem.W.isFn K (.ref f) = true) (l : K.lookup f = some ⟨oc, od, .func (PySem.W.fnOf "sees" "Reader.sees" (defArgs s_Reader_sees) (defBody s_Reader_sees) (defScope s_Reader_sees) .none kV dc pm an cd ct), sl⟩) (c : PySem.W.codeIn K cd "Reader.sees" = true) (k : PySem.W.keepIn K (.ref f) = true) : HasM K C "sees" "Reader.sees" s_Reader_sees ["self", "value"] :=
  ⟨f, _, fun_mk (st := s_Reader_sees) l c k, ⟨a, i, k⟩, (fun_mk (st := s_Reader_sees) l c k).binds (ps := ["self", "value"]) fun _ _ _ _ _ _ us hl => match us, hl with | [_, _], _ => rfl⟩
theorem has_Reader_skip {C f : Addr} {od an : Option Addr} {sl : Array (Option Value)} {oc kV dc pm cd ct : Value} (a : PySem.W.findIn K (.ref C) "skip" = some (some (.ref f))) (i : PySem.W.isFn K (.ref f) = true) (l : K.lookup f = some ⟨oc, od, .func (PySem.W.fnOf "skip" "Reader.skip" (defArgs s_Reader_skip) (defBody s_Reader_skip) (defScope s_Reader_skip) .none kV dc pm an cd ct), sl⟩) (c : PySem.W.codeIn K cd "Reader.skip" = true) (k : PySem.W.keepIn K (.ref f) = true) : HasM K C "skip" "Reader.skip" s_Reader_skip ["self", "value"] :=
  ⟨f, _, fun_mk (st := s_Reader_skip) l c k, ⟨a, i, k⟩, (fun_mk (st := s_Reader_skip) l c k).binds (ps := ["self", "value"]) fun _ _ _ _ _ _ us hl => match us, hl with | [_, _], _ => rfl⟩
theorem has_Reader_need {C f : Addr} {od an : Option Addr} {sl : Array (Option Value)} {oc kV dc pm cd ct : Value} (a : PySem.W.findIn K (.ref C) "need" = some (some (.ref f))) (i : PySem.W.isFn K (.ref f) = true) (l : K.lookup f = some ⟨oc, od, .func (PySem.W.fnOf "need" "Reader.need" (defArgs s_Reader_need) (defBody s_Reader_need) (defScope s_Reader_need) .none kV dc pm an cd ct), sl⟩) (c : PySem.W.codeIn K cd "Reader.need" = true) (k : PySem.W.keepIn K (.ref f) = true) : HasM K C "need" "Reader.need" s_Reader_need ["self", "value"] :=
  ⟨f, _, fun_mk (st := s_Reader_need) l c k, ⟨a, i, k⟩, (fun_mk (st := s_Reader_need) l c k).binds (ps := ["self", "value"]) fun _ _ _ _ _ _ us hl => match us, hl with | [_, _], _ => rfl⟩
theorem has_Reader_take {C f : Addr} {od an : Option Addr} {sl : Array (Option Value)} {oc kV dc pm cd ct : Value} (a : PySem.W.findIn K (.ref C) "take" = some (some (.ref f))) (i : PySem.W.isFn K (.ref f) = true) (l : K.lookup f = some ⟨oc, od, .func (PySem.W.fnOf "take" "Reader.take" (defArgs s_Reader_take) (defBody s_Reader_take) (defScope s_Reader_take) .none kV dc pm an cd ct), sl⟩) (c : PySem.W.codeIn K cd "Reader.take" = true) (k : PySem.W.keepIn K (.ref f) = true) : HasM K C "take" "Reader.take" s_Reader_take ["self", "kind"] :=
  ⟨f, _, fun_mk (st := s_Reader_take) l c k, ⟨a, i, k⟩, (fun_mk (st := s_Reader_take) l c k).binds (ps := ["self", "kind"]) fun _ _ _ _ _ _ us hl => match us, hl with | [_, _], _ => rfl⟩
theorem has_field {f : Addr} {od an : Option Addr} {sl : Array (Option Value)} {oc kV dc pm cd ct : Value} (X : K.In h) (G : h.Ns mainGlobals mg) (a : PySem.W.nsIn K mainGlobals "field" = some (some (.ref f))) (l : K.lookup f = some ⟨oc, od, .func (PySem.W.fnOf "field" "field" (defArgs s_field) (defBody s_field) (defScope s_field) .none kV dc pm an cd ct), sl⟩) (c : PySem.W.codeIn K cd "field" = true) (k : PySem.W.keepIn K (.ref f) = true) : Has K mg "field" s_field ["reader"] :=
  ⟨f, _, fun_mk (st := s_field) l c k, PySem.W.mg_of X G a, (fun_mk (st := s_field) l c k).binds (ps := ["reader"]) fun _ _ _ _ _ _ us hl => match us, hl with | [_], _ => rfl⟩
theorem has_operand {f : Addr} {od an : Option Addr} {sl : Array (Option Value)} {oc kV dc pm cd ct : Value} (X : K.In h) (G : h.Ns mainGlobals mg) (a : PySem.W.nsIn K mainGlobals "operand" = some (some (.ref f))) (l : K.lookup f = some ⟨oc, od, .func (PySem.W.fnOf "operand" "operand" (defArgs s_operand) (defBody s_operand) (defScope s_operand) .none kV dc pm an cd ct), sl⟩) (c : PySem.W.codeIn K cd "operand" = true) (k : PySem.W.keepIn K (.ref f) = true) : Has K mg "operand" s_operand ["reader"] :=
  ⟨f, _, fun_mk (st := s_operand) l c k, PySem.W.mg_of X G a, (fun_mk (st := s_operand) l c k).binds (ps := ["reader"]) fun _ _ _ _ _ _ us hl => match us, hl with | [_], _ => rfl⟩
theorem has_expression {f : Addr} {od an : Option Addr} {sl : Array (Option Value)} {oc kV dc pm cd ct : Value} (X : K.In h) (G : h.Ns mainGlobals mg) (a : PySem.W.nsIn K mainGlobals "expression" = some (some (.ref f))) (l : K.lookup f = some ⟨oc, od, .func (PySem.W.fnOf "expression" "expression" (defArgs s_expression) (defBody s_expression) (defScope s_expression) .none kV dc pm an cd ct), sl⟩) (c : PySem.W.codeIn K cd "expression" = true) (k : PySem.W.keepIn K (.ref f) = true) : Has K mg "expression" s_expression ["reader"] :=
  ⟨f, _, fun_mk (st := s_expression) l c k, PySem.W.mg_of X G a, (fun_mk (st := s_expression) l c k).binds (ps := ["reader"]) fun _ _ _ _ _ _ us hl => match us, hl with | [_], _ => rfl⟩
theorem has_target {f : Addr} {od an : Option Addr} {sl : Array (Option Value)} {oc kV dc pm cd ct : Value} (X : K.In h) (G : h.Ns mainGlobals mg) (a : PySem.W.nsIn K mainGlobals "target" = some (some (.ref f))) (l : K.lookup f = some ⟨oc, od, .func (PySem.W.fnOf "target" "target" (defArgs s_target) (defBody s_target) (defScope s_target) .none kV dc pm an cd ct), sl⟩) (c : PySem.W.codeIn K cd "target" = true) (k : PySem.W.keepIn K (.ref f) = true) : Has K mg "target" s_target ["reader"] :=
  ⟨f, _, fun_mk (st := s_target) l c k, PySem.W.mg_of X G a, (fun_mk (st := s_target) l c k).binds (ps := ["reader"]) fun _ _ _ _ _ _ us hl => match us, hl with | [_], _ => rfl⟩
theorem has_key {f : Addr} {od an : Option Addr} {sl : Array (Option Value)} {oc kV dc pm cd ct : Value} (X : K.In h) (G : h.Ns mainGlobals mg) (a : PySem.W.nsIn K mainGlobals "key" = some (some (.ref f))) (l : K.lookup f = some ⟨oc, od, .func (PySem.W.fnOf "key" "key" (defArgs s_key) (defBody s_key) (defScope s_key) .none kV dc pm an cd ct), sl⟩) (c : PySem.W.codeIn K cd "key" = true) (k : PySem.W.keepIn K (.ref f) = true) : Has K mg "key" s_key ["reader"] :=
  ⟨f, _, fun_mk (st := s_key) l c k, PySem.W.mg_of X G a, (fun_mk (st := s_key) l c k).binds (ps := ["reader"]) fun _ _ _ _ _ _ us hl => match us, hl with | [_], _ => rfl⟩
theorem has_fields {f : Addr} {od an : Option Addr} {sl : Array (Option Value)} {oc kV dc pm cd ct : Value} (X : K.In h) (G : h.Ns mainGlobals mg) (a : PySem.W.nsIn K mainGlobals "fields" = some (some (.ref f))) (l : K.lookup f = some ⟨oc, od, .func (PySem.W.fnOf "fields" "fields" (defArgs s_fields) (defBody s_fields) (defScope s_fields) .none kV dc pm an cd ct), sl⟩) (c : PySem.W.codeIn K cd "fields" = true) (k : PySem.W.keepIn K (.ref f) = true) : Has K mg "fields" s_fields ["reader"] :=
  ⟨f, _, fun_mk (st := s_fields) l c k, PySem.W.mg_of X G a, (fun_mk (st := s_fields) l c k).binds (ps := ["reader"]) fun _ _ _ _ _ _ us hl => match us, hl with | [_], _ => rfl⟩
theorem has_numbers {f : Addr} {od an : Option Addr} {sl : Array (Option Value)} {oc kV dc pm cd ct : Value} (X : K.In h) (G : h.Ns mainGlobals mg) (a : PySem.W.nsIn K mainGlobals "numbers" = some (some (.ref f))) (l : K.lookup f = some ⟨oc, od, .func (PySem.W.fnOf "numbers" "numbers" (defArgs s_numbers) (defBody s_numbers) (defScope s_numbers) .none kV dc pm an cd ct), sl⟩) (c : PySem.W.codeIn K cd "numbers" = true) (k : PySem.W.keepIn K (.ref f) = true) : Has K mg "numbers" s_numbers ["reader"] :=
  ⟨f, _, fun_mk (st := s_numbers) l c k, PySem.W.mg_of X G a, (fun_mk (st := s_numbers) l c k).binds (ps := ["reader"]) fun _ _ _ _ _ _ us hl => match us, hl with | [_], _ => rfl⟩
theorem has_names {f : Addr} {od an : Option Addr} {sl : Array (Option Value)} {oc kV dc pm cd ct : Value} (X : K.In h) (G : h.Ns mainGlobals mg) (a : PySem.W.nsIn K mainGlobals "names" = some (some (.ref f))) (l : K.lookup f = some ⟨oc, od, .func (PySem.W.fnOf "names" "names" (defArgs s_names) (defBody s_names) (defScope s_names) .none kV dc pm an cd ct), sl⟩) (c : PySem.W.codeIn K cd "names" = true) (k : PySem.W.keepIn K (.ref f) = true) : Has K mg "names" s_names ["reader"] :=
  ⟨f, _, fun_mk (st := s_names) l c k, PySem.W.mg_of X G a, (fun_mk (st := s_names) l c k).binds (ps := ["reader"]) fun _ _ _ _ _ _ us hl => match us, hl with | [_], _ => rfl⟩
theorem has_header {f : Addr} {od an : Option Addr} {sl : Array (Option Value)} {oc kV dc pm cd ct : Value} (X : K.In h) (G : h.Ns mainGlobals mg) (a : PySem.W.nsIn K mainGlobals "header" = some (some (.ref f))) (l : K.lookup f = some ⟨oc, od, .func (PySem.W.fnOf "header" "header" (defArgs s_header) (defBody s_header) (defScope s_header) .none kV dc pm an cd ct), sl⟩) (c : PySem.W.codeIn K cd "header" = true) (k : PySem.W.keepIn K (.ref f) = true) : Has K mg "header" s_header ["reader"] :=
  ⟨f, _, fun_mk (st := s_header) l c k, PySem.W.mg_of X G a, (fun_mk (st := s_header) l c k).binds (ps := ["reader"]) fun _ _ _ _ _ _ us hl => match us, hl with | [_], _ => rfl⟩
theorem has_selection {f : Addr} {od an : Option Addr} {sl : Array (Option Value)} {oc kV dc pm cd ct : Value} (X : K.In h) (G : h.Ns mainGlobals mg) (a : PySem.W.nsIn K mainGlobals "selection" = some (some (.ref f))) (l : K.lookup f = some ⟨oc, od, .func (PySem.W.fnOf "selection" "selection" (defArgs s_selection) (defBody s_selection) (defScope s_selection) .none kV dc pm an cd ct), sl⟩) (c : PySem.W.codeIn K cd "selection" = true) (k : PySem.W.keepIn K (.ref f) = true) : Has K mg "selection" s_selection ["reader"] :=
  ⟨f, _, fun_mk (st := s_selection) l c k, PySem.W.mg_of X G a, (fun_mk (st := s_selection) l c k).binds (ps := ["reader"]) fun _ _ _ _ _ _ us hl => match us, hl with | [_], _ => rfl⟩
theorem has__law_same {f : Addr} {od an : Option Addr} {sl : Array (Option Value)} {oc kV dc pm cd ct : Value} (X : K.In h) (G : h.Ns mainGlobals mg) (a : PySem.W.nsIn K mainGlobals "_law_same" = some (some (.ref f))) (l : K.lookup f = some ⟨oc, od, .func (PySem.W.fnOf "_law_same" "_law_same" (defArgs s__law_same) (defBody s__law_same) (defScope s__law_same) .none kV dc pm an cd ct), sl⟩) (c : PySem.W.codeIn K cd "_law_same" = true) (k : PySem.W.keepIn K (.ref f) = true) : Has K mg "_law_same" s__law_same ["_law_actual", "_law_due"] :=
  ⟨f, _, fun_mk (st := s__law_same) l c k, PySem.W.mg_of X G a, (fun_mk (st := s__law_same) l c k).binds (ps := ["_law_actual", "_law_due"]) fun _ _ _ _ _ _ us hl => match us, hl with | [_, _], _ => rfl⟩
theorem has__law_spread {f : Addr} {od an : Option Addr} {sl : Array (Option Value)} {oc kV dc pm cd ct : Value} (X : K.In h) (G : h.Ns mainGlobals mg) (a : PySem.W.nsIn K mainGlobals "_law_spread" = some (some (.ref f))) (l : K.lookup f = some ⟨oc, od, .func (PySem.W.fnOf "_law_spread" "_law_spread" (defArgs s__law_spread) (defBody s__law_spread) (defScope s__law_spread) .none kV dc pm an cd ct), sl⟩) (c : PySem.W.codeIn K cd "_law_spread" = true) (k : PySem.W.keepIn K (.ref f) = true) : Has K mg "_law_spread" s__law_spread ["_law_state_here", "_law_lines_here"] :=
  ⟨f, _, fun_mk (st := s__law_spread) l c k, PySem.W.mg_of X G a, (fun_mk (st := s__law_spread) l c k).binds (ps := ["_law_state_here", "_law_lines_here"]) fun _ _ _ _ _ _ us hl => match us, hl with | [_, _], _ => rfl⟩
theorem has_field_text {f : Addr} {od an : Option Addr} {sl : Array (Option Value)} {oc kV dc pm cd ct : Value} (X : K.In h) (G : h.Ns mainGlobals mg) (a : PySem.W.nsIn K mainGlobals "field_text" = some (some (.ref f))) (l : K.lookup f = some ⟨oc, od, .func (PySem.W.fnOf "field_text" "field_text" (defArgs s_field_text) (defBody s_field_text) (defScope s_field_text) .none kV dc pm an cd ct), sl⟩) (c : PySem.W.codeIn K cd "field_text" = true) (k : PySem.W.keepIn K (.ref f) = true) : Has K mg "field_text" s_field_text ["field"] :=
  ⟨f, _, fun_mk (st := s_field_text) l c k, PySem.W.mg_of X G a, (fun_mk (st := s_field_text) l c k).binds (ps := ["field"]) fun _ _ _ _ _ _ us hl => match us, hl with | [_], _ => rfl⟩
theorem has_operand_text {f : Addr} {od an : Option Addr} {sl : Array (Option Value)} {oc kV dc pm cd ct : Value} (X : K.In h) (G : h.Ns mainGlobals mg) (a : PySem.W.nsIn K mainGlobals "operand_text" = some (some (.ref f))) (l : K.lookup f = some ⟨oc, od, .func (PySem.W.fnOf "operand_text" "operand_text" (defArgs s_operand_text) (defBody s_operand_text) (defScope s_operand_text) .none kV dc pm an cd ct), sl⟩) (c : PySem.W.codeIn K cd "operand_text" = true) (k : PySem.W.keepIn K (.ref f) = true) : Has K mg "operand_text" s_operand_text ["operand"] :=
  ⟨f, _, fun_mk (st := s_operand_text) l c k, PySem.W.mg_of X G a, (fun_mk (st := s_operand_text) l c k).binds (ps := ["operand"]) fun _ _ _ _ _ _ us hl => match us, hl with | [_], _ => rfl⟩
theorem has_expression_text {f : Addr} {od an : Option Addr} {sl : Array (Option Value)} {oc kV dc pm cd ct : Value} (X : K.In h) (G : h.Ns mainGlobals mg) (a : PySem.W.nsIn K mainGlobals "expression_text" = some (some (.ref f))) (l : K.lookup f = some ⟨oc, od, .func (PySem.W.fnOf "expression_text" "expression_text" (defArgs s_expression_text) (defBody s_expression_text) (defScope s_expression_text) .none kV dc pm an cd ct), sl⟩) (c : PySem.W.codeIn K cd "expression_text" = true) (k : PySem.W.keepIn K (.ref f) = true) : Has K mg "expression_text" s_expression_text ["e"] :=
  ⟨f, _, fun_mk (st := s_expression_text) l c k, PySem.W.mg_of X G a, (fun_mk (st := s_expression_text) l c k).binds (ps := ["e"]) fun _ _ _ _ _ _ us hl => match us, hl with | [_], _ => rfl⟩
theorem has_row_text {f : Addr} {od an : Option Addr} {sl : Array (Option Value)} {oc kV dc pm cd ct : Value} (X : K.In h) (G : h.Ns mainGlobals mg) (a : PySem.W.nsIn K mainGlobals "row_text" = some (some (.ref f))) (l : K.lookup f = some ⟨oc, od, .func (PySem.W.fnOf "row_text" "row_text" (defArgs s_row_text) (defBody s_row_text) (defScope s_row_text) .none kV dc pm an cd ct), sl⟩) (c : PySem.W.codeIn K cd "row_text" = true) (k : PySem.W.keepIn K (.ref f) = true) : Has K mg "row_text" s_row_text ["row"] :=
  ⟨f, _, fun_mk (st := s_row_text) l c k, PySem.W.mg_of X G a, (fun_mk (st := s_row_text) l c k).binds (ps := ["row"]) fun _ _ _ _ _ _ us hl => match us, hl with | [_], _ => rfl⟩
theorem has_field_lines {f : Addr} {od an : Option Addr} {sl : Array (Option Value)} {oc kV dc pm cd ct : Value} (X : K.In h) (G : h.Ns mainGlobals mg) (a : PySem.W.nsIn K mainGlobals "field_lines" = some (some (.ref f))) (l : K.lookup f = some ⟨oc, od, .func (PySem.W.fnOf "field_lines" "field_lines" (defArgs s_field_lines) (defBody s_field_lines) (defScope s_field_lines) .none kV dc pm an cd ct), sl⟩) (c : PySem.W.codeIn K cd "field_lines" = true) (k : PySem.W.keepIn K (.ref f) = true) : Has K mg "field_lines" s_field_lines ["fields", "indent"] :=
  ⟨f, _, fun_mk (st := s_field_lines) l c k, PySem.W.mg_of X G a, (fun_mk (st := s_field_lines) l c k).binds (ps := ["fields", "indent"]) fun _ _ _ _ _ _ us hl => match us, hl with | [_, _], _ => rfl⟩
theorem has_state_lines {f : Addr} {od an : Option Addr} {sl : Array (Option Value)} {oc kV dc pm cd ct : Value} (X : K.In h) (G : h.Ns mainGlobals mg) (a : PySem.W.nsIn K mainGlobals "state_lines" = some (some (.ref f))) (l : K.lookup f = some ⟨oc, od, .func (PySem.W.fnOf "state_lines" "state_lines" (defArgs s_state_lines) (defBody s_state_lines) (defScope s_state_lines) .none kV dc pm an cd ct), sl⟩) (c : PySem.W.codeIn K cd "state_lines" = true) (k : PySem.W.keepIn K (.ref f) = true) : Has K mg "state_lines" s_state_lines ["state"] :=
  ⟨f, _, fun_mk (st := s_state_lines) l c k, PySem.W.mg_of X G a, (fun_mk (st := s_state_lines) l c k).binds (ps := ["state"]) fun _ _ _ _ _ _ us hl => match us, hl with | [_], _ => rfl⟩
theorem has_operation_text {f : Addr} {od an : Option Addr} {sl : Array (Option Value)} {oc kV dc pm cd ct : Value} (X : K.In h) (G : h.Ns mainGlobals mg) (a : PySem.W.nsIn K mainGlobals "operation_text" = some (some (.ref f))) (l : K.lookup f = some ⟨oc, od, .func (PySem.W.fnOf "operation_text" "operation_text" (defArgs s_operation_text) (defBody s_operation_text) (defScope s_operation_text) .none kV dc pm an cd ct), sl⟩) (c : PySem.W.codeIn K cd "operation_text" = true) (k : PySem.W.keepIn K (.ref f) = true) : Has K mg "operation_text" s_operation_text ["op"] :=
  ⟨f, _, fun_mk (st := s_operation_text) l c k, PySem.W.mg_of X G a, (fun_mk (st := s_operation_text) l c k).binds (ps := ["op"]) fun _ _ _ _ _ _ us hl => match us, hl with | [_], _ => rfl⟩
theorem has_action_lines {f : Addr} {od an : Option Addr} {sl : Array (Option Value)} {oc kV dc pm cd ct : Value} (X : K.In h) (G : h.Ns mainGlobals mg) (a : PySem.W.nsIn K mainGlobals "action_lines" = some (some (.ref f))) (l : K.lookup f = some ⟨oc, od, .func (PySem.W.fnOf "action_lines" "action_lines" (defArgs s_action_lines) (defBody s_action_lines) (defScope s_action_lines) .none kV dc pm an cd ct), sl⟩) (c : PySem.W.codeIn K cd "action_lines" = true) (k : PySem.W.keepIn K (.ref f) = true) : Has K mg "action_lines" s_action_lines ["action"] :=
  ⟨f, _, fun_mk (st := s_action_lines) l c k, PySem.W.mg_of X G a, (fun_mk (st := s_action_lines) l c k).binds (ps := ["action"]) fun _ _ _ _ _ _ us hl => match us, hl with | [_], _ => rfl⟩
theorem has_table_lines {f : Addr} {od an : Option Addr} {sl : Array (Option Value)} {oc kV dc pm cd ct : Value} (X : K.In h) (G : h.Ns mainGlobals mg) (a : PySem.W.nsIn K mainGlobals "table_lines" = some (some (.ref f))) (l : K.lookup f = some ⟨oc, od, .func (PySem.W.fnOf "table_lines" "table_lines" (defArgs s_table_lines) (defBody s_table_lines) (defScope s_table_lines) .none kV dc pm an cd ct), sl⟩) (c : PySem.W.codeIn K cd "table_lines" = true) (k : PySem.W.keepIn K (.ref f) = true) : Has K mg "table_lines" s_table_lines ["table"] :=
  ⟨f, _, fun_mk (st := s_table_lines) l c k, PySem.W.mg_of X G a, (fun_mk (st := s_table_lines) l c k).binds (ps := ["table"]) fun _ _ _ _ _ _ us hl => match us, hl with | [_], _ => rfl⟩
theorem has_test_text {f : Addr} {od an : Option Addr} {sl : Array (Option Value)} {oc kV dc pm cd ct : Value} (X : K.In h) (G : h.Ns mainGlobals mg) (a : PySem.W.nsIn K mainGlobals "test_text" = some (some (.ref f))) (l : K.lookup f = some ⟨oc, od, .func (PySem.W.fnOf "test_text" "test_text" (defArgs s_test_text) (defBody s_test_text) (defScope s_test_text) .none kV dc pm an cd ct), sl⟩) (c : PySem.W.codeIn K cd "test_text" = true) (k : PySem.W.keepIn K (.ref f) = true) : Has K mg "test_text" s_test_text ["test"] :=
  ⟨f, _, fun_mk (st := s_test_text) l c k, PySem.W.mg_of X G a, (fun_mk (st := s_test_text) l c k).binds (ps := ["test"]) fun _ _ _ _ _ _ us hl => match us, hl with | [_], _ => rfl⟩
theorem has_statement_lines {f : Addr} {od an : Option Addr} {sl : Array (Option Value)} {oc kV dc pm cd ct : Value} (X : K.In h) (G : h.Ns mainGlobals mg) (a : PySem.W.nsIn K mainGlobals "statement_lines" = some (some (.ref f))) (l : K.lookup f = some ⟨oc, od, .func (PySem.W.fnOf "statement_lines" "statement_lines" (defArgs s_statement_lines) (defBody s_statement_lines) (defScope s_statement_lines) .none kV dc pm an cd ct), sl⟩) (c : PySem.W.codeIn K cd "statement_lines" = true) (k : PySem.W.keepIn K (.ref f) = true) : Has K mg "statement_lines" s_statement_lines ["statements", "indent"] :=
  ⟨f, _, fun_mk (st := s_statement_lines) l c k, PySem.W.mg_of X G a, (fun_mk (st := s_statement_lines) l c k).binds (ps := ["statements", "indent"]) fun _ _ _ _ _ _ us hl => match us, hl with | [_, _], _ => rfl⟩
theorem has_write_program {f : Addr} {od an : Option Addr} {sl : Array (Option Value)} {oc kV dc pm cd ct : Value} (X : K.In h) (G : h.Ns mainGlobals mg) (a : PySem.W.nsIn K mainGlobals "write_program" = some (some (.ref f))) (l : K.lookup f = some ⟨oc, od, .func (PySem.W.fnOf "write_program" "write_program" (defArgs s_write_program) (defBody s_write_program) (defScope s_write_program) .none kV dc pm an cd ct), sl⟩) (c : PySem.W.codeIn K cd "write_program" = true) (k : PySem.W.keepIn K (.ref f) = true) : Has K mg "write_program" s_write_program ["program"] :=
  ⟨f, _, fun_mk (st := s_write_program) l c k, PySem.W.mg_of X G a, (fun_mk (st := s_write_program) l c k).binds (ps := ["program"]) fun _ _ _ _ _ _ us hl => match us, hl with | [_], _ => rfl⟩
theorem has_hex_value {f : Addr} {od an : Option Addr} {sl : Array (Option Value)} {oc kV dc pm cd ct : Value} (X : K.In h) (G : h.Ns mainGlobals mg) (a : PySem.W.nsIn K mainGlobals "hex_value" = some (some (.ref f))) (l : K.lookup f = some ⟨oc, od, .func (PySem.W.fnOf "hex_value" "hex_value" (defArgs s_hex_value) (defBody s_hex_value) (defScope s_hex_value) .none kV dc pm an cd ct), sl⟩) (c : PySem.W.codeIn K cd "hex_value" = true) (k : PySem.W.keepIn K (.ref f) = true) : Has K mg "hex_value" s_hex_value ["digits"] :=
  ⟨f, _, fun_mk (st := s_hex_value) l c k, PySem.W.mg_of X G a, (fun_mk (st := s_hex_value) l c k).binds (ps := ["digits"]) fun _ _ _ _ _ _ us hl => match us, hl with | [_], _ => rfl⟩
theorem has_Reader_fail {C f : Addr} {od an : Option Addr} {sl : Array (Option Value)} {oc kV dc pm cd ct : Value} (a : PySem.W.findIn K (.ref C) "fail" = some (some (.ref f))) (i : PySem.W.isFn K (.ref f) = true) (l : K.lookup f = some ⟨oc, od, .func (PySem.W.fnOf "fail" "Reader.fail" (defArgs s_Reader_fail) (defBody s_Reader_fail) (defScope s_Reader_fail) .none kV dc pm an cd ct), sl⟩) (c : PySem.W.codeIn K cd "Reader.fail" = true) (k : PySem.W.keepIn K (.ref f) = true) : HasM K C "fail" "Reader.fail" s_Reader_fail ["self"] :=
  ⟨f, _, fun_mk (st := s_Reader_fail) l c k, ⟨a, i, k⟩, (fun_mk (st := s_Reader_fail) l c k).binds (ps := ["self"]) fun _ _ _ _ _ _ us hl => match us, hl with | [_], _ => rfl⟩
end
end WP
namespace WP
open PySem PySem.Spec PyProof.Rows L2
/-- all that the head tells -/
structure Fs (K : PySem.W.Frag) (mg : Str → Option Value) (C : Addr) : Prop where
  B : Bt mg
  T : Rdr K mg C
  mkI : ∀ f, Meth K C "__init__" f → Mk K C f
  wR : Wt K mg "RESERVED" RES
  wS : Wt K mg "SIGNS" SGN
  wO : Wt K mg "OPERATORS" OPS
  wK : Wt K mg "KINDS" KDS
  hG : ∃ t, mg "GREATEST" = some (.int 4294967295 t)
  hL : ∃ t, mg "LONGEST_NAME" = some (.int 16 t)
  hN : ∃ t, mg "MOST_NOTS" = some (.int 8 t)
  hB : ∃ t, mg "MOST_BLOCKS" = some (.int 8 t)
  h__law_state : Has K mg "_law_state" s__law_state ["_law_script"]
  h__law_draw : Has K mg "_law_draw" s__law_draw ["_law_state_here", "_law_many"]
  h__law_pick : Has K mg "_law_pick" s__law_pick ["_law_state_here", "_law_row"]
  h__law_actions : Has K mg "_law_actions" s__law_actions ["_law_state_here", "_law_headers_here", "_law_refs_here"]
  h__law_args : Has K mg "_law_args" s__law_args ["_law_state_here", "_law_actions_here", "_law_name_here"]
  h__law_table : Has K mg "_law_table" s__law_table ["_law_state_here", "_law_k", "_law_actions_here", "_law_refs_here"]
  h__law_test : Has K mg "_law_test" s__law_test ["_law_state_here", "_law_headers_here", "_law_refs_here", "_law_deep"]
  h__law_control : Has K mg "_law_control" s__law_control ["_law_state_here", "_law_headers_here", "_law_refs_here", "_law_names", "_law_nested", "_law_left"]
  h__law_program : Has K mg "_law_program" s__law_program ["_law_state_here"]
  h__law_name : Has K mg "_law_name" s__law_name ["_law_state_here", "_law_k"]
  h__law_fields : Has K mg "_law_fields" s__law_fields ["_law_state_here", "_law_bits"]
  h__law_headers : Has K mg "_law_headers" s__law_headers ["_law_state_here"]
  h__law_refs : Has K mg "_law_refs" s__law_refs ["_law_headers_here", "_law_meta"]
  h__law_goal : Has K mg "_law_goal" s__law_goal ["_law_state_here", "_law_names"]
  h__law_select : Has K mg "_law_select" s__law_select ["_law_state_here", "_law_refs_here", "_law_names"]
  h__law_states : Has K mg "_law_states" s__law_states ["_law_state_here", "_law_headers_here"]
  h__law_operand : Has K mg "_law_operand" s__law_operand ["_law_state_here", "_law_refs_here", "_law_params"]
  h__law_expression : Has K mg "_law_expression" s__law_expression ["_law_state_here", "_law_refs_here", "_law_params"]
  h__law_operation : Has K mg "_law_operation" s__law_operation ["_law_state_here", "_law_headers_here", "_law_refs_here", "_law_params"]
  h__law_field_text : Has K mg "_law_field_text" s__law_field_text ["_law_field"]
  h__law_expression_text : Has K mg "_law_expression_text" s__law_expression_text ["_law_e"]
  h__law_op_text : Has K mg "_law_op_text" s__law_op_text ["_law_op"]
  h__law_test_text : Has K mg "_law_test_text" s__law_test_text ["_law_test_here"]
  h__law_state_lines : Has K mg "_law_state_lines" s__law_state_lines ["_law_part"]
  h__law_table_lines : Has K mg "_law_table_lines" s__law_table_lines ["_law_table_here"]
  h__law_block_lines : Has K mg "_law_block_lines" s__law_block_lines ["_law_statements", "_law_indent"]
  h__law_lines : Has K mg "_law_lines" s__law_lines ["_law_program_here"]
  h_is_reserved : Has K mg "is_reserved" s_is_reserved ["name"]
  h_is_letter : Has K mg "is_letter" s_is_letter ["char"]
  h_is_digit : Has K mg "is_digit" s_is_digit ["char"]
  h_run_end : Has K mg "run_end" s_run_end ["text", "start"]
  h_operation : Has K mg "operation" s_operation ["reader"]
  h_state : Has K mg "state" s_state ["reader"]
  h_test : Has K mg "test" s_test ["reader"]
  h_action : Has K mg "action" s_action ["reader"]
  h_table : Has K mg "table" s_table ["reader"]
  h_repeated : Has K mg "repeated" s_repeated ["reader", "word", "parse"]
  h_block : Has K mg "block" s_block ["reader"]
  m___init__ : HasM K C "__init__" "Reader.__init__" s_Reader___init__ ["self", "text"]
  h_parse_program : Has K mg "parse_program" s_parse_program ["text"]
  h_number_value : Has K mg "number_value" s_number_value ["run"]
  h_run_token : Has K mg "run_token" s_run_token ["run", "line"]
  h_sign_at : Has K mg "sign_at" s_sign_at ["text", "at", "line"]
  h_line_tokens : Has K mg "line_tokens" s_line_tokens ["text", "line"]
  h_tokenize : Has K mg "tokenize" s_tokenize ["text"]
  m_peek : HasM K C "peek" "Reader.peek" s_Reader_peek ["self"]
  m_kind : HasM K C "kind" "Reader.kind" s_Reader_kind ["self"]
  m_sees : HasM K C "sees" "Reader.sees" s_Reader_sees ["self", "value"]
  m_skip : HasM K C "skip" "Reader.skip" s_Reader_skip ["self", "value"]
  m_need : HasM K C "need" "Reader.need" s_Reader_need ["self", "value"]
  m_take : HasM K C "take" "Reader.take" s_Reader_take ["self", "kind"]
  h_field : Has K mg "field" s_field ["reader"]
  h_operand : Has K mg "operand" s_operand ["reader"]
  h_expression : Has K mg "expression" s_expression ["reader"]
  h_target : Has K mg "target" s_target ["reader"]
  h_key : Has K mg "key" s_key ["reader"]
  h_fields : Has K mg "fields" s_fields ["reader"]
  h_numbers : Has K mg "numbers" s_numbers ["reader"]
  h_names : Has K mg "names" s_names ["reader"]
  h_header : Has K mg "header" s_header ["reader"]
  h_selection : Has K mg "selection" s_selection ["reader"]
  h__law_same : Has K mg "_law_same" s__law_same ["_law_actual", "_law_due"]
  h__law_spread : Has K mg "_law_spread" s__law_spread ["_law_state_here", "_law_lines_here"]
  h_field_text : Has K mg "field_text" s_field_text ["field"]
  h_operand_text : Has K mg "operand_text" s_operand_text ["operand"]
  h_expression_text : Has K mg "expression_text" s_expression_text ["e"]
  h_row_text : Has K mg "row_text" s_row_text ["row"]
  h_field_lines : Has K mg "field_lines" s_field_lines ["fields", "indent"]
  h_state_lines : Has K mg "state_lines" s_state_lines ["state"]
  h_operation_text : Has K mg "operation_text" s_operation_text ["op"]
  h_action_lines : Has K mg "action_lines" s_action_lines ["action"]
  h_table_lines : Has K mg "table_lines" s_table_lines ["table"]
  h_test_text : Has K mg "test_text" s_test_text ["test"]
  h_statement_lines : Has K mg "statement_lines" s_statement_lines ["statements", "indent"]
  h_write_program : Has K mg "write_program" s_write_program ["program"]
  h_hex_value : Has K mg "hex_value" s_hex_value ["digits"]
  m_fail : HasM K C "fail" "Reader.fail" s_Reader_fail ["self"]
section
variable {P : Program} {w : World} {K : PySem.W.Frag} {mg : Str → Option Value} {base : Heap} {C : Addr}
theorem ok_statement_lines_all {k : Nat} (B : Bt mg) (h : Has K mg "statement_lines" s_statement_lines ["statements", "indent"]) (c1 : Ok P w K mg base k "test_text" ["test"] (spTst 9)) : ∀ n : Nat, Ok P w K mg base (k + n) "statement_lines" ["statements", "indent"] (spStm n)
  | 0 => (h.none (fun vs H Q E h => by simp only [spStm] at h)).mono (Nat.zero_le _)
  | n + 1 => ok_statement_lines B h (c1.mono (Nat.le_add_right _ _)) n (ok_statement_lines_all B h c1 n)
theorem ok__law_block_lines_all {k : Nat} (B : Bt mg) (h : Has K mg "_law_block_lines" s__law_block_lines ["_law_statements", "_law_indent"]) (c1 : Ok P w K mg base k "_law_test_text" ["_law_test_here"] (spTst 9)) : ∀ n : Nat, Ok P w K mg base (k + n) "_law_block_lines" ["_law_statements", "_law_indent"] (spStm n)
  | 0 => (h.none (fun vs H Q E h => by simp only [spStm] at h)).mono (Nat.zero_le _)
  | n + 1 => ok__law_block_lines B h (c1.mono (Nat.le_add_right _ _)) n (ok__law_block_lines_all B h c1 n)
abbrev KTOP : Nat := 31
theorem chain (F : Fs K mg C) : Ok P w K mg base KTOP "_law_state" ["_law_script"] (spState K) ∧ Ok P w K mg base KTOP "_law_program" ["_law_state_here"] spProgram ∧ Ok P w K mg base KTOP "_law_lines" ["_law_program_here"] spLawLines ∧ Ok P w K mg base KTOP "write_program" ["program"] spWrite ∧ Ok P w K mg base KTOP "_law_same" ["_law_actual", "_law_due"] (spSame 31) ∧ Ok P w K mg base KTOP "parse_program" ["text"] spParse ∧ Ok P w K mg base KTOP "_law_spread" ["_law_state_here", "_law_lines_here"] spSpread := by
  have o__law_state := ok__law_state (P := P) (w := w) (base := base) (k := 0) F.B F.h__law_state
  have o__law_draw := ok__law_draw (P := P) (w := w) (base := base) (k := 0) F.B F.h__law_draw
  have o__law_pick := ok__law_pick (P := P) (w := w) (base := base) (k := 1) F.B F.h__law_pick (o__law_draw.mono (by decide))
  have o__law_name := ok__law_name (P := P) (w := w) (base := base) (k := 2) F.B F.h__law_name (o__law_draw.mono (by decide)) (o__law_pick.mono (by decide))
  have o__law_fields := ok__law_fields (P := P) (w := w) (base := base) (k := 3) F.B F.h__law_fields (o__law_pick.mono (by decide)) (o__law_name.mono (by decide))
  have o__law_headers := ok__law_headers (P := P) (w := w) (base := base) (k := 4) F.B F.h__law_headers (o__law_draw.mono (by decide)) (o__law_pick.mono (by decide)) (o__law_name.mono (by decide)) (o__law_fields.mono (by decide))
  have o__law_refs := ok__law_refs (P := P) (w := w) (base := base) (k := 0) F.B F.h__law_refs
  have o__law_operand := ok__law_operand (P := P) (w := w) (base := base) (k := 2) F.B F.h__law_operand (o__law_draw.mono (by decide)) (o__law_pick.mono (by decide))
  have o__law_expression := ok__law_expression (P := P) (w := w) (base := base) (k := 3) F.B F.h__law_expression (o__law_draw.mono (by decide)) (o__law_pick.mono (by decide)) (o__law_operand.mono (by decide))
  have o__law_operation := ok__law_operation (P := P) (w := w) (base := base) (k := 4) F.B F.h__law_operation (o__law_draw.mono (by decide)) (o__law_pick.mono (by decide)) (o__law_expression.mono (by decide))
  have o__law_actions := ok__law_actions (P := P) (w := w) (base := base) (k := 5) F.B F.h__law_actions (o__law_draw.mono (by decide)) (o__law_pick.mono (by decide)) (o__law_name.mono (by decide)) (o__law_operation.mono (by decide))
  have o__law_args := ok__law_args (P := P) (w := w) (base := base) (k := 2) F.B F.h__law_args (o__law_draw.mono (by decide)) (o__law_pick.mono (by decide))
  have o__law_table := ok__law_table (P := P) (w := w) (base := base) (k := 3) F.B F.h__law_table (o__law_draw.mono (by decide)) (o__law_pick.mono (by decide)) (o__law_name.mono (by decide)) (o__law_args.mono (by decide))
  have o__law_test := ok__law_test_all (P := P) (w := w) (base := base) (k := 2) F.B F.h__law_test (o__law_draw.mono (by decide)) (o__law_pick.mono (by decide)) 4
  have o__law_control := ok__law_control_all (P := P) (w := w) (base := base) (k := 6) F.B F.h__law_control (o__law_draw.mono (by decide)) (o__law_test.mono (by decide)) 7
  have o__law_goal := ok__law_goal (P := P) (w := w) (base := base) (k := 2) F.B F.h__law_goal (o__law_draw.mono (by decide)) (o__law_pick.mono (by decide))
  have o__law_select := ok__law_select (P := P) (w := w) (base := base) (k := 3) F.B F.h__law_select (o__law_draw.mono (by decide)) (o__law_pick.mono (by decide)) (o__law_goal.mono (by decide))
  have o__law_states := ok__law_states (P := P) (w := w) (base := base) (k := 4) F.B F.h__law_states (o__law_draw.mono (by decide)) (o__law_pick.mono (by decide)) (o__law_name.mono (by decide)) (o__law_goal.mono (by decide)) (o__law_select.mono (by decide))
  have o__law_program := ok__law_program (P := P) (w := w) (base := base) (k := 13) F.B F.h__law_program (o__law_draw.mono (by decide)) (o__law_pick.mono (by decide)) (o__law_name.mono (by decide)) (o__law_headers.mono (by decide)) (o__law_refs.mono (by decide)) (o__law_actions.mono (by decide)) (o__law_table.mono (by decide)) (o__law_control.mono (by decide)) (o__law_states.mono (by decide))
  have o__law_field_text := ok__law_field_text (P := P) (w := w) (base := base) (k := 0) F.h__law_field_text
  have o__law_state_lines := ok__law_state_lines (P := P) (w := w) (base := base) (k := 1) F.B F.h__law_state_lines (o__law_field_text.mono (by decide))
  have o__law_expression_text := ok__law_expression_text_all (P := P) (w := w) (base := base) F.B F.h__law_expression_text 2
  have o__law_op_text := ok__law_op_text (P := P) (w := w) (base := base) (k := 2) F.h__law_op_text (o__law_field_text.mono (by decide)) (o__law_expression_text.mono (by decide))
  have o__law_table_lines := ok__law_table_lines (P := P) (w := w) (base := base) (k := 1) F.B F.h__law_table_lines (o__law_field_text.mono (by decide))
  have o__law_test_text := ok__law_test_text_all (P := P) (w := w) (base := base) (k := 1) F.B F.h__law_test_text (o__law_field_text.mono (by decide)) 9
  have o__law_block_lines := ok__law_block_lines_all (P := P) (w := w) (base := base) (k := 10) F.B F.h__law_block_lines (o__law_test_text.mono (by decide)) 8
  have o__law_lines := ok__law_lines (P := P) (w := w) (base := base) (k := 18) F.B F.h__law_lines (o__law_state_lines.mono (by decide)) (o__law_op_text.mono (by decide)) (o__law_table_lines.mono (by decide)) (o__law_block_lines.mono (by decide))
  have o_field_lines := ok_field_lines (P := P) (w := w) (base := base) (k := 0) F.B F.h_field_lines
  have o_field_text := ok_field_text (P := P) (w := w) (base := base) (k := 0) F.h_field_text
  have o_row_text := ok_row_text (P := P) (w := w) (base := base) (k := 0) F.B F.h_row_text
  have o_state_lines := ok_state_lines (P := P) (w := w) (base := base) (k := 1) F.h_state_lines (o_field_text.mono (by decide)) (o_row_text.mono (by decide))
  have o_operand_text := ok_operand_text (P := P) (w := w) (base := base) (k := 0) F.B F.h_operand_text
  have o_expression_text := ok_expression_text (P := P) (w := w) (base := base) (k := 1) F.h_expression_text (o_operand_text.mono (by decide))
  have o_operation_text := ok_operation_text (P := P) (w := w) (base := base) (k := 2) F.h_operation_text (o_field_text.mono (by decide)) (o_expression_text.mono (by decide))
  have o_action_lines := ok_action_lines (P := P) (w := w) (base := base) (k := 3) F.B F.h_action_lines (o_operation_text.mono (by decide))
  have o_table_lines := ok_table_lines (P := P) (w := w) (base := base) (k := 1) F.B F.h_table_lines (o_field_text.mono (by decide))
  have o_test_text := ok_test_text_all (P := P) (w := w) (base := base) (k := 1) F.B F.h_test_text (o_field_text.mono (by decide)) 9
  have o_statement_lines := ok_statement_lines_all (P := P) (w := w) (base := base) (k := 10) F.B F.h_statement_lines (o_test_text.mono (by decide)) 8
  have o_write_program := ok_write_program (P := P) (w := w) (base := base) (k := 18) F.B F.h_write_program (o_field_lines.mono (by decide)) (o_state_lines.mono (by decide)) (o_action_lines.mono (by decide)) (o_table_lines.mono (by decide)) (o_statement_lines.mono (by decide))
  have o__law_same := ok__law_same_all (P := P) (w := w) (base := base) F.B F.h__law_same 31
  have m_kind := ok_kind (P := P) (w := w) (base := base) (k := 0) F.T F.m_kind
  have m_peek := ok_peek (P := P) (w := w) (base := base) (k := 0) F.T F.m_peek
  have m_sees := ok_sees (P := P) (w := w) (base := base) (k := 1) F.T F.m_sees (m_kind.mono (by decide)) (m_peek.mono (by decide))
  have m_skip := ok_skip (P := P) (w := w) (base := base) (k := 2) F.T F.m_skip (m_sees.mono (by decide))
  have m_fail : OkM P w K mg base C 0 "fail" ["self"] spNo := F.m_fail.none fun _ _ _ _ h => h
  have m_need := ok_need (P := P) (w := w) (base := base) (k := 3) F.T F.m_need (m_skip.mono (by decide)) (m_fail.mono (by decide))
  have m_take := ok_take (P := P) (w := w) (base := base) (k := 1) F.T F.m_take (m_kind.mono (by decide)) (m_fail.mono (by decide))
  have RR : RM P w K mg base C 4 := ⟨F.T, m_skip.mono (by decide), m_need.mono (by decide), m_take.mono (by decide), m_kind.mono (by decide), m_sees.mono (by decide), m_fail.mono (by decide)⟩
  have o_is_letter := ok_is_letter (P := P) (w := w) (base := base) (k := 0) F.h_is_letter
  have o_is_digit := ok_is_digit (P := P) (w := w) (base := base) (k := 0) F.h_is_digit
  have o_run_end := ok_run_end (P := P) (w := w) (base := base) (k := 1) F.B F.h_run_end (o_is_letter.mono (by decide)) (o_is_digit.mono (by decide))
  have o_hex_value : Ok P w K mg base 0 "hex_value" ["digits"] spNo := F.h_hex_value.none fun _ _ _ _ h => h
  have o_number_value := ok_number_value (P := P) (w := w) (base := base) (k := 1) F.B F.hG F.h_number_value (o_hex_value.mono (by decide)) (o_is_digit.mono (by decide))
  have o_is_reserved := ok_is_reserved (P := P) (w := w) (base := base) (k := 0) F.wR F.h_is_reserved
  have o_run_token := ok_run_token (P := P) (w := w) (base := base) (k := 2) F.B F.hL F.h_run_token (o_number_value.mono (by decide)) (o_is_digit.mono (by decide)) (o_is_reserved.mono (by decide))
  have o_sign_at := ok_sign_at (P := P) (w := w) (base := base) (k := 0) F.B F.wS F.h_sign_at
  have o_line_tokens := ok_line_tokens (P := P) (w := w) (base := base) (k := 3) F.B F.h_line_tokens (o_is_letter.mono (by decide)) (o_is_digit.mono (by decide)) (o_run_end.mono (by decide)) (o_run_token.mono (by decide)) (o_sign_at.mono (by decide))
  have o_tokenize := ok_tokenize (P := P) (w := w) (base := base) (k := 4) F.B F.h_tokenize (o_line_tokens.mono (by decide))
  have m___init__ := ok_init (P := P) (w := w) (base := base) (k := 5) F.T F.m___init__ (o_tokenize.mono (by decide))
  have o_fields := ok_fields (P := P) (w := w) (base := base) (k := 4) (RR.mono (by decide)) F.h_fields
  have o_header := ok_header (P := P) (w := w) (base := base) (k := 5) (RR.mono (by decide)) F.h_header (o_fields.mono (by decide))
  have o_field := ok_field (P := P) (w := w) (base := base) (k := 4) (RR.mono (by decide)) F.h_field
  have o_target := ok_target (P := P) (w := w) (base := base) (k := 4) (RR.mono (by decide)) F.h_target
  have o_selection := ok_selection (P := P) (w := w) (base := base) (k := 5) (RR.mono (by decide)) F.h_selection (o_field.mono (by decide)) (o_target.mono (by decide))
  have o_state := ok_state (P := P) (w := w) (base := base) (k := 6) (RR.mono (by decide)) F.h_state (o_selection.mono (by decide)) (o_target.mono (by decide))
  have o_operand := ok_operand (P := P) (w := w) (base := base) (k := 5) (RR.mono (by decide)) F.h_operand (o_field.mono (by decide))
  have o_expression := ok_expression (P := P) (w := w) (base := base) (k := 6) (RR.mono (by decide)) F.wO F.h_expression (o_operand.mono (by decide))
  have o_operation := ok_operation (P := P) (w := w) (base := base) (k := 7) (RR.mono (by decide)) F.h_operation (o_field.mono (by decide)) (o_expression.mono (by decide))
  have o_action := ok_action (P := P) (w := w) (base := base) (k := 8) F.B (RR.mono (by decide)) F.h_action (o_operation.mono (by decide))
  have o_key := ok_key (P := P) (w := w) (base := base) (k := 5) (RR.mono (by decide)) F.wK F.h_key (o_field.mono (by decide))
  have o_numbers := ok_numbers (P := P) (w := w) (base := base) (k := 4) F.B (RR.mono (by decide)) F.h_numbers
  have o_table := ok_table (P := P) (w := w) (base := base) (k := 6) (RR.mono (by decide)) F.h_table (o_key.mono (by decide)) (o_numbers.mono (by decide))
  have o_test := ok_test (P := P) (w := w) (base := base) (k := 5) F.B F.hN (RR.mono (by decide)) F.h_test (o_field.mono (by decide))
  have o_block := ok_block_all (P := P) (w := w) (base := base) (k := 6) F.hB (RR.mono (by decide)) F.h_block (o_test.mono (by decide)) 8
  have o_names := ok_names (P := P) (w := w) (base := base) (k := 4) (RR.mono (by decide)) F.h_names
  have o_repeated := ok_repeated (P := P) (w := w) (base := base) (k := 14) (RR.mono (by decide)) F.h_repeated
  have o_parse_program := ok_parse_program (P := P) (w := w) (base := base) (k := 14) F.mkI (RR.mono (by decide)) F.h_parse_program (m___init__.mono (by decide)) o_repeated (o_header.mono (by decide)) (o_fields.mono (by decide)) (o_state.mono (by decide)) (o_action.mono (by decide)) (o_table.mono (by decide)) (o_block.mono (by decide)) (o_names.mono (by decide))
  have o__law_spread := ok__law_spread (P := P) (w := w) (base := base) (k := 2) F.B F.h__law_spread (o__law_draw.mono (by decide)) (o__law_pick.mono (by decide))
  exact ⟨o__law_state.mono (by decide), o__law_program.mono (by decide), o__law_lines.mono (by decide), o_write_program.mono (by decide), o__law_same.mono (by decide), o_parse_program.mono (by decide), o__law_spread.mono (by decide)⟩
end
end WP
namespace WP
open PySem PySem.Spec PyProof.Rows L2
def strV : Value → Option Str
  | .str x _ => some x
  | _ => none
theorem vals_strs : ∀ {l : List Str} {us : List Value}, us.map strV = l.map some → Vals (l.map V.str) us
  | [], [], _ => .nil
  | [], _ :: _, e => by cases e
  | _ :: _, [], e => by cases e
  | x :: l, u :: us, e => by
    simp only [List.map_cons, List.cons.injEq] at e
    refine .cons ?_ (vals_strs e.2)
    cases u <;> simp only [strV, reduceCtorEq, Option.some.injEq, false_and] at e
    obtain ⟨rfl, _⟩ := e
    exact ⟨_, rfl⟩
theorem wt_of {K : PySem.W.Frag} {h : Heap} {mg : Str → Option Value} {x : Str} {l : List Str} {t : Addr} {od : Option Addr} {its : Array Value} {n : Nat} {sl : Array (Option Value)} (X : K.In h) (G : h.Ns mainGlobals mg)
    (a : PySem.W.nsIn K mainGlobals x = some (some (.ref t))) (e : K.lookup t = some ⟨.type "tuple", od, .seq its n, sl⟩) (z : its.size ≤ sizeLine) (v : Vals (l.map V.str) its.toList) : Wt K mg x l :=
  ⟨t, PySem.W.mg_of X G a, fun _ => .inr ⟨_, its, n, e, rfl, rfl, z, v⟩⟩
theorem room_law : Room (KTOP + 1) callerA := ⟨rfl, by decide, by decide⟩
theorem walk {l : PySem.W.OpenLaw} {q : Program} {loose : List Str} {XP : (Str → Option Value) → Heap → Prop} {YP : World → Heap → Prop} {d : DefRec} {K : Params → PySem.W.Frag} (hn : l.most = some 63) (hdf : d.params.defaults = [])
    (hY : ∀ (w : World) (h : Heap), YP w h → (K w.params).In h)
    (F : ∀ (w : World) (mg : Str → Option Value) (fa : Addr) (h : Heap), (K w.params).In h → h.Ns mainGlobals mg → mg d.name = some (.ref fa) →
      ∃ (C : Addr) (fd : FuncData), Fs (K w.params) mg C ∧ Fun (K w.params) "law" "law" s_law fa fd ∧ ∀ (s : Shared) (u : Value), BindsTo s fd ⟨[u], []⟩ [("_law_script", u)]) :
    PySem.W.WalkO q loose XP YP l.row.toRowW d [] (fun f vs => PySem.call f vs) := by
  refine Att.attach_call hn hdf fun w s₀ s₁ mg mb fa o pm cd doc a vs ns G Y ho hd hcd hmg hobj hints hlen hg => ?_
  have KX := hY w _ Y
  obtain ⟨C, fd, FS, FN, hb⟩ := F w mg fa _ KX G.T.g hmg
  refine law_at (k := KTOP) KX G.T.g G.T.b G.T.builtins G.T.nolimit hg hobj hints (Nat.le_trans hlen (by decide)) room_law FN sc_law hb fun base H cdv E _ _ hS hr => ?_
  obtain ⟨c1, c2, c3, c4, c5, c6, c7⟩ := chain (P := l.row.toRowW.prog) (w := w) (base := base) FS
  exact law_body FS.B c1 c2 c3 c4 c5 c6 c7 hr hS (Nat.le_trans hlen (by decide))
theorem all_mk {K : PySem.W.Frag} {h : Heap} {mg : Str → Option Value} {fa C f_law : Addr} {t_hG : _} {t_hL : _} {t_hN : _} {t_hB : _} {od_law an_law : Option Addr} {sl_law : Array (Option Value)} {oc_law kV_law dc_law pm_law cd_law ct_law : Value} (X : K.In h) (G : h.Ns mainGlobals mg) (hfa : mg "law" = some (.ref fa))
    (aC : PySem.W.nsIn K mainGlobals "Reader" = some (some (.ref C)))
    (pg : PySem.W.plainGet K C Str.empty = true)
    (hd : PySem.W.hasDictIn K C = true)
    (po : PySem.W.plainOver K C = true)
    (sa : PySem.W.findIn K (.ref C) "__setattr__" = some (some (.builtin "object.__setattr__")))
    (mk : PySem.W.makesIn K C = true)
    (kc : PySem.W.keepIn K (.ref C) = true)
    (n_tokens : PySem.W.findIn K (.ref C) "tokens" = some none)
    (n_at : PySem.W.findIn K (.ref C) "at" = some none)
    (n_blocks : PySem.W.findIn K (.ref C) "blocks" = some none)
    (z_len : PySem.W.nsIn K mainGlobals "len" = some none)
    (z_range : PySem.W.nsIn K mainGlobals "range" = some none)
    (z_str : PySem.W.nsIn K mainGlobals "str" = some none)
    (z_int : PySem.W.nsIn K mainGlobals "int" = some none)
    (z_min : PySem.W.nsIn K mainGlobals "min" = some none)
    (z_abs : PySem.W.nsIn K mainGlobals "abs" = some none)
    (z_list : PySem.W.nsIn K mainGlobals "list" = some none)
    (z_tuple : PySem.W.nsIn K mainGlobals "tuple" = some none)
    (z_bool : PySem.W.nsIn K mainGlobals "bool" = some none)
    (z_isinstance : PySem.W.nsIn K mainGlobals "isinstance" = some none)
    (z_repr : PySem.W.nsIn K mainGlobals "repr" = some none)
    (z_all : PySem.W.nsIn K mainGlobals "all" = some none)
    (z_enumerate : PySem.W.nsIn K mainGlobals "enumerate" = some none)
    (z_ord : PySem.W.nsIn K mainGlobals "ord" = some none)
    (hG : PySem.W.nsIn K mainGlobals "GREATEST" = some (some (.int 4294967295 t_hG)))
    (hL : PySem.W.nsIn K mainGlobals "LONGEST_NAME" = some (some (.int 16 t_hL)))
    (hN : PySem.W.nsIn K mainGlobals "MOST_NOTS" = some (some (.int 8 t_hN)))
    (hB : PySem.W.nsIn K mainGlobals "MOST_BLOCKS" = some (some (.int 8 t_hB)))
    (wR : Wt K mg "RESERVED" RES)
    (wS : Wt K mg "SIGNS" SGN)
    (wO : Wt K mg "OPERATORS" OPS)
    (wK : Wt K mg "KINDS" KDS)
    (a_law : PySem.W.nsIn K mainGlobals "law" = some (some (.ref f_law)))
    (l_law : K.lookup f_law = some ⟨oc_law, od_law, .func (PySem.W.fnOf "law" "law" (defArgs s_law) (defBody s_law) (defScope s_law) .none kV_law dc_law pm_law an_law cd_law ct_law), sl_law⟩)
    (c_law : PySem.W.codeIn K cd_law "law" = true)
    (k_law : PySem.W.keepIn K (.ref f_law) = true)
    (h__law_state : Has K mg "_law_state" s__law_state ["_law_script"])
    (h__law_draw : Has K mg "_law_draw" s__law_draw ["_law_state_here", "_law_many"])
    (h__law_pick : Has K mg "_law_pick" s__law_pick ["_law_state_here", "_law_row"])
    (h__law_actions : Has K mg "_law_actions" s__law_actions ["_law_state_here", "_law_headers_here", "_law_refs_here"])
    (h__law_args : Has K mg "_law_args" s__law_args ["_law_state_here", "_law_actions_here", "_law_name_here"])
    (h__law_table : Has K mg "_law_table" s__law_table ["_law_state_here", "_law_k", "_law_actions_here", "_law_refs_here"])
    (h__law_test : Has K mg "_law_test" s__law_test ["_law_state_here", "_law_headers_here", "_law_refs_here", "_law_deep"])
    (h__law_control : Has K mg "_law_control" s__law_control ["_law_state_here", "_law_headers_here", "_law_refs_here", "_law_names", "_law_nested", "_law_left"])
    (h__law_program : Has K mg "_law_program" s__law_program ["_law_state_here"])
    (h__law_name : Has K mg "_law_name" s__law_name ["_law_state_here", "_law_k"])
    (h__law_fields : Has K mg "_law_fields" s__law_fields ["_law_state_here", "_law_bits"])
    (h__law_headers : Has K mg "_law_headers" s__law_headers ["_law_state_here"])
    (h__law_refs : Has K mg "_law_refs" s__law_refs ["_law_headers_here", "_law_meta"])
    (h__law_goal : Has K mg "_law_goal" s__law_goal ["_law_state_here", "_law_names"])
    (h__law_select : Has K mg "_law_select" s__law_select ["_law_state_here", "_law_refs_here", "_law_names"])
    (h__law_states : Has K mg "_law_states" s__law_states ["_law_state_here", "_law_headers_here"])
    (h__law_operand : Has K mg "_law_operand" s__law_operand ["_law_state_here", "_law_refs_here", "_law_params"])
    (h__law_expression : Has K mg "_law_expression" s__law_expression ["_law_state_here", "_law_refs_here", "_law_params"])
    (h__law_operation : Has K mg "_law_operation" s__law_operation ["_law_state_here", "_law_headers_here", "_law_refs_here", "_law_params"])
    (h__law_field_text : Has K mg "_law_field_text" s__law_field_text ["_law_field"])
    (h__law_expression_text : Has K mg "_law_expression_text" s__law_expression_text ["_law_e"])
    (h__law_op_text : Has K mg "_law_op_text" s__law_op_text ["_law_op"])
    (h__law_test_text : Has K mg "_law_test_text" s__law_test_text ["_law_test_here"])
    (h__law_state_lines : Has K mg "_law_state_lines" s__law_state_lines ["_law_part"])
    (h__law_table_lines : Has K mg "_law_table_lines" s__law_table_lines ["_law_table_here"])
    (h__law_block_lines : Has K mg "_law_block_lines" s__law_block_lines ["_law_statements", "_law_indent"])
    (h__law_lines : Has K mg "_law_lines" s__law_lines ["_law_program_here"])
    (h_is_reserved : Has K mg "is_reserved" s_is_reserved ["name"])
    (h_is_letter : Has K mg "is_letter" s_is_letter ["char"])
    (h_is_digit : Has K mg "is_digit" s_is_digit ["char"])
    (h_run_end : Has K mg "run_end" s_run_end ["text", "start"])
    (h_operation : Has K mg "operation" s_operation ["reader"])
    (h_state : Has K mg "state" s_state ["reader"])
    (h_test : Has K mg "test" s_test ["reader"])
    (h_action : Has K mg "action" s_action ["reader"])
    (h_table : Has K mg "table" s_table ["reader"])
    (h_repeated : Has K mg "repeated" s_repeated ["reader", "word", "parse"])
    (h_block : Has K mg "block" s_block ["reader"])
    (h_parse_program : Has K mg "parse_program" s_parse_program ["text"])
    (h_number_value : Has K mg "number_value" s_number_value ["run"])
    (h_run_token : Has K mg "run_token" s_run_token ["run", "line"])
    (h_sign_at : Has K mg "sign_at" s_sign_at ["text", "at", "line"])
    (h_line_tokens : Has K mg "line_tokens" s_line_tokens ["text", "line"])
    (h_tokenize : Has K mg "tokenize" s_tokenize ["text"])
    (h_field : Has K mg "field" s_field ["reader"])
    (h_operand : Has K mg "operand" s_operand ["reader"])
    (h_expression : Has K mg "expression" s_expression ["reader"])
    (h_target : Has K mg "target" s_target ["reader"])
    (h_key : Has K mg "key" s_key ["reader"])
    (h_fields : Has K mg "fields" s_fields ["reader"])
    (h_numbers : Has K mg "numbers" s_numbers ["reader"])
    (h_names : Has K mg "names" s_names ["reader"])
    (h_header : Has K mg "header" s_header ["reader"])
    (h_selection : Has K mg "selection" s_selection ["reader"])
    (h__law_same : Has K mg "_law_same" s__law_same ["_law_actual", "_law_due"])
    (h__law_spread : Has K mg "_law_spread" s__law_spread ["_law_state_here", "_law_lines_here"])
    (h_field_text : Has K mg "field_text" s_field_text ["field"])
    (h_operand_text : Has K mg "operand_text" s_operand_text ["operand"])
    (h_expression_text : Has K mg "expression_text" s_expression_text ["e"])
    (h_row_text : Has K mg "row_text" s_row_text ["row"])
    (h_field_lines : Has K mg "field_lines" s_field_lines ["fields", "indent"])
    (h_state_lines : Has K mg "state_lines" s_state_lines ["state"])
    (h_operation_text : Has K mg "operation_text" s_operation_text ["op"])
    (h_action_lines : Has K mg "action_lines" s_action_lines ["action"])
    (h_table_lines : Has K mg "table_lines" s_table_lines ["table"])
    (h_test_text : Has K mg "test_text" s_test_text ["test"])
    (h_statement_lines : Has K mg "statement_lines" s_statement_lines ["statements", "indent"])
    (h_write_program : Has K mg "write_program" s_write_program ["program"])
    (h_hex_value : Has K mg "hex_value" s_hex_value ["digits"])
    (m___init__ : HasM K C "__init__" "Reader.__init__" s_Reader___init__ ["self", "text"])
    (m_peek : HasM K C "peek" "Reader.peek" s_Reader_peek ["self"])
    (m_kind : HasM K C "kind" "Reader.kind" s_Reader_kind ["self"])
    (m_sees : HasM K C "sees" "Reader.sees" s_Reader_sees ["self", "value"])
    (m_skip : HasM K C "skip" "Reader.skip" s_Reader_skip ["self", "value"])
    (m_need : HasM K C "need" "Reader.need" s_Reader_need ["self", "value"])
    (m_take : HasM K C "take" "Reader.take" s_Reader_take ["self", "kind"])
    (m_fail : HasM K C "fail" "Reader.fail" s_Reader_fail ["self"]) :
    ∃ (C : Addr) (fd : FuncData), Fs K mg C ∧ Fun K "law" "law" s_law fa fd ∧ ∀ (s : Shared) (u : Value), BindsTo s fd ⟨[u], []⟩ [("_law_script", u)] := by
  have e := hfa.symm.trans (PySem.W.mg_of X G a_law)
  cases e
  exact ⟨C, _, ⟨⟨PySem.W.mg_none_of X G z_len, PySem.W.mg_none_of X G z_range, PySem.W.mg_none_of X G z_str, PySem.W.mg_none_of X G z_int, PySem.W.mg_none_of X G z_min, PySem.W.mg_none_of X G z_abs, PySem.W.mg_none_of X G z_list, PySem.W.mg_none_of X G z_tuple, PySem.W.mg_none_of X G z_bool, PySem.W.mg_none_of X G z_isinstance, PySem.W.mg_none_of X G z_repr, PySem.W.mg_none_of X G z_all, PySem.W.mg_none_of X G z_enumerate, PySem.W.mg_none_of X G z_ord⟩, ⟨⟨pg, hd, po, sa⟩, n_tokens, n_at, n_blocks, PySem.W.mg_of X G aC⟩, fun f m => ⟨mk, m.at_, m.fn, kc⟩, wR, wS, wO, wK, ⟨_, PySem.W.mg_of X G hG⟩, ⟨_, PySem.W.mg_of X G hL⟩, ⟨_, PySem.W.mg_of X G hN⟩, ⟨_, PySem.W.mg_of X G hB⟩, h__law_state, h__law_draw, h__law_pick, h__law_actions, h__law_args, h__law_table, h__law_test, h__law_control, h__law_program, h__law_name, h__law_fields, h__law_headers, h__law_refs, h__law_goal, h__law_select, h__law_states, h__law_operand, h__law_expression, h__law_operation, h__law_field_text, h__law_expression_text, h__law_op_text, h__law_test_text, h__law_state_lines, h__law_table_lines, h__law_block_lines, h__law_lines, h_is_reserved, h_is_letter, h_is_digit, h_run_end, h_operation, h_state, h_test, h_action, h_table, h_repeated, h_block, m___init__, h_parse_program, h_number_value, h_run_token, h_sign_at, h_line_tokens, h_tokenize, m_peek, m_kind, m_sees, m_skip, m_need, m_take, h_field, h_operand, h_expression, h_target, h_key, h_fields, h_numbers, h_names, h_header, h_selection, h__law_same, h__law_spread, h_field_text, h_operand_text, h_expression_text, h_row_text, h_field_lines, h_state_lines, h_operation_text, h_action_lines, h_table_lines, h_test_text, h_statement_lines, h_write_program, h_hex_value, m_fail⟩, fun_mk (st := s_law) l_law c_law k_law, fun s v => .of_eq rfl⟩
end WP
open PySem PySem.W PyProof.Rows in
set_option maxHeartbeats 0 in
theorem PySem.Challenge.cw_wholepackets_k03_whole_programs_come_bac_holds : PySem.Challenge.rw_wholepackets_k03_whole_programs_come_bac.Holds := by
  w_on; o_law; k_head; (case hw => w_witness2)
  k_fill
  refine WP.walk (l := PySem.Challenge.rw_wholepackets_k03_whole_programs_come_bac) rfl rfl (fun w h Y => PySem.W.kIn_of Y) ?F
  case F =>
    intro w mg fa h KX G hmg
    refine' WP.all_mk KX G hmg ?aC ?pg ?hd ?po ?sa ?mk ?kc ?n_tokens ?n_at ?n_blocks ?z_len ?z_range ?z_str ?z_int ?z_min ?z_abs ?z_list ?z_tuple ?z_bool ?z_isinstance ?z_repr ?z_all ?z_enumerate ?z_ord ?hG ?hL ?hN ?hB ?wR ?wS ?wO ?wK ?a_law ?l_law ?c_law ?k_law ?h__law_state ?h__law_draw ?h__law_pick ?h__law_actions ?h__law_args ?h__law_table ?h__law_test ?h__law_control ?h__law_program ?h__law_name ?h__law_fields ?h__law_headers ?h__law_refs ?h__law_goal ?h__law_select ?h__law_states ?h__law_operand ?h__law_expression ?h__law_operation ?h__law_field_text ?h__law_expression_text ?h__law_op_text ?h__law_test_text ?h__law_state_lines ?h__law_table_lines ?h__law_block_lines ?h__law_lines ?h_is_reserved ?h_is_letter ?h_is_digit ?h_run_end ?h_operation ?h_state ?h_test ?h_action ?h_table ?h_repeated ?h_block ?h_parse_program ?h_number_value ?h_run_token ?h_sign_at ?h_line_tokens ?h_tokenize ?h_field ?h_operand ?h_expression ?h_target ?h_key ?h_fields ?h_numbers ?h_names ?h_header ?h_selection ?h__law_same ?h__law_spread ?h_field_text ?h_operand_text ?h_expression_text ?h_row_text ?h_field_lines ?h_state_lines ?h_operation_text ?h_action_lines ?h_table_lines ?h_test_text ?h_statement_lines ?h_write_program ?h_hex_value ?m___init__ ?m_peek ?m_kind ?m_sees ?m_skip ?m_need ?m_take ?m_fail
    (case aC => k_is)
    (case pg => k_is)
    (case hd => k_is)
    (case po => k_is)
    (case sa => k_is)
    (case mk => k_is)
    (case kc => k_is)
    (case n_tokens => k_is)
    (case n_at => k_is)
    (case n_blocks => k_is)
    (case z_len => k_is)
    (case z_range => k_is)
    (case z_str => k_is)
    (case z_int => k_is)
    (case z_min => k_is)
    (case z_abs => k_is)
    (case z_list => k_is)
    (case z_tuple => k_is)
    (case z_bool => k_is)
    (case z_isinstance => k_is)
    (case z_repr => k_is)
    (case z_all => k_is)
    (case z_enumerate => k_is)
    (case z_ord => k_is)
    (case hG => k_is)
    (case hL => k_is)
    (case hN => k_is)
    (case hB => k_is)
    (case wR => (refine' WP.wt_of KX G ?a ?e ?z ?v; (case a => k_is); (case e => k_is); (case z => decide +kernel); (case v => exact WP.vals_strs (by decide +kernel))))
    (case wS => (refine' WP.wt_of KX G ?a ?e ?z ?v; (case a => k_is); (case e => k_is); (case z => decide +kernel); (case v => exact WP.vals_strs (by decide +kernel))))
    (case wO => (refine' WP.wt_of KX G ?a ?e ?z ?v; (case a => k_is); (case e => k_is); (case z => decide +kernel); (case v => exact WP.vals_strs (by decide +kernel))))
    (case wK => (refine' WP.wt_of KX G ?a ?e ?z ?v; (case a => k_is); (case e => k_is); (case z => decide +kernel); (case v => exact WP.vals_strs (by decide +kernel))))
    (case a_law => k_is)
    (case l_law => k_is)
    (case c_law => k_is)
    (case k_law => k_is)
    (case h__law_state => (refine' WP.has__law_state KX G ?a ?l ?c ?k; (case a => k_is); (case l => k_is); (case c => k_is); (case k => k_is)))
    (case h__law_draw => (refine' WP.has__law_draw KX G ?a ?l ?c ?k; (case a => k_is); (case l => k_is); (case c => k_is); (case k => k_is)))
    (case h__law_pick => (refine' WP.has__law_pick KX G ?a ?l ?c ?k; (case a => k_is); (case l => k_is); (case c => k_is); (case k => k_is)))
    (case h__law_actions => (refine' WP.has__law_actions KX G ?a ?l ?c ?k; (case a => k_is); (case l => k_is); (case c => k_is); (case k => k_is)))
    (case h__law_args => (refine' WP.has__law_args KX G ?a ?l ?c ?k; (case a => k_is); (case l => k_is); (case c => k_is); (case k => k_is)))
    (case h__law_table => (refine' WP.has__law_table KX G ?a ?l ?c ?k; (case a => k_is); (case l => k_is); (case c => k_is); (case k => k_is)))
    (case h__law_test => (refine' WP.has__law_test KX G ?a ?l ?c ?k; (case a => k_is); (case l => k_is); (case c => k_is); (case k => k_is)))
    (case h__law_control => (refine' WP.has__law_control KX G ?a ?l ?c ?k; (case a => k_is); (case l => k_is); (case c => k_is); (case k => k_is)))
    (case h__law_program => (refine' WP.has__law_program KX G ?a ?l ?c ?k; (case a => k_is); (case l => k_is); (case c => k_is); (case k => k_is)))
    (case h__law_name => (refine' WP.has__law_name KX G ?a ?l ?c ?k; (case a => k_is); (case l => k_is); (case c => k_is); (case k => k_is)))
    (case h__law_fields => (refine' WP.has__law_fields KX G ?a ?l ?c ?k; (case a => k_is); (case l => k_is); (case c => k_is); (case k => k_is)))
    (case h__law_headers => (refine' WP.has__law_headers KX G ?a ?l ?c ?k; (case a => k_is); (case l => k_is); (case c => k_is); (case k => k_is)))
    (case h__law_refs => (refine' WP.has__law_refs KX G ?a ?l ?c ?k; (case a => k_is); (case l => k_is); (case c => k_is); (case k => k_is)))
    (case h__law_goal => (refine' WP.has__law_goal KX G ?a ?l ?c ?k; (case a => k_is); (case l => k_is); (case c => k_is); (case k => k_is)))
    (case h__law_select => (refine' WP.has__law_select KX G ?a ?l ?c ?k; (case a => k_is); (case l => k_is); (case c => k_is); (case k => k_is)))
    (case h__law_states => (refine' WP.has__law_states KX G ?a ?l ?c ?k; (case a => k_is); (case l => k_is); (case c => k_is); (case k => k_is)))
    (case h__law_operand => (refine' WP.has__law_operand KX G ?a ?l ?c ?k; (case a => k_is); (case l => k_is); (case c => k_is); (case k => k_is)))
    (case h__law_expression => (refine' WP.has__law_expression KX G ?a ?l ?c ?k; (case a => k_is); (case l => k_is); (case c => k_is); (case k => k_is)))
    (case h__law_operation => (refine' WP.has__law_operation KX G ?a ?l ?c ?k; (case a => k_is); (case l => k_is); (case c => k_is); (case k => k_is)))
    (case h__law_field_text => (refine' WP.has__law_field_text KX G ?a ?l ?c ?k; (case a => k_is); (case l => k_is); (case c => k_is); (case k => k_is)))
    (case h__law_expression_text => (refine' WP.has__law_expression_text KX G ?a ?l ?c ?k; (case a => k_is); (case l => k_is); (case c => k_is); (case k => k_is)))
    (case h__law_op_text => (refine' WP.has__law_op_text KX G ?a ?l ?c ?k; (case a => k_is); (case l => k_is); (case c => k_is); (case k => k_is)))
    (case h__law_test_text => (refine' WP.has__law_test_text KX G ?a ?l ?c ?k; (case a => k_is); (case l => k_is); (case c => k_is); (case k => k_is)))
    (case h__law_state_lines => (refine' WP.has__law_state_lines KX G ?a ?l ?c ?k; (case a => k_is); (case l => k_is); (case c => k_is); (case k => k_is)))
    (case h__law_table_lines => (refine' WP.has__law_table_lines KX G ?a ?l ?c ?k; (case a => k_is); (case l => k_is); (case c => k_is); (case k => k_is)))
    (case h__law_block_lines => (refine' WP.has__law_block_lines KX G ?a ?l ?c ?k; (case a => k_is); (case l => k_is); (case c => k_is); (case k => k_is)))
    (case h__law_lines => (refine' WP.has__law_lines KX G ?a ?l ?c ?k; (case a => k_is); (case l => k_is); (case c => k_is); (case k => k_is)))
    (case h_is_reserved => (refine' WP.has_is_reserved KX G ?a ?l ?c ?k; (case a => k_is); (case l => k_is); (case c => k_is); (case k => k_is)))
    (case h_is_letter => (refine' WP.has_is_letter KX G ?a ?l ?c ?k; (case a => k_is); (case l => k_is); (case c => k_is); (case k => k_is)))
    (case h_is_digit => (refine' WP.has_is_digit KX G ?a ?l ?c ?k; (case a => k_is); (case l => k_is); (case c => k_is); (case k => k_is)))
    (case h_run_end => (refine' WP.has_run_end KX G ?a ?l ?c ?k; (case a => k_is); (case l => k_is); (case c => k_is); (case k => k_is)))
    (case h_operation => (refine' WP.has_operation KX G ?a ?l ?c ?k; (case a => k_is); (case l => k_is); (case c => k_is); (case k => k_is)))
    (case h_state => (refine' WP.has_state KX G ?a ?l ?c ?k; (case a => k_is); (case l => k_is); (case c => k_is); (case k => k_is)))
    (case h_test => (refine' WP.has_test KX G ?a ?l ?c ?k; (case a => k_is); (case l => k_is); (case c => k_is); (case k => k_is)))
    (case h_action => (refine' WP.has_action KX G ?a ?l ?c ?k; (case a => k_is); (case l => k_is); (case c => k_is); (case k => k_is)))
    (case h_table => (refine' WP.has_table KX G ?a ?l ?c ?k; (case a => k_is); (case l => k_is); (case c => k_is); (case k => k_is)))
    (case h_repeated => (refine' WP.has_repeated KX G ?a ?l ?c ?k; (case a => k_is); (case l => k_is); (case c => k_is); (case k => k_is)))
    (case h_block => (refine' WP.has_block KX G ?a ?l ?c ?k; (case a => k_is); (case l => k_is); (case c => k_is); (case k => k_is)))
    (case h_parse_program => (refine' WP.has_parse_program KX G ?a ?l ?c ?k; (case a => k_is); (case l => k_is); (case c => k_is); (case k => k_is)))
    (case h_number_value => (refine' WP.has_number_value KX G ?a ?l ?c ?k; (case a => k_is); (case l => k_is); (case c => k_is); (case k => k_is)))
    (case h_run_token => (refine' WP.has_run_token KX G ?a ?l ?c ?k; (case a => k_is); (case l => k_is); (case c => k_is); (case k => k_is)))
    (case h_sign_at => (refine' WP.has_sign_at KX G ?a ?l ?c ?k; (case a => k_is); (case l => k_is); (case c => k_is); (case k => k_is)))
    (case h_line_tokens => (refine' WP.has_line_tokens KX G ?a ?l ?c ?k; (case a => k_is); (case l => k_is); (case c => k_is); (case k => k_is)))
    (case h_tokenize => (refine' WP.has_tokenize KX G ?a ?l ?c ?k; (case a => k_is); (case l => k_is); (case c => k_is); (case k => k_is)))
    (case h_field => (refine' WP.has_field KX G ?a ?l ?c ?k; (case a => k_is); (case l => k_is); (case c => k_is); (case k => k_is)))
    (case h_operand => (refine' WP.has_operand KX G ?a ?l ?c ?k; (case a => k_is); (case l => k_is); (case c => k_is); (case k => k_is)))
    (case h_expression => (refine' WP.has_expression KX G ?a ?l ?c ?k; (case a => k_is); (case l => k_is); (case c => k_is); (case k => k_is)))
    (case h_target => (refine' WP.has_target KX G ?a ?l ?c ?k; (case a => k_is); (case l => k_is); (case c => k_is); (case k => k_is)))
    (case h_key => (refine' WP.has_key KX G ?a ?l ?c ?k; (case a => k_is); (case l => k_is); (case c => k_is); (case k => k_is)))
    (case h_fields => (refine' WP.has_fields KX G ?a ?l ?c ?k; (case a => k_is); (case l => k_is); (case c => k_is); (case k => k_is)))
    (case h_numbers => (refine' WP.has_numbers KX G ?a ?l ?c ?k; (case a => k_is); (case l => k_is); (case c => k_is); (case k => k_is)))
    (case h_names => (refine' WP.has_names KX G ?a ?l ?c ?k; (case a => k_is); (case l => k_is); (case c => k_is); (case k => k_is)))
    (case h_header => (refine' WP.has_header KX G ?a ?l ?c ?k; (case a => k_is); (case l => k_is); (case c => k_is); (case k => k_is)))
    (case h_selection => (refine' WP.has_selection KX G ?a ?l ?c ?k; (case a => k_is); (case l => k_is); (case c => k_is); (case k => k_is)))
    (case h__law_same => (refine' WP.has__law_same KX G ?a ?l ?c ?k; (case a => k_is); (case l => k_is); (case c => k_is); (case k => k_is)))
    (case h__law_spread => (refine' WP.has__law_spread KX G ?a ?l ?c ?k; (case a => k_is); (case l => k_is); (case c => k_is); (case k => k_is)))
    (case h_field_text => (refine' WP.has_field_text KX G ?a ?l ?c ?k; (case a => k_is); (case l => k_is); (case c => k_is); (case k => k_is)))
    (case h_operand_text => (refine' WP.has_operand_text KX G ?a ?l ?c ?k; (case a => k_is); (case l => k_is); (case c => k_is); (case k => k_is)))
    (case h_expression_text => (refine' WP.has_expression_text KX G ?a ?l ?c ?k; (case a => k_is); (case l => k_is); (case c => k_is); (case k => k_is)))
    (case h_row_text => (refine' WP.has_row_text KX G ?a ?l ?c ?k; (case a => k_is); (case l => k_is); (case c => k_is); (case k => k_is)))
    (case h_field_lines => (refine' WP.has_field_lines KX G ?a ?l ?c ?k; (case a => k_is); (case l => k_is); (case c => k_is); (case k => k_is)))
    (case h_state_lines => (refine' WP.has_state_lines KX G ?a ?l ?c ?k; (case a => k_is); (case l => k_is); (case c => k_is); (case k => k_is)))
    (case h_operation_text => (refine' WP.has_operation_text KX G ?a ?l ?c ?k; (case a => k_is); (case l => k_is); (case c => k_is); (case k => k_is)))
    (case h_action_lines => (refine' WP.has_action_lines KX G ?a ?l ?c ?k; (case a => k_is); (case l => k_is); (case c => k_is); (case k => k_is)))
    (case h_table_lines => (refine' WP.has_table_lines KX G ?a ?l ?c ?k; (case a => k_is); (case l => k_is); (case c => k_is); (case k => k_is)))
    (case h_test_text => (refine' WP.has_test_text KX G ?a ?l ?c ?k; (case a => k_is); (case l => k_is); (case c => k_is); (case k => k_is)))
    (case h_statement_lines => (refine' WP.has_statement_lines KX G ?a ?l ?c ?k; (case a => k_is); (case l => k_is); (case c => k_is); (case k => k_is)))
    (case h_write_program => (refine' WP.has_write_program KX G ?a ?l ?c ?k; (case a => k_is); (case l => k_is); (case c => k_is); (case k => k_is)))
    (case h_hex_value => (refine' WP.has_hex_value KX G ?a ?l ?c ?k; (case a => k_is); (case l => k_is); (case c => k_is); (case k => k_is)))
    (case m___init__ => (refine' WP.has_Reader___init__ ?a ?i ?l ?c ?k; (case a => k_is); (case i => k_is); (case l => k_is); (case c => k_is); (case k => k_is)))
    (case m_peek => (refine' WP.has_Reader_peek ?a ?i ?l ?c ?k; (case a => k_is); (case i => k_is); (case l => k_is); (case c => k_is); (case k => k_is)))
    (case m_kind => (refine' WP.has_Reader_kind ?a ?i ?l ?c ?k; (case a => k_is); (case i => k_is); (case l => k_is); (case c => k_is); (case k => k_is)))
    (case m_sees => (refine' WP.has_Reader_sees ?a ?i ?l ?c ?k; (case a => k_is); (case i => k_is); (case l => k_is); (case c => k_is); (case k => k_is)))
    (case m_skip => (refine' WP.has_Reader_skip ?a ?i ?l ?c ?k; (case a => k_is); (case i => k_is); (case l => k_is); (case c => k_is); (case k => k_is)))
    (case m_need => (refine' WP.has_Reader_need ?a ?i ?l ?c ?k; (case a => k_is); (case i => k_is); (case l => k_is); (case c => k_is); (case k => k_is)))
    (case m_take => (refine' WP.has_Reader_take ?a ?i ?l ?c ?k; (case a => k_is); (case i => k_is); (case l => k_is); (case c => k_is); (case k => k_is)))
    (case m_fail => (refine' WP.has_Reader_fail ?a ?i ?l ?c ?k; (case a => k_is); (case i => k_is); (case l => k_is); (case c => k_is); (case k => k_is)))
#print axioms PySem.Challenge.cw_wholepackets_k03_whole_programs_come_bac_holds
