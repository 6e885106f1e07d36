import PyProof.Rows.All
import Wide.All
import OpenK.AllK
import Wide.FinOn
import Lean
import PySem.Challenge.RW_qz0095_01
/- The road. A small interpreter of my own (V, E, S, ev, exs, run) reads the text's functions as data (b62 .. b437). cE_ok .. ro_ok:
what it computes, the model computes (soundness). g_.. and f_..: what each function computes, as plain functions on lists of numbers.
law_walk: the law answers True. main: the library's own words for a law's head, then law_walk. -/
open PySem PySem.W PyProof.Rows
set_option Elab.async false
set_option autoImplicit false
set_option linter.unusedVariables false
set_option linter.unusedSimpArgs false
namespace Mine
inductive V where
  | none
  | bool (b : Bool)
  | int (i : Int)
  | str (s : List Nat)
  | ref (i : Nat)
  | tup (vs : List V)
  | fl (vs : List V)
  | dct (es : List (List Nat × List Nat))

abbrev Hp := List (List V)

inductive Op2 where
  | add | sub | mul | mod
  deriving DecidableEq
inductive Cp where
  | lt | le | gt | ge | eq | ne | isin | isnone
  deriving DecidableEq

set_option genSizeOf false
set_option genInjectivity false
mutual
inductive E where
  | bad
  | lit (v : V)
  | loc (i : Nat)
  | bin (o : Op2) (a b : E)
  | cmp (o : Cp) (a b : E)
  | chain (o1 o2 : Cp) (a b c : E)
  | and (a b : E)
  | or (a b : E)
  | not (a : E)
  | neg (a : E)
  | ite (c a b : E)
  | idx (a b : E)
  | slcs (a lo hi : E)
  | slcf (a lo : E)
  | slct (a hi : E)
  | call (f : Nat) (args : Es)
  | len (a : E)
  | strip (a b : E)
  | part (a b : E)
  | app (a b : E)
  | pop (a : E)
  | get (d a b : E)
  | tup (es : Es)
  | lst (es : Es)
  | comp (ls : Nat) (is : List Nat) (pr : Bool) (it el ts : E)
inductive Es where
  | nil
  | cons (e : E) (es : Es)
end

set_option genSizeOf true
set_option genInjectivity true
theorem lim_ex : ∃ n : Nat, n = 1048576 := ⟨_, rfl⟩
noncomputable def lim : Nat := lim_ex.choose
theorem lim_eq : lim = 1048576 := lim_ex.choose_spec
theorem lim_le {n : Nat} (h : n ≤ 1048576) : n ≤ lim := by rw [lim_eq]; exact h
noncomputable def lil : Nat := 1048576

noncomputable def lv (H : Hp) : V → Option (List V)
  | .ref i => H[i]?
  | .fl vs => some vs
  | _ => Option.none

noncomputable def truth : V → Option Bool
  | .none => some false
  | .bool b => some b
  | .int i => some (i != 0)
  | _ => Option.none

mutual
noncomputable def rd : Nat → Hp → V → Option PyData
  | 0, _, _ => Option.none
  | _ + 1, _, .none => some .none
  | _ + 1, _, .bool _ => Option.none
  | _ + 1, _, .int i => some (.int i)
  | _ + 1, _, .str s => some (.str ⟨s.toArray⟩)
  | n + 1, H, .tup vs => (rds n H vs).map .tuple
  | n + 1, H, .fl vs => (rds n H vs).map .list
  | n + 1, H, .ref i => (H[i]?).bind fun vs => (rds n H vs).map .list
  | _ + 1, _, .dct _ => Option.none
noncomputable def rds : Nat → Hp → List V → Option (List PyData)
  | _, _, [] => some []
  | 0, _, _ :: _ => Option.none
  | n + 1, H, v :: vs => (rd n H v).bind fun d => (rds n H vs).map (d :: ·)
end

noncomputable def bin2 (o : Op2) (a b : V) (H : Hp) : Option (V × Hp) :=
  match o, a, b with
  | .add, .int x, .int y => some (.int (x + y), H)
  | .sub, .int x, .int y => some (.int (x - y), H)
  | .mul, .int x, .int y => if x.natAbs ≤ lim ∧ y.natAbs ≤ lim then some (.int (x * y), H) else Option.none
  | .mod, .int x, .int y => if 0 < y then some (.int (x % y), H) else Option.none
  | .add, .str x, .str y => if x.length + y.length ≤ lim then some (.str (x ++ y), H) else Option.none
  | .add, a, b => (lv H a).bind fun x => (lv H b).bind fun y => if x.length + y.length ≤ lil then some (.ref H.length, H ++ [x ++ y]) else Option.none
  | _, _, _ => Option.none

noncomputable def txts : List V → Option (List (List Nat))
  | [] => some []
  | .str s :: r => (txts r).map (s :: ·)
  | _ => Option.none

noncomputable def isIn (a b : V) : Option Bool :=
  match a, b with
  | .str [], .str _ => some true
  | .str [c], .str y => some (y.contains c)
  | .str s, .tup vs => (txts vs).map fun l => l.contains s
  | .str s, .dct es => some ((es.map (·.1)).contains s)
  | _, _ => Option.none

noncomputable def same (H : Hp) (a b : V) : Option Bool :=
  (rd 64 H a).bind fun x => (rd 64 H b).bind fun y => if SeqAt.shaped x = true ∧ SeqAt.shaped y = true then some (PyData.eqv x y) else Option.none

noncomputable def cmp2 (o : Cp) (a b : V) (H : Hp) : Option Bool :=
  match o, a, b with
  | .lt, .int x, .int y => some (decide (x < y))
  | .le, .int x, .int y => some (decide (x ≤ y))
  | .gt, .int x, .int y => some (decide (y < x))
  | .ge, .int x, .int y => some (decide (y ≤ x))
  | .eq, .int x, .int y => some (x == y)
  | .ne, .int x, .int y => some (x != y)
  | .le, .str x, .str y => some (!decide (y < x))
  | .eq, .str x, .str y => some (x == y)
  | .ne, .str x, .str y => some (x != y)
  | .eq, a, b => same H a b
  | .ne, a, b => (same H a b).map (!·)
  | .isin, a, b => isIn a b
  | .isnone, .none, .none => some true
  | .isnone, .ref _, .none => some false
  | .isnone, .tup _, .none => some false
  | .isnone, .fl _, .none => some false
  | _, _, _ => Option.none

noncomputable def idx2 (a b : V) (H : Hp) : Option V :=
  match a, b with
  | .str s, .int i => if 0 ≤ i ∧ i ≤ lim then (s[i.toNat]?).map fun c => .str [c] else Option.none
  | .tup vs, .int i => if 0 ≤ i ∧ i ≤ lim then vs[i.toNat]? else Option.none
  | a, .int i => (lv H a).bind fun vs => if 0 ≤ i ∧ i ≤ lim then vs[i.toNat]? else if i = -1 then vs.getLast? else Option.none
  | _, _ => Option.none

noncomputable def sl (s : List Nat) (i j : Int) : List Nat := (s.take j.toNat).drop i.toNat

noncomputable def toS (s : List Nat) : Str := ⟨s.toArray⟩
noncomputable def ofS (s : Str) : List Nat := s.cps.toList
noncomputable def stripL (s cs : List Nat) : List Nat := ofS (Txt.stripChars (toS s) (toS cs))
noncomputable def partL (s y : List Nat) : List V := let p := Txt.partition (toS s) (toS y); [.str (ofS p.1), .str (ofS p.2.1), .str (ofS p.2.2)]
noncomputable def getD2 (es : List (List Nat × List Nat)) (k : List Nat) : Option (List Nat) := es.lookup k

abbrev Rn := Option (V × Hp)
abbrev Orc := Nat → List V → Hp → Rn
abbrev Loc := List (Option V)

noncomputable def unb : List V → Loc := List.map some

noncomputable def setAll : List Nat → List V → Loc → Option Loc
  | [], [], ρ => some ρ
  | i :: is, v :: vs, ρ => setAll is vs (ρ.set i (some v))
  | _, _, _ => Option.none

noncomputable def bnd (ls : Nat) (is : List Nat) (pr : Bool) (w : V) : Option Loc :=
  match pr, is, w with
  | false, [i], w => some ((List.replicate ls Option.none).set i (some w))
  | true, is, .tup ws => setAll is ws (List.replicate ls Option.none)
  | _, _, _ => Option.none

noncomputable def cloop (src : V) (bd : V → Option Loc) (ef tf : Loc → Hp → Rn) (i0 : Nat) : Nat → Nat → Hp → Option Hp
  | 0, _, _ => Option.none
  | n + 1, k, H => (lv H src).bind fun l => match l[k]? with
    | Option.none => some H
    | some w => (bd w).bind fun ρ => (tf ρ H).bind fun p => (truth p.1).bind fun t => if t = true then (ef ρ p.2).bind fun q => (q.2[i0]?).bind fun acc =>
        if acc.length ≤ lil then cloop src bd ef tf i0 n (k + 1) (q.2.set i0 (acc ++ [q.1])) else Option.none
      else cloop src bd ef tf i0 n (k + 1) p.2

noncomputable def slcV (x i j : V) (H : Hp) : Rn := match x, i, j with
  | .str s, .int i, .int j => if 0 ≤ i ∧ 0 ≤ j ∧ j ≤ lim ∧ s.length ≤ lim then some (.str (sl s i j), H) else Option.none
  | _, _, _ => Option.none
noncomputable def slfV (x i : V) (H : Hp) : Rn := match x, i with
  | .str s, .int i => if 0 ≤ i ∧ i ≤ lim ∧ s.length ≤ lim then some (.str (s.drop i.toNat), H) else Option.none
  | _, _ => Option.none
noncomputable def sltV (x j : V) (H : Hp) : Rn := match x, j with
  | .str s, .int j => if 0 ≤ j ∧ j ≤ lim ∧ s.length ≤ lim then some (.str (s.take j.toNat), H) else Option.none
  | .fl s, .int j => if 0 ≤ j ∧ j ≤ lim ∧ s.length ≤ lim then some (.ref H.length, H ++ [s.take j.toNat]) else Option.none
  | _, _ => Option.none
noncomputable def lenV (x : V) (H : Hp) : Rn := match x with
  | .str s => if s.length ≤ lim then some (.int s.length, H) else Option.none
  | x => (lv H x).bind fun l => if l.length ≤ lim then some (.int l.length, H) else Option.none
noncomputable def stripV (x y : V) (H : Hp) : Rn := match x, y with
  | .str s, .str cs => if s.length ≤ lim then some (.str (stripL s cs), H) else Option.none
  | _, _ => Option.none
noncomputable def partV (x y : V) (H : Hp) : Rn := match x, y with
  | .str s, .str (c :: cs) => if s.length ≤ lim then some (.tup (partL s (c :: cs)), H) else Option.none
  | _, _ => Option.none
noncomputable def appV (x y : V) (H : Hp) : Rn := match x with
  | .ref i => (H[i]?).bind fun l => if l.length ≤ lim then some (.none, H.set i (l ++ [y])) else Option.none
  | _ => Option.none
noncomputable def popV (x : V) (H : Hp) : Rn := match x with
  | .ref i => (H[i]?).bind fun l => (l.getLast?).bind fun v => if l.length ≤ lim then some (v, H.set i l.dropLast) else Option.none
  | _ => Option.none
noncomputable def getV (z x y : V) (H : Hp) : Rn := match z, x with
  | .dct es, .str k => some ((match getD2 es k with | some u => .str u | Option.none => y), H)
  | _, _ => Option.none
noncomputable def negV (x : V) (H : Hp) : Rn := match x with
  | .int i => some (.int (-i), H)
  | _ => Option.none

noncomputable def dead : Orc := fun _ _ _ => Option.none
mutual
noncomputable def ev : Orc → E → Loc → Hp → Rn
  | _, .bad, _, _ => Option.none
  | _, .lit v, _, H => some (v, H)
  | _, .loc i, ρ, H => (ρ[i]?).bind fun o => o.bind fun v => some (v, H)
  | O, .bin o a b, ρ, H => (ev O a ρ H).bind fun p => (ev O b ρ p.2).bind fun q => bin2 o p.1 q.1 q.2
  | O, .cmp o a b, ρ, H => (ev O a ρ H).bind fun p => (ev O b ρ p.2).bind fun q => (cmp2 o p.1 q.1 q.2).bind fun t => some (.bool t, q.2)
  | O, .chain o1 o2 a b c, ρ, H => (ev O a ρ H).bind fun p => (ev O b ρ p.2).bind fun q => (cmp2 o1 p.1 q.1 q.2).bind fun t =>
    if t = true then (ev O c ρ q.2).bind fun r => (cmp2 o2 q.1 r.1 r.2).bind fun u => some (.bool u, r.2) else some (.bool false, q.2)
  | O, .and a b, ρ, H => (ev O a ρ H).bind fun p => (truth p.1).bind fun t => if t = true then ev O b ρ p.2 else some (p.1, p.2)
  | O, .or a b, ρ, H => (ev O a ρ H).bind fun p => (truth p.1).bind fun t => if t = true then some (p.1, p.2) else ev O b ρ p.2
  | O, .not a, ρ, H => (ev O a ρ H).bind fun p => (truth p.1).bind fun t => some (.bool (!t), p.2)
  | O, .neg a, ρ, H => (ev O a ρ H).bind fun p => negV p.1 p.2
  | O, .ite c a b, ρ, H => (ev O c ρ H).bind fun p => (truth p.1).bind fun t => if t = true then ev O a ρ p.2 else ev O b ρ p.2
  | O, .idx a b, ρ, H => (ev O a ρ H).bind fun p => (ev O b ρ p.2).bind fun q => (idx2 p.1 q.1 q.2).bind fun v => some (v, q.2)
  | O, .slcs a lo hi, ρ, H => (ev O a ρ H).bind fun p => (ev O lo ρ p.2).bind fun q => (ev O hi ρ q.2).bind fun r => slcV p.1 q.1 r.1 r.2
  | O, .slcf a lo, ρ, H => (ev O a ρ H).bind fun p => (ev O lo ρ p.2).bind fun q => slfV p.1 q.1 q.2
  | O, .slct a hi, ρ, H => (ev O a ρ H).bind fun p => (ev O hi ρ p.2).bind fun q => sltV p.1 q.1 q.2
  | O, .call f args, ρ, H => (evs O args ρ H).bind fun p => O f p.1 p.2
  | O, .len a, ρ, H => (ev O a ρ H).bind fun p => lenV p.1 p.2
  | O, .strip a b, ρ, H => (ev O a ρ H).bind fun p => (ev O b ρ p.2).bind fun q => stripV p.1 q.1 q.2
  | O, .part a b, ρ, H => (ev O a ρ H).bind fun p => (ev O b ρ p.2).bind fun q => partV p.1 q.1 q.2
  | O, .app a b, ρ, H => (ev O a ρ H).bind fun p => (ev O b ρ p.2).bind fun q => appV p.1 q.1 q.2
  | O, .pop a, ρ, H => (ev O a ρ H).bind fun p => popV p.1 p.2
  | O, .get d a b, ρ, H => (ev O d ρ H).bind fun p => (ev O a ρ p.2).bind fun q => (ev O b ρ q.2).bind fun r => getV p.1 q.1 r.1 r.2
  | O, .tup es, ρ, H => (evs O es ρ H).bind fun p => some (.tup p.1, p.2)
  | O, .lst es, ρ, H => (evs O es ρ H).bind fun p => some (.ref p.2.length, p.2 ++ [p.1])
  | O, .comp ls is pr it el ts, ρ, H => (ev O it ρ H).bind fun p => (cloop p.1 (bnd ls is pr) (ev dead el) (ev dead ts) p.2.length 200 0 (p.2 ++ [[]])).bind fun H' => some (.ref p.2.length, H')
noncomputable def evs : Orc → Es → Loc → Hp → Option (List V × Hp)
  | _, .nil, _, H => some ([], H)
  | O, .cons e es, ρ, H => (ev O e ρ H).bind fun p => (evs O es ρ p.2).bind fun q => some (p.1 :: q.1, q.2)
end
noncomputable def ofV (p : V × Hp) : Option (Bool × Hp) := (truth p.1).bind fun t => some (t, p.2)
noncomputable def tst (O : Orc) : E → Loc → Hp → Option (Bool × Hp)
  | .and a b, ρ, H => (tst O a ρ H).bind fun p => if p.1 = true then tst O b ρ p.2 else some (false, p.2)
  | .or a b, ρ, H => (tst O a ρ H).bind fun p => if p.1 = true then some (true, p.2) else tst O b ρ p.2
  | .not a, ρ, H => (tst O a ρ H).bind fun p => some (!p.1, p.2)
  | .ite c a b, ρ, H => (tst O c ρ H).bind fun p => if p.1 = true then tst O a ρ p.2 else tst O b ρ p.2
  | e, ρ, H => (ev O e ρ H).bind ofV
section
variable {O : Orc} {ρ : Loc} {H : Hp}
theorem e_lit (v : V) : ev O (.lit v) ρ H = some (v, H) := rfl
theorem e_loc (i : Nat) : ev O (.loc i) ρ H = (ρ[i]?).bind fun o => o.bind fun v => some (v, H) := rfl
theorem e_bin (o : Op2) (a b : E) : ev O (.bin o a b) ρ H = (ev O a ρ H).bind fun p => (ev O b ρ p.2).bind fun q => bin2 o p.1 q.1 q.2 := rfl
theorem e_cmp (o : Cp) (a b : E) : ev O (.cmp o a b) ρ H = (ev O a ρ H).bind fun p => (ev O b ρ p.2).bind fun q => (cmp2 o p.1 q.1 q.2).bind fun t => some (.bool t, q.2) := rfl
theorem e_chain (o1 o2 : Cp) (a b c : E) : ev O (.chain o1 o2 a b c) ρ H = (ev O a ρ H).bind fun p => (ev O b ρ p.2).bind fun q => (cmp2 o1 p.1 q.1 q.2).bind fun t =>
    if t = true then (ev O c ρ q.2).bind fun r => (cmp2 o2 q.1 r.1 r.2).bind fun u => some (.bool u, r.2) else some (.bool false, q.2) := (rfl)
theorem e_and (a b : E) : ev O (.and a b) ρ H = (ev O a ρ H).bind fun p => (truth p.1).bind fun t => if t = true then ev O b ρ p.2 else some (p.1, p.2) := rfl
theorem e_or (a b : E) : ev O (.or a b) ρ H = (ev O a ρ H).bind fun p => (truth p.1).bind fun t => if t = true then some (p.1, p.2) else ev O b ρ p.2 := rfl
theorem e_not (a : E) : ev O (.not a) ρ H = (ev O a ρ H).bind fun p => (truth p.1).bind fun t => some (.bool (!t), p.2) := rfl
theorem e_neg (a : E) : ev O (.neg a) ρ H = (ev O a ρ H).bind fun p => negV p.1 p.2 := rfl
theorem e_ite (c a b : E) : ev O (.ite c a b) ρ H = (ev O c ρ H).bind fun p => (truth p.1).bind fun t => if t = true then ev O a ρ p.2 else ev O b ρ p.2 := rfl
theorem e_idx (a b : E) : ev O (.idx a b) ρ H = (ev O a ρ H).bind fun p => (ev O b ρ p.2).bind fun q => (idx2 p.1 q.1 q.2).bind fun v => some (v, q.2) := rfl
theorem e_slcs (a lo hi : E) : ev O (.slcs a lo hi) ρ H = (ev O a ρ H).bind fun p => (ev O lo ρ p.2).bind fun q => (ev O hi ρ q.2).bind fun r => slcV p.1 q.1 r.1 r.2 := rfl
theorem e_slcf (a lo : E) : ev O (.slcf a lo) ρ H = (ev O a ρ H).bind fun p => (ev O lo ρ p.2).bind fun q => slfV p.1 q.1 q.2 := rfl
theorem e_slct (a hi : E) : ev O (.slct a hi) ρ H = (ev O a ρ H).bind fun p => (ev O hi ρ p.2).bind fun q => sltV p.1 q.1 q.2 := rfl
theorem e_call (f : Nat) (es : Es) : ev O (.call f es) ρ H = (evs O es ρ H).bind fun p => O f p.1 p.2 := rfl
theorem e_len (a : E) : ev O (.len a) ρ H = (ev O a ρ H).bind fun p => lenV p.1 p.2 := rfl
theorem e_strip (a b : E) : ev O (.strip a b) ρ H = (ev O a ρ H).bind fun p => (ev O b ρ p.2).bind fun q => stripV p.1 q.1 q.2 := rfl
theorem e_part (a b : E) : ev O (.part a b) ρ H = (ev O a ρ H).bind fun p => (ev O b ρ p.2).bind fun q => partV p.1 q.1 q.2 := rfl
theorem e_app (a b : E) : ev O (.app a b) ρ H = (ev O a ρ H).bind fun p => (ev O b ρ p.2).bind fun q => appV p.1 q.1 q.2 := rfl
theorem e_pop (a : E) : ev O (.pop a) ρ H = (ev O a ρ H).bind fun p => popV p.1 p.2 := rfl
theorem e_get (d a b : E) : ev O (.get d a b) ρ H = (ev O d ρ H).bind fun p => (ev O a ρ p.2).bind fun q => (ev O b ρ q.2).bind fun r => getV p.1 q.1 r.1 r.2 := rfl
theorem e_tup (es : Es) : ev O (.tup es) ρ H = (evs O es ρ H).bind fun p => some (.tup p.1, p.2) := rfl
theorem e_lst (es : Es) : ev O (.lst es) ρ H = (evs O es ρ H).bind fun p => some (.ref p.2.length, p.2 ++ [p.1]) := rfl
theorem es_nil : evs O .nil ρ H = some ([], H) := rfl
theorem es_cons (e : E) (es : Es) : evs O (.cons e es) ρ H = (ev O e ρ H).bind fun p => (evs O es ρ p.2).bind fun q => some (p.1 :: q.1, q.2) := rfl
theorem t_and (a b : E) : tst O (.and a b) ρ H = (tst O a ρ H).bind fun p => if p.1 = true then tst O b ρ p.2 else some (false, p.2) := rfl
theorem t_or (a b : E) : tst O (.or a b) ρ H = (tst O a ρ H).bind fun p => if p.1 = true then some (true, p.2) else tst O b ρ p.2 := rfl
theorem t_not (a : E) : tst O (.not a) ρ H = (tst O a ρ H).bind fun p => some (!p.1, p.2) := rfl
theorem t_cmp (o : Cp) (a b : E) : tst O (.cmp o a b) ρ H = (ev O a ρ H).bind fun p => (ev O b ρ p.2).bind fun q => (cmp2 o p.1 q.1 q.2).bind fun t => some (t, q.2) := by
  show (ev O (.cmp o a b) ρ H).bind _ = _
  rw [e_cmp]
  cases ev O a ρ H with
  | none => rfl
  | some p =>
    simp only [Option.bind_some]
    cases ev O b ρ p.2 with
    | none => rfl
    | some q =>
      simp only [Option.bind_some]
      cases cmp2 o p.1 q.1 q.2 <;> rfl
theorem t_loc (i : Nat) : tst O (.loc i) ρ H = (ev O (.loc i) ρ H).bind fun p => (truth p.1).bind fun t => some (t, p.2) := rfl
theorem t_lit (v : V) : tst O (.lit v) ρ H = (truth v).bind fun t => some (t, H) := rfl
theorem t_call (f : Nat) (es : Es) : tst O (.call f es) ρ H = (ev O (.call f es) ρ H).bind fun p => (truth p.1).bind fun t => some (t, p.2) := rfl
theorem t_chain (o1 o2 : Cp) (a b c : E) : tst O (.chain o1 o2 a b c) ρ H = (ev O (.chain o1 o2 a b c) ρ H).bind fun p => (truth p.1).bind fun t => some (t, p.2) := rfl
theorem t_ite (c a b : E) : tst O (.ite c a b) ρ H = (tst O c ρ H).bind fun p => if p.1 = true then tst O a ρ p.2 else tst O b ρ p.2 := (rfl)
theorem e_comp (ls : Nat) (is : List Nat) (pr : Bool) (it el ts : E) : ev O (.comp ls is pr it el ts) ρ H = (ev O it ρ H).bind fun p => (cloop p.1 (bnd ls is pr) (ev dead el) (ev dead ts) p.2.length 200 0 (p.2 ++ [[]])).bind fun H' => some (.ref p.2.length, H') := (rfl)
end
theorem nos {α : Type} {x : α} {P : Prop} (h : Option.none = some x) : P := nomatch h
theorem so1 {α : Type} {x y : α} (h : some x = some y) : x = y := Option.some.inj h
theorem so2 {α β : Type} {a c : α} {b d : β} (h : some (a, b) = some (c, d)) : c = a ∧ d = b := match h with | rfl => ⟨rfl, rfl⟩
theorem bnd2 {α β : Type} {x : Option (α × Hp)} {f : α × Hp → Option β} {r : β} (h : x.bind f = some r) : ∃ a H, x = some (a, H) ∧ f (a, H) = some r := match x, h with | some (a, H), h => ⟨a, H, rfl, h⟩
theorem bnd1 {α β : Type} {x : Option α} {f : α → Option β} {r : β} (h : x.bind f = some r) : ∃ a, x = some a ∧ f a = some r := match x, h with | some a, h => ⟨a, rfl, h⟩
theorem omm {α β : Type} {x : Option α} {f : α → β} {r : β} (h : x.map f = some r) : ∃ a, x = some a ∧ f a = r := Option.map_eq_some_iff.mp h
theorem itt {α : Type} {x y r : Option α} (h : (if true = true then x else y) = r) : x = r := h
theorem itf {α : Type} {x y r : Option α} (h : (if false = true then x else y) = r) : y = r := h
theorem ifs {α : Type} {p : Prop} [d : Decidable p] {x : Option α} {r : α} (h : (if p then x else Option.none) = some r) : p ∧ x = some r := match d, h with | .isTrue hp, h => ⟨hp, h⟩
section
variable {O : Orc} {ρ : Loc} {H H' : Hp} {v : V} {a b c : E}
theorem i_lit {u : V} (h : ev O (.lit u) ρ H = some (v, H')) : v = u ∧ H' = H := by obtain ⟨rfl, rfl⟩ := so2 h; exact ⟨rfl, rfl⟩
theorem i_loc {i : Nat} (h : ev O (.loc i) ρ H = some (v, H')) : ρ[i]? = some (some v) ∧ H' = H := by
  obtain ⟨o, h1, h⟩ := bnd1 ((e_loc i).symm.trans h)
  obtain ⟨u, h2, h⟩ := bnd1 h
  obtain ⟨rfl, rfl⟩ := so2 h
  exact ⟨h1.trans (congrArg some h2), rfl⟩
theorem i_bin {o : Op2} (h : ev O (.bin o a b) ρ H = some (v, H')) : ∃ x H1, ev O a ρ H = some (x, H1) ∧ ∃ y H2, ev O b ρ H1 = some (y, H2) ∧ bin2 o x y H2 = some (v, H') := by
  obtain ⟨x, H1, e1, h⟩ := bnd2 ((e_bin o a b).symm.trans h)
  obtain ⟨y, H2, e2, h⟩ := bnd2 h
  exact ⟨x, H1, e1, y, H2, e2, h⟩
theorem i_cmp {o : Cp} (h : ev O (.cmp o a b) ρ H = some (v, H')) : ∃ x H1, ev O a ρ H = some (x, H1) ∧ ∃ y, ev O b ρ H1 = some (y, H') ∧ ∃ t, cmp2 o x y H' = some t ∧ v = .bool t := by
  obtain ⟨x, H1, e1, h⟩ := bnd2 ((e_cmp o a b).symm.trans h)
  obtain ⟨y, H2, e2, h⟩ := bnd2 h
  obtain ⟨t, e3, h⟩ := bnd1 h
  obtain ⟨rfl, rfl⟩ := so2 h
  exact ⟨x, H1, e1, y, e2, t, e3, rfl⟩
theorem i_chain {o1 o2 : Cp} (h : ev O (.chain o1 o2 a b c) ρ H = some (v, H')) : ∃ x H1, ev O a ρ H = some (x, H1) ∧ ∃ y H2, ev O b ρ H1 = some (y, H2) ∧ ∃ t, cmp2 o1 x y H2 = some t ∧
    ((t = false ∧ v = .bool false ∧ H' = H2) ∨ (t = true ∧ ∃ z, ev O c ρ H2 = some (z, H') ∧ ∃ u, cmp2 o2 y z H' = some u ∧ v = .bool u)) := by
  obtain ⟨x, H1, e1, h⟩ := bnd2 ((e_chain o1 o2 a b c).symm.trans h)
  obtain ⟨y, H2, e2, h⟩ := bnd2 h
  obtain ⟨t, e3, h⟩ := bnd1 h
  refine ⟨x, H1, e1, y, H2, e2, t, e3, ?_⟩
  cases t with
  | false => obtain ⟨rfl, rfl⟩ := so2 (itf h); exact .inl ⟨rfl, rfl, rfl⟩
  | true =>
    obtain ⟨z, H3, e4, h⟩ := bnd2 (itt h)
    obtain ⟨u, e5, h⟩ := bnd1 h
    obtain ⟨rfl, rfl⟩ := so2 h
    exact .inr ⟨rfl, z, e4, u, e5, rfl⟩
theorem i_and (h : ev O (.and a b) ρ H = some (v, H')) : ∃ x H1, ev O a ρ H = some (x, H1) ∧ ∃ t, truth x = some t ∧ ((t = false ∧ v = x ∧ H' = H1) ∨ (t = true ∧ ev O b ρ H1 = some (v, H'))) := by
  obtain ⟨x, H1, e1, h⟩ := bnd2 ((e_and a b).symm.trans h)
  obtain ⟨t, e2, h⟩ := bnd1 h
  refine ⟨x, H1, e1, t, e2, ?_⟩
  cases t with
  | false => obtain ⟨rfl, rfl⟩ := so2 (itf h); exact .inl ⟨rfl, rfl, rfl⟩
  | true => exact .inr ⟨rfl, itt h⟩
theorem i_or (h : ev O (.or a b) ρ H = some (v, H')) : ∃ x H1, ev O a ρ H = some (x, H1) ∧ ∃ t, truth x = some t ∧ ((t = true ∧ v = x ∧ H' = H1) ∨ (t = false ∧ ev O b ρ H1 = some (v, H'))) := by
  obtain ⟨x, H1, e1, h⟩ := bnd2 ((e_or a b).symm.trans h)
  obtain ⟨t, e2, h⟩ := bnd1 h
  refine ⟨x, H1, e1, t, e2, ?_⟩
  cases t with
  | true => obtain ⟨rfl, rfl⟩ := so2 (itt h); exact .inl ⟨rfl, rfl, rfl⟩
  | false => exact .inr ⟨rfl, itf h⟩
theorem i_not (h : ev O (.not a) ρ H = some (v, H')) : ∃ x, ev O a ρ H = some (x, H') ∧ ∃ t, truth x = some t ∧ v = .bool (!t) := by
  obtain ⟨x, H1, e1, h⟩ := bnd2 ((e_not a).symm.trans h)
  obtain ⟨t, e2, h⟩ := bnd1 h
  obtain ⟨rfl, rfl⟩ := so2 h
  exact ⟨x, e1, t, e2, rfl⟩
theorem i_neg (h : ev O (.neg a) ρ H = some (v, H')) : ∃ i, ev O a ρ H = some (.int i, H') ∧ v = .int (-i) := by
  obtain ⟨x, H1, e1, h⟩ := bnd2 ((e_neg a).symm.trans h)
  cases x with
  | int i => obtain ⟨rfl, rfl⟩ := so2 h; exact ⟨i, e1, rfl⟩
  | _ => exact nos h
theorem i_ite (h : ev O (.ite c a b) ρ H = some (v, H')) : ∃ x H1, ev O c ρ H = some (x, H1) ∧ ∃ t, truth x = some t ∧ ((t = true ∧ ev O a ρ H1 = some (v, H')) ∨ (t = false ∧ ev O b ρ H1 = some (v, H'))) := by
  obtain ⟨x, H1, e1, h⟩ := bnd2 ((e_ite c a b).symm.trans h)
  obtain ⟨t, e2, h⟩ := bnd1 h
  refine ⟨x, H1, e1, t, e2, ?_⟩
  cases t with
  | true => exact .inl ⟨rfl, itt h⟩
  | false => exact .inr ⟨rfl, itf h⟩
theorem i_idx (h : ev O (.idx a b) ρ H = some (v, H')) : ∃ x H1, ev O a ρ H = some (x, H1) ∧ ∃ y, ev O b ρ H1 = some (y, H') ∧ idx2 x y H' = some v := by
  obtain ⟨x, H1, e1, h⟩ := bnd2 ((e_idx a b).symm.trans h)
  obtain ⟨y, H2, e2, h⟩ := bnd2 h
  obtain ⟨u, e3, h⟩ := bnd1 h
  obtain ⟨rfl, rfl⟩ := so2 h
  exact ⟨x, H1, e1, y, e2, e3⟩
theorem slcV_inv {x y z w : V} (h : slcV x y z H = some (w, H')) : ∃ s i j, x = .str s ∧ y = .int i ∧ z = .int j ∧ (0 ≤ i ∧ 0 ≤ j ∧ j ≤ lim ∧ s.length ≤ lim) ∧ w = .str (sl s i j) ∧ H' = H := by
  cases x with
  | str s =>
    cases y with
    | int i =>
      cases z with
      | int j => obtain ⟨hp, h⟩ := ifs h; obtain ⟨rfl, rfl⟩ := so2 h; exact ⟨s, i, j, rfl, rfl, rfl, hp, rfl, rfl⟩
      | _ => exact nos h
    | _ => exact nos h
  | _ => exact nos h
theorem i_slcs (h : ev O (.slcs a b c) ρ H = some (v, H')) : ∃ s H1, ev O a ρ H = some (.str s, H1) ∧ ∃ i H2, ev O b ρ H1 = some (.int i, H2) ∧ ∃ j, ev O c ρ H2 = some (.int j, H') ∧ (0 ≤ i ∧ 0 ≤ j ∧ j ≤ lim ∧ s.length ≤ lim) ∧ v = .str (sl s i j) := by
  obtain ⟨x, H1, e1, h⟩ := bnd2 ((e_slcs a b c).symm.trans h)
  obtain ⟨y, H2, e2, h⟩ := bnd2 h
  obtain ⟨z, H3, e3, h⟩ := bnd2 h
  obtain ⟨s, i, j, rfl, rfl, rfl, hp, rfl, rfl⟩ := slcV_inv h
  exact ⟨s, H1, e1, i, H2, e2, j, e3, hp, rfl⟩
theorem slfV_inv {x y w : V} (h : slfV x y H = some (w, H')) : ∃ s i, x = .str s ∧ y = .int i ∧ (0 ≤ i ∧ i ≤ lim ∧ s.length ≤ lim) ∧ w = .str (s.drop i.toNat) ∧ H' = H := by
  cases x with
  | str s =>
    cases y with
    | int i => obtain ⟨hp, h⟩ := ifs h; obtain ⟨rfl, rfl⟩ := so2 h; exact ⟨s, i, rfl, rfl, hp, rfl, rfl⟩
    | _ => exact nos h
  | _ => exact nos h
theorem i_slcf (h : ev O (.slcf a b) ρ H = some (v, H')) : ∃ s H1, ev O a ρ H = some (.str s, H1) ∧ ∃ i, ev O b ρ H1 = some (.int i, H') ∧ (0 ≤ i ∧ i ≤ lim ∧ s.length ≤ lim) ∧ v = .str (s.drop i.toNat) := by
  obtain ⟨x, H1, e1, h⟩ := bnd2 ((e_slcf a b).symm.trans h)
  obtain ⟨y, H2, e2, h⟩ := bnd2 h
  obtain ⟨s, i, rfl, rfl, hp, rfl, rfl⟩ := slfV_inv h
  exact ⟨s, H1, e1, i, e2, hp, rfl⟩
theorem sltV_inv {x y w : V} (h : sltV x y H = some (w, H')) : ∃ j, y = .int j ∧ ((∃ s, x = .str s ∧ (0 ≤ j ∧ j ≤ lim ∧ s.length ≤ lim) ∧ w = .str (s.take j.toNat) ∧ H' = H) ∨ ∃ s, x = .fl s ∧ (0 ≤ j ∧ j ≤ lim ∧ s.length ≤ lim) ∧ w = .ref H.length ∧ H' = H ++ [s.take j.toNat]) := by
  cases x with
  | str s =>
    cases y with
    | int j => obtain ⟨hp, h⟩ := ifs h; obtain ⟨rfl, rfl⟩ := so2 h; exact ⟨j, rfl, .inl ⟨s, rfl, hp, rfl, rfl⟩⟩
    | _ => exact nos h
  | fl s =>
    cases y with
    | int j => obtain ⟨hp, h⟩ := ifs h; obtain ⟨rfl, rfl⟩ := so2 h; exact ⟨j, rfl, .inr ⟨s, rfl, hp, rfl, rfl⟩⟩
    | _ => exact nos h
  | _ => exact nos h
theorem i_slct (h : ev O (.slct a b) ρ H = some (v, H')) : ∃ x H1, ev O a ρ H = some (x, H1) ∧ ∃ j H2, ev O b ρ H1 = some (.int j, H2) ∧ ((∃ s, x = .str s ∧ (0 ≤ j ∧ j ≤ lim ∧ s.length ≤ lim) ∧ v = .str (s.take j.toNat) ∧ H' = H2) ∨ ∃ s, x = .fl s ∧ (0 ≤ j ∧ j ≤ lim ∧ s.length ≤ lim) ∧ v = .ref H2.length ∧ H' = H2 ++ [s.take j.toNat]) := by
  obtain ⟨x, H1, e1, h⟩ := bnd2 ((e_slct a b).symm.trans h)
  obtain ⟨y, H2, e2, h⟩ := bnd2 h
  obtain ⟨j, rfl, h⟩ := sltV_inv h
  exact ⟨x, H1, e1, j, H2, e2, h⟩
theorem i_call {f : Nat} {es : Es} (h : ev O (.call f es) ρ H = some (v, H')) : ∃ vs H1, evs O es ρ H = some (vs, H1) ∧ O f vs H1 = some (v, H') := bnd2 ((e_call f es).symm.trans h)
theorem i_len (h : ev O (.len a) ρ H = some (v, H')) : ∃ x, ev O a ρ H = some (x, H') ∧ ((∃ s, x = .str s ∧ s.length ≤ lim ∧ v = .int s.length) ∨ ∃ l, lv H' x = some l ∧ l.length ≤ lim ∧ v = .int l.length) := by
  obtain ⟨x, H1, e1, h⟩ := bnd2 ((e_len a).symm.trans h)
  cases x with
  | str s => obtain ⟨hp, h⟩ := ifs h; obtain ⟨rfl, rfl⟩ := so2 h; exact ⟨_, e1, .inl ⟨s, rfl, hp, rfl⟩⟩
  | ref i => obtain ⟨l, e2, h⟩ := bnd1 (x := lv H1 (.ref i)) h; obtain ⟨hp, h⟩ := ifs h; obtain ⟨rfl, rfl⟩ := so2 h; exact ⟨_, e1, .inr ⟨l, e2, hp, rfl⟩⟩
  | fl vs => obtain ⟨hp, h⟩ := ifs h; obtain ⟨rfl, rfl⟩ := so2 h; exact ⟨_, e1, .inr ⟨vs, rfl, hp, rfl⟩⟩
  | _ => exact nos h
theorem i_strip (h : ev O (.strip a b) ρ H = some (v, H')) : ∃ s H1, ev O a ρ H = some (.str s, H1) ∧ ∃ cs, ev O b ρ H1 = some (.str cs, H') ∧ s.length ≤ lim ∧ v = .str (stripL s cs) := by
  obtain ⟨x, H1, e1, h⟩ := bnd2 ((e_strip a b).symm.trans h)
  obtain ⟨y, H2, e2, h⟩ := bnd2 h
  cases x with
  | str s =>
    cases y with
    | str cs => obtain ⟨hp, h⟩ := ifs h; obtain ⟨rfl, rfl⟩ := so2 h; exact ⟨s, H1, e1, cs, e2, hp, rfl⟩
    | _ => exact nos h
  | _ => exact nos h
theorem i_part (h : ev O (.part a b) ρ H = some (v, H')) : ∃ s H1, ev O a ρ H = some (.str s, H1) ∧ ∃ k cs, ev O b ρ H1 = some (.str (k :: cs), H') ∧ s.length ≤ lim ∧ v = .tup (partL s (k :: cs)) := by
  obtain ⟨x, H1, e1, h⟩ := bnd2 ((e_part a b).symm.trans h)
  obtain ⟨y, H2, e2, h⟩ := bnd2 h
  cases x with
  | str s =>
    cases y with
    | str cs =>
      cases cs with
      | nil => exact nos h
      | cons k cs => obtain ⟨hp, h⟩ := ifs h; obtain ⟨rfl, rfl⟩ := so2 h; exact ⟨s, H1, e1, k, cs, e2, hp, rfl⟩
    | _ => exact nos h
  | _ => exact nos h
theorem i_app (h : ev O (.app a b) ρ H = some (v, H')) : ∃ i H1, ev O a ρ H = some (.ref i, H1) ∧ ∃ y H2, ev O b ρ H1 = some (y, H2) ∧ ∃ l, H2[i]? = some l ∧ l.length ≤ lim ∧ v = .none ∧ H' = H2.set i (l ++ [y]) := by
  obtain ⟨x, H1, e1, h⟩ := bnd2 ((e_app a b).symm.trans h)
  obtain ⟨y, H2, e2, h⟩ := bnd2 h
  cases x with
  | ref i => obtain ⟨l, e3, h⟩ := bnd1 (x := H2[i]?) h; obtain ⟨hp, h⟩ := ifs h; obtain ⟨rfl, rfl⟩ := so2 h; exact ⟨i, H1, e1, y, H2, e2, l, e3, hp, rfl, rfl⟩
  | _ => exact nos h
theorem i_pop (h : ev O (.pop a) ρ H = some (v, H')) : ∃ i H1, ev O a ρ H = some (.ref i, H1) ∧ ∃ l, H1[i]? = some l ∧ l.getLast? = some v ∧ l.length ≤ lim ∧ H' = H1.set i l.dropLast := by
  obtain ⟨x, H1, e1, h⟩ := bnd2 ((e_pop a).symm.trans h)
  cases x with
  | ref i => obtain ⟨l, e3, h⟩ := bnd1 (x := H1[i]?) h; obtain ⟨u, e4, h⟩ := bnd1 h; obtain ⟨hp, h⟩ := ifs h; obtain ⟨rfl, rfl⟩ := so2 h; exact ⟨i, H1, e1, l, e3, e4, hp, rfl⟩
  | _ => exact nos h
theorem i_get (h : ev O (.get a b c) ρ H = some (v, H')) : ∃ es H1, ev O a ρ H = some (.dct es, H1) ∧ ∃ k H2, ev O b ρ H1 = some (.str k, H2) ∧ ∃ y, ev O c ρ H2 = some (y, H') ∧ v = (match getD2 es k with | some u => .str u | Option.none => y) := by
  obtain ⟨x, H1, e1, h⟩ := bnd2 ((e_get a b c).symm.trans h)
  obtain ⟨y, H2, e2, h⟩ := bnd2 h
  obtain ⟨z, H3, e3, h⟩ := bnd2 h
  cases x with
  | dct es =>
    cases y with
    | str k => obtain ⟨rfl, rfl⟩ := so2 h; exact ⟨es, H1, e1, k, H2, e2, z, e3, rfl⟩
    | _ => exact nos h
  | _ => exact nos h
theorem i_tup {es : Es} (h : ev O (.tup es) ρ H = some (v, H')) : ∃ vs, evs O es ρ H = some (vs, H') ∧ v = .tup vs := by
  obtain ⟨vs, H1, e1, h⟩ := bnd2 ((e_tup es).symm.trans h)
  obtain ⟨rfl, rfl⟩ := so2 h
  exact ⟨vs, e1, rfl⟩
theorem i_lst {es : Es} (h : ev O (.lst es) ρ H = some (v, H')) : ∃ vs H1, evs O es ρ H = some (vs, H1) ∧ v = .ref H1.length ∧ H' = H1 ++ [vs] := by
  obtain ⟨vs, H1, e1, h⟩ := bnd2 ((e_lst es).symm.trans h)
  obtain ⟨rfl, rfl⟩ := so2 h
  exact ⟨vs, H1, e1, rfl, rfl⟩
theorem i_nil {vs : List V} (h : evs O .nil ρ H = some (vs, H')) : vs = [] ∧ H' = H := by obtain ⟨rfl, rfl⟩ := so2 h; exact ⟨rfl, rfl⟩
theorem i_cons {e : E} {es : Es} {vs : List V} (h : evs O (.cons e es) ρ H = some (vs, H')) : ∃ v H1, ev O e ρ H = some (v, H1) ∧ ∃ ws, evs O es ρ H1 = some (ws, H') ∧ vs = v :: ws := by
  obtain ⟨v, H1, e1, h⟩ := bnd2 ((es_cons e es).symm.trans h)
  obtain ⟨ws, H2, e2, h⟩ := bnd2 h
  obtain ⟨rfl, rfl⟩ := so2 h
  exact ⟨v, H1, e1, ws, e2, rfl⟩
theorem ofV_eq {x : V} {t : Bool} (h : truth x = some t) : ofV (x, H) = some (t, H) := by
  show (truth x).bind _ = _
  rw [h]
  rfl
theorem i_ofV {x : V} {t : Bool} (h : ofV (x, H) = some (t, H')) : truth x = some t ∧ H' = H := by
  obtain ⟨u, e, h⟩ := bnd1 h
  obtain ⟨rfl, rfl⟩ := so2 h
  exact ⟨e, rfl⟩
theorem tst_of (O : Orc) : ∀ (e : E) (ρ : Loc) (H H' : Hp) (x : V) (t : Bool), ev O e ρ H = some (x, H') → truth x = some t → tst O e ρ H = some (t, H')
  | .and a b, ρ, H, H', x, t, h, ht => by
    obtain ⟨y, H1, h1, u, h2, h3⟩ := i_and h
    rw [t_and, tst_of O a ρ H H1 y u h1 h2]
    rcases h3 with ⟨rfl, rfl, rfl⟩ | ⟨rfl, h3⟩
    · rw [h2] at ht; cases ht; rfl
    · exact tst_of O b _ _ _ _ _ h3 ht
  | .or a b, ρ, H, H', x, t, h, ht => by
    obtain ⟨y, H1, h1, u, h2, h3⟩ := i_or h
    rw [t_or, tst_of O a ρ H H1 y u h1 h2]
    rcases h3 with ⟨rfl, rfl, rfl⟩ | ⟨rfl, h3⟩
    · rw [h2] at ht; cases ht; rfl
    · exact tst_of O b _ _ _ _ _ h3 ht
  | .not a, ρ, H, H', x, t, h, ht => by
    obtain ⟨y, h1, u, h2, rfl⟩ := i_not h
    rw [t_not, tst_of O a ρ H H' y u h1 h2]
    cases ht
    rfl
  | .ite c a b, ρ, H, H', x, t, h, ht => by
    obtain ⟨y, H1, h1, u, h2, h3⟩ := i_ite h
    rw [t_ite, tst_of O c ρ H H1 y u h1 h2]
    rcases h3 with ⟨rfl, h3⟩ | ⟨rfl, h3⟩
    · exact tst_of O a _ _ _ _ _ h3 ht
    · exact tst_of O b _ _ _ _ _ h3 ht
  | .bad, ρ, H, H', x, t, h, ht | .lit _, ρ, H, H', x, t, h, ht | .loc _, ρ, H, H', x, t, h, ht | .bin _ _ _, ρ, H, H', x, t, h, ht | .cmp _ _ _, ρ, H, H', x, t, h, ht
  | .chain _ _ _ _ _, ρ, H, H', x, t, h, ht | .neg _, ρ, H, H', x, t, h, ht | .idx _ _, ρ, H, H', x, t, h, ht | .slcs _ _ _, ρ, H, H', x, t, h, ht | .slcf _ _, ρ, H, H', x, t, h, ht
  | .slct _ _, ρ, H, H', x, t, h, ht | .call _ _, ρ, H, H', x, t, h, ht | .len _, ρ, H, H', x, t, h, ht | .strip _ _, ρ, H, H', x, t, h, ht | .part _ _, ρ, H, H', x, t, h, ht
  | .app _ _, ρ, H, H', x, t, h, ht | .pop _, ρ, H, H', x, t, h, ht | .get _ _ _, ρ, H, H', x, t, h, ht | .tup _, ρ, H, H', x, t, h, ht | .lst _, ρ, H, H', x, t, h, ht | .comp _ _ _ _ _ _, ρ, H, H', x, t, h, ht => by
    show (ev O _ ρ H).bind ofV = _
    rw [h]
    exact ofV_eq ht
end
theorem i_cloop {src : V} {bd : V → Option Loc} {ef tf : Loc → Hp → Rn} {i0 k j : Nat} {H H' : Hp} (h : cloop src bd ef tf i0 (k + 1) j H = some H') : ∃ l, lv H src = some l ∧ ((l[j]? = Option.none ∧ H' = H) ∨ ∃ w, l[j]? = some w ∧ ∃ ρ, bd w = some ρ ∧ ∃ x H3, tf ρ H = some (x, H3) ∧ ∃ t, truth x = some t ∧
    ((t = true ∧ ∃ v H4, ef ρ H3 = some (v, H4) ∧ ∃ acc, H4[i0]? = some acc ∧ acc.length ≤ lim ∧ cloop src bd ef tf i0 k (j + 1) (H4.set i0 (acc ++ [v])) = some H') ∨ (t = false ∧ cloop src bd ef tf i0 k (j + 1) H3 = some H'))) := by
  obtain ⟨l, hl, h⟩ := bnd1 (x := lv H src) h
  refine ⟨l, hl, ?_⟩
  cases hv : l[j]? with
  | none => rw [hv] at h; exact .inl ⟨rfl, (so1 h).symm⟩
  | some w =>
    rw [hv] at h
    obtain ⟨ρ, hb, h⟩ := bnd1 (x := bd w) h
    obtain ⟨x, H3, h1, h⟩ := bnd2 h
    obtain ⟨t, h2, h⟩ := bnd1 h
    refine .inr ⟨w, rfl, ρ, hb, x, H3, h1, t, h2, ?_⟩
    cases t with
    | false => exact .inr ⟨rfl, itf h⟩
    | true =>
      obtain ⟨v, H4, h3, h⟩ := bnd2 (itt h)
      obtain ⟨acc, h4, h⟩ := bnd1 h
      obtain ⟨h5, h⟩ := ifs h
      exact .inl ⟨rfl, v, H4, h3, acc, h4, lim_le h5, h⟩


set_option genSizeOf false
set_option genInjectivity false
mutual
inductive S where
  | bad
  | pass
  | brk
  | cont
  | asg (i : Nat) (e : E)
  | asgT (is : List Nat) (e : E)
  | asgR (is : List Nat) (e : E)
  | set (a i e : E)
  | augN (i : Nat) (o : Op2) (e : E)
  | augS (a i : E) (o : Op2) (e : E)
  | ite (c : E) (a b : Ss)
  | whl (c : E) (b : Ss)
  | forE (i : Nat) (e : E) (b : Ss)
  | forR (i : Nat) (e : E) (b : Ss)
  | ret (e : E)
  | ex (e : E)
inductive Ss where
  | nil
  | cons (s : S) (r : Ss)
end

set_option genSizeOf true
set_option genInjectivity true
inductive Out where
  | next | brk | cont
  | ret (v : V)

abbrev Rs := Option (Out × Loc × Hp)

noncomputable def lp (k : Loc → Hp → Rs) (p : Out × Loc × Hp) : Rs := match p with
  | (.next, ρ, H) => k ρ H
  | (.cont, ρ, H) => k ρ H
  | (.brk, ρ, H) => some (.next, ρ, H)
  | (.ret v, ρ, H) => some (.ret v, ρ, H)
noncomputable def wloop (t : Loc → Hp → Option (Bool × Hp)) (b : Loc → Hp → Rs) : Nat → Loc → Hp → Rs
  | 0, _, _ => Option.none
  | n + 1, ρ, H => (t ρ H).bind fun p => if p.1 = true then (b ρ p.2).bind (lp (wloop t b n)) else some (.next, ρ, p.2)
noncomputable def floop (i : Nat) (b : Loc → Hp → Rs) : List V → Loc → Hp → Rs
  | [], ρ, H => some (.next, ρ, H)
  | v :: vs, ρ, H => (b (ρ.set i (some v)) H).bind (lp (floop i b vs))
noncomputable def rloop (i r : Nat) (b : Loc → Hp → Rs) : Nat → Nat → Loc → Hp → Rs
  | 0, _, _, _ => Option.none
  | n + 1, k, ρ, H => (H[r]?).bind fun l => match l[k]? with
    | Option.none => some (.next, ρ, H)
    | some v => (b (ρ.set i (some v)) H).bind (lp (rloop i r b n (k + 1)))
noncomputable def seqR (k : Loc → Hp → Rs) : Out × Loc × Hp → Rs := fun (o, ρ, H) => match o with
  | .next => k ρ H
  | o => some (o, ρ, H)
noncomputable def asgV (is : List Nat) (ρ : Loc) (v : V) (H : Hp) : Rs := match v with
  | .tup vs => (setAll is vs ρ).bind fun ρ => some (.next, ρ, H)
  | .ref r => (H[r]?).bind fun vs => (setAll is vs ρ).bind fun ρ => some (.next, ρ, H)
  | _ => Option.none
noncomputable def asgRV (is : List Nat) (ρ : Loc) (v : V) (H : Hp) : Rs := match v with
  | .tup vs => (setAll is.reverse vs.reverse ρ).bind fun ρ => some (.next, ρ, H)
  | _ => Option.none
noncomputable def setV (ρ : Loc) (x k v : V) (H : Hp) : Rs := match x, k with
  | .ref r, .int k => (H[r]?).bind fun l => if 0 ≤ k ∧ k < l.length ∧ l.length ≤ lim then some (.next, ρ, H.set r (l.set k.toNat v)) else
      if k = -1 ∧ 0 < l.length ∧ l.length ≤ lim then some (.next, ρ, H.set r (l.set (l.length - 1) v)) else Option.none
  | _, _ => Option.none
noncomputable def augV (o : Op2) (u v : V) (H : Hp) : Rn := match u with | .int _ => bin2 o u v H | .str _ => bin2 o u v H | _ => Option.none
noncomputable def exV (ρ : Loc) (v : V) (H : Hp) : Rs := match v with
  | .none => some (.next, ρ, H)
  | _ => Option.none

noncomputable def aug2 (r : Nat) (k : Int) (o : Op2) (ρ : Loc) (u : V) (p : V × Hp) : Rs := (match u with | .int _ => bin2 o u p.1 p.2 | _ => Option.none).bind fun q => (q.2[r]?).bind fun l => if k < l.length ∧ l.length ≤ lim then some (.next, ρ, q.2.set r (l.set k.toNat q.1)) else Option.none
noncomputable def aug1 (O : Orc) (e : E) (o : Op2) (ρ : Loc) (x k : V) (H : Hp) : Rs := match x, k with
  | .ref r, .int k => (H[r]?).bind fun l => if 0 ≤ k ∧ k < l.length ∧ l.length ≤ lim then (l[k.toNat]?).bind fun u => (ev O e ρ H).bind (aug2 r k o ρ u) else Option.none
  | _, _ => Option.none
noncomputable def forX (W i : Nat) (b : Loc → Hp → Rs) (ρ : Loc) (v : V) (H : Hp) : Rs := match v with
  | .str s => if s.length ≤ lim then floop i b (s.map fun c => .str [c]) ρ H else Option.none
  | .ref r => rloop i r b W 0 ρ H
  | _ => Option.none
noncomputable def forRX (i : Nat) (b : Loc → Hp → Rs) (ρ : Loc) (v : V) (H : Hp) : Rs := match v with
  | .int n => if 0 ≤ n ∧ n ≤ lim then floop i b ((List.range n.toNat).map fun (k : Nat) => V.int (k : Int)) ρ H else Option.none
  | _ => Option.none
mutual
noncomputable def ex (O : Orc) (W : Nat) : S → Loc → Hp → Rs
  | .bad, _, _ => Option.none
  | .pass, ρ, H => some (.next, ρ, H)
  | .brk, ρ, H => some (.brk, ρ, H)
  | .cont, ρ, H => some (.cont, ρ, H)
  | .asg i e, ρ, H => (ev O e ρ H).bind fun p => some (.next, ρ.set i (some p.1), p.2)
  | .asgT is e, ρ, H => (ev O e ρ H).bind fun p => asgV is ρ p.1 p.2
  | .asgR is e, ρ, H => (ev O e ρ H).bind fun p => asgRV is ρ p.1 p.2
  | .set a i e, ρ, H => (ev O e ρ H).bind fun p => (ev O a ρ p.2).bind fun q => (ev O i ρ q.2).bind fun r => setV ρ q.1 r.1 p.1 r.2
  | .augN i o e, ρ, H => (ρ[i]?).bind fun u => u.bind fun u => (ev O e ρ H).bind fun p => (augV o u p.1 p.2).bind fun q => some (.next, ρ.set i (some q.1), q.2)
  | .augS a i o e, ρ, H => (ev O a ρ H).bind fun p => (ev O i ρ p.2).bind fun q => aug1 O e o ρ p.1 q.1 q.2
  | .ite c a b, ρ, H => (tst O c ρ H).bind fun p => if p.1 = true then exs O W a ρ p.2 else exs O W b ρ p.2
  | .whl c b, ρ, H => wloop (tst O c) (exs O W b) W ρ H
  | .forE i e b, ρ, H => (ev O e ρ H).bind fun p => forX W i (exs O W b) ρ p.1 p.2
  | .forR i e b, ρ, H => (ev O e ρ H).bind fun p => forRX i (exs O W b) ρ p.1 p.2
  | .ret e, ρ, H => (ev O e ρ H).bind fun p => some (.ret p.1, ρ, p.2)
  | .ex e, ρ, H => (ev O e ρ H).bind fun p => exV ρ p.1 p.2
noncomputable def exs (O : Orc) (W : Nat) : Ss → Loc → Hp → Rs
  | .nil, ρ, H => some (.next, ρ, H)
  | .cons s r, ρ, H => (ex O W s ρ H).bind (seqR (exs O W r))
end

structure Df where
  ps : Nat
  ls : Nat
  body : Ss

noncomputable def retOf : Out × Loc × Hp → Rn := fun (o, _, H) => match o with
  | .ret v => some (v, H)
  | .next => some (.none, H)
  | _ => Option.none

noncomputable def run (FT : Nat → Option Df) (W : Nat) : Nat → Orc
  | 0 => dead
  | n + 1 => fun f vs H => (FT f).bind fun d => if vs.length = d.ps then (exs (run FT W n) W d.body (unb vs ++ List.replicate (d.ls - d.ps) Option.none) H).bind retOf else Option.none

theorem so3 {α β γ : Type} {a a' : α} {b b' : β} {c c' : γ} (h : some (a, b, c) = some (a', b', c')) : a' = a ∧ b' = b ∧ c' = c := match h with | rfl => ⟨rfl, rfl, rfl⟩
theorem bnd3 {α β γ δ : Type} {x : Option (α × β × γ)} {f : α × β × γ → Option δ} {r : δ} (h : x.bind f = some r) : ∃ a b c, x = some (a, b, c) ∧ f (a, b, c) = some r := match x, h with | some (a, b, c), h => ⟨a, b, c, rfl, h⟩
section
variable {O : Orc} {W : Nat} {ρ ρ' : Loc} {H H' : Hp} {o : Out} {a b e : E}
theorem j_asg {i : Nat} (h : ex O W (.asg i e) ρ H = some (o, ρ', H')) : ∃ v, ev O e ρ H = some (v, H') ∧ o = .next ∧ ρ' = ρ.set i (some v) := by
  obtain ⟨v, H1, e1, h⟩ := bnd2 (x := ev O e ρ H) h
  obtain ⟨rfl, rfl, rfl⟩ := so3 h
  exact ⟨v, e1, rfl, rfl⟩
theorem j_ret (h : ex O W (.ret e) ρ H = some (o, ρ', H')) : ∃ v, ev O e ρ H = some (v, H') ∧ o = .ret v ∧ ρ' = ρ := by
  obtain ⟨v, H1, e1, h⟩ := bnd2 (x := ev O e ρ H) h
  obtain ⟨rfl, rfl, rfl⟩ := so3 h
  exact ⟨v, e1, rfl, rfl⟩
theorem j_ex (h : ex O W (.ex e) ρ H = some (o, ρ', H')) : ev O e ρ H = some (.none, H') ∧ o = .next ∧ ρ' = ρ := by
  obtain ⟨v, H1, e1, h⟩ := bnd2 (x := ev O e ρ H) h
  cases v with
  | none => obtain ⟨rfl, rfl, rfl⟩ := so3 h; exact ⟨e1, rfl, rfl⟩
  | _ => exact nos h
theorem j_ite {x y : Ss} (h : ex O W (.ite e x y) ρ H = some (o, ρ', H')) : ∃ u H1, tst O e ρ H = some (u, H1) ∧ ((u = true ∧ exs O W x ρ H1 = some (o, ρ', H')) ∨ (u = false ∧ exs O W y ρ H1 = some (o, ρ', H'))) := by
  obtain ⟨u, H1, e1, h⟩ := bnd2 (x := tst O e ρ H) h
  refine ⟨u, H1, e1, ?_⟩
  cases u with
  | true => exact .inl ⟨rfl, itt h⟩
  | false => exact .inr ⟨rfl, itf h⟩
theorem i_asgV {is : List Nat} {v : V} (h : asgV is ρ v H = some (o, ρ', H')) : o = .next ∧ H' = H ∧ ((∃ vs, v = .tup vs ∧ setAll is vs ρ = some ρ') ∨ ∃ r vs, v = .ref r ∧ H[r]? = some vs ∧ setAll is vs ρ = some ρ') := by
  cases v with
  | tup vs =>
    obtain ⟨ρ1, h1, h⟩ := bnd1 (x := setAll is vs ρ) h
    obtain ⟨rfl, rfl, rfl⟩ := so3 h
    exact ⟨rfl, rfl, .inl ⟨vs, rfl, h1⟩⟩
  | ref r =>
    obtain ⟨vs, h0, h⟩ := bnd1 (x := H[r]?) h
    obtain ⟨ρ1, h1, h⟩ := bnd1 h
    obtain ⟨rfl, rfl, rfl⟩ := so3 h
    exact ⟨rfl, rfl, .inr ⟨r, vs, rfl, h0, h1⟩⟩
  | _ => exact nos h
theorem i_asgRV {is : List Nat} {v : V} (h : asgRV is ρ v H = some (o, ρ', H')) : o = .next ∧ H' = H ∧ ∃ vs, v = .tup vs ∧ setAll is.reverse vs.reverse ρ = some ρ' := by
  cases v with
  | tup vs =>
    obtain ⟨ρ1, h1, h⟩ := bnd1 (x := setAll is.reverse vs.reverse ρ) h
    obtain ⟨rfl, rfl, rfl⟩ := so3 h
    exact ⟨rfl, rfl, vs, rfl, h1⟩
  | _ => exact nos h
theorem i_setV {x k v : V} (h : setV ρ x k v H = some (o, ρ', H')) : o = .next ∧ ρ' = ρ ∧ ∃ r i l, x = .ref r ∧ k = .int i ∧ H[r]? = some l ∧ (((0 ≤ i ∧ i < l.length ∧ l.length ≤ lim) ∧ H' = H.set r (l.set i.toNat v)) ∨ ((i = -1 ∧ 0 < l.length ∧ l.length ≤ lim) ∧ H' = H.set r (l.set (l.length - 1) v))) := by
  cases x with
  | ref r => cases k with
    | int i =>
      obtain ⟨l, hl, h⟩ := bnd1 (x := H[r]?) h
      by_cases hc : 0 ≤ i ∧ i < l.length ∧ l.length ≤ lim
      · rw [if_pos hc] at h
        obtain ⟨rfl, rfl, rfl⟩ := so3 h
        exact ⟨rfl, rfl, r, i, l, rfl, rfl, hl, .inl ⟨hc, rfl⟩⟩
      · rw [if_neg hc] at h
        obtain ⟨hc, h⟩ := ifs h
        obtain ⟨rfl, rfl, rfl⟩ := so3 h
        exact ⟨rfl, rfl, r, i, l, rfl, rfl, hl, .inr ⟨hc, rfl⟩⟩
    | _ => exact nos h
  | _ => exact nos h
theorem i_augV {p : Op2} {u v w : V} (h : augV p u v H = some (w, H')) : bin2 p u v H = some (w, H') ∧ ((∃ i, u = .int i) ∨ ∃ s, u = .str s) := by
  cases u with
  | int i => exact ⟨h, .inl ⟨i, rfl⟩⟩
  | str s => exact ⟨h, .inr ⟨s, rfl⟩⟩
  | _ => exact nos h
theorem j_augN {i : Nat} {p : Op2} (h : ex O W (.augN i p e) ρ H = some (o, ρ', H')) : ∃ u, ρ[i]? = some (some u) ∧ ∃ v H1, ev O e ρ H = some (v, H1) ∧ ∃ w, augV p u v H1 = some (w, H') ∧ o = .next ∧ ρ' = ρ.set i (some w) := by
  obtain ⟨_, h1, h⟩ := bnd1 (x := ρ[i]?) h
  obtain ⟨u, rfl, h⟩ := bnd1 h
  obtain ⟨v, H1, e1, h⟩ := bnd2 h
  obtain ⟨w, H2, e2, h⟩ := bnd2 h
  obtain ⟨rfl, rfl, rfl⟩ := so3 h
  exact ⟨u, h1, v, H1, e1, w, e2, rfl, rfl⟩
theorem i_aug1 {p : Op2} {x k : V} (h : aug1 O e p ρ x k H = some (o, ρ', H')) : ∃ r i l, x = .ref r ∧ k = .int i ∧ H[r]? = some l ∧ (0 ≤ i ∧ i < l.length ∧ l.length ≤ lim) ∧ ∃ j, l[i.toNat]? = some (.int j) ∧ ∃ v H3, ev O e ρ H = some (v, H3) ∧ ∃ z H4, bin2 p (.int j) v H3 = some (z, H4) ∧
    ∃ l', H4[r]? = some l' ∧ (i < l'.length ∧ l'.length ≤ lim) ∧ o = .next ∧ ρ' = ρ ∧ H' = H4.set r (l'.set i.toNat z) := by
  cases x with
  | ref r => cases k with
    | int i =>
      obtain ⟨l, hl, h⟩ := bnd1 (x := H[r]?) h
      obtain ⟨hc, h⟩ := ifs h
      obtain ⟨u, hu, h⟩ := bnd1 h
      obtain ⟨v, H3, e1, h⟩ := bnd2 h
      cases u with
      | int j =>
        obtain ⟨z, H4, e2, h⟩ := bnd2 (x := bin2 p (.int j) v H3) h
        obtain ⟨l', hl', h⟩ := bnd1 h
        obtain ⟨hc2, h⟩ := ifs h
        obtain ⟨rfl, rfl, rfl⟩ := so3 h
        exact ⟨r, i, l, rfl, rfl, hl, hc, j, hu, v, H3, e1, z, H4, e2, l', hl', hc2, rfl, rfl, rfl⟩
      | _ => exact nos h
    | _ => exact nos h
  | _ => exact nos h
theorem i_exs {s : S} {r : Ss} (h : exs O W (.cons s r) ρ H = some (o, ρ', H')) : ∃ o1 ρ1 H1, ex O W s ρ H = some (o1, ρ1, H1) ∧ ((o1 = .next ∧ exs O W r ρ1 H1 = some (o, ρ', H')) ∨ (o1 ≠ .next ∧ o = o1 ∧ ρ' = ρ1 ∧ H' = H1)) := by
  obtain ⟨o1, ρ1, H1, e1, h⟩ := bnd3 (x := ex O W s ρ H) h
  refine ⟨o1, ρ1, H1, e1, ?_⟩
  cases o1 with
  | next => exact .inl ⟨rfl, h⟩
  | brk => exact .inr ⟨fun h => Out.noConfusion h, so3 h⟩
  | cont => exact .inr ⟨fun h => Out.noConfusion h, so3 h⟩
  | ret v => exact .inr ⟨fun h => Out.noConfusion h, so3 h⟩
theorem i_lp {k : Loc → Hp → Rs} {o1 : Out} (h : lp k (o1, ρ, H) = some (o, ρ', H')) : ((o1 = .next ∨ o1 = .cont) ∧ k ρ H = some (o, ρ', H')) ∨ (ρ' = ρ ∧ H' = H ∧ ((o1 = .brk ∧ o = .next) ∨ ∃ v, o1 = .ret v ∧ o = .ret v)) := by
  cases o1 with
  | next => exact .inl ⟨.inl rfl, h⟩
  | cont => exact .inl ⟨.inr rfl, h⟩
  | brk => obtain ⟨rfl, rfl, rfl⟩ := so3 h; exact .inr ⟨rfl, rfl, .inl ⟨rfl, rfl⟩⟩
  | ret v => obtain ⟨rfl, rfl, rfl⟩ := so3 h; exact .inr ⟨rfl, rfl, .inr ⟨v, rfl, rfl⟩⟩
end
open PySem.Calls

abbrev Led := List (Addr × Obj)
noncomputable def tupOb (vals : List Value) (n : Nat) : Obj := { cls := .type "tuple", data := .seq vals.toArray n }

noncomputable def Std (hb : Heap) (T : Led) (a : Addr) (o : Obj) : Prop := (a, o) ∈ T ∨ hb.get? a = some o

structure DctAt (K : Frag) (P : Params) (a : Addr) (es : List (List Nat × List Nat)) : Prop where
  ex : ∃ (en : Array DictEntry) (n : Nat), K.lookup a = some ⟨.type "dict", none, .dict en n, #[]⟩ ∧ KeysLit P en.toList
  ne : (a == sysModules) = false
  is : ∀ k : List Nat, ∃ r, nsIn K a (toS k) = some r ∧ (match getD2 es k with | some u => ∃ t, r = some (.str (toS u) t) | Option.none => r = Option.none)

mutual
inductive VR (K : Frag) (P : Params) (hb : Heap) (ads : List Addr) (T : Led) : V → Value → Prop
  | none : VR K P hb ads T .none .none
  | bool (b : Bool) : VR K P hb ads T (.bool b) (.bool b)
  | int (i : Int) (t : Tok) : VR K P hb ads T (.int i) (.int i t)
  | str (l : List Nat) (t : Tok) : VR K P hb ads T (.str l) (.str (toS l) t)
  | ref {i : Nat} {a : Addr} : ads[i]? = some a → VR K P hb ads T (.ref i) (.ref a)
  | tup {vs : List V} {vals : List Value} {a : Addr} {n : Nat} : Std hb T a (tupOb vals n) → VRs K P hb ads T vs vals → VR K P hb ads T (.tup vs) (.ref a)
  | fl {vs : List V} {vals : List Value} {a : Addr} {o : Obj} {n : Nat} : hb.get? a = some o → o.cls = .type "list" → o.data = .seq vals.toArray n → VRs K P hb ads T vs vals → VR K P hb ads T (.fl vs) (.ref a)
  | dct {a : Addr} {es : List (List Nat × List Nat)} : DctAt K P a es → VR K P hb ads T (.dct es) (.ref a)
inductive VRs (K : Frag) (P : Params) (hb : Heap) (ads : List Addr) (T : Led) : List V → List Value → Prop
  | nil : VRs K P hb ads T [] []
  | cons {v : V} {vs : List V} {x : Value} {xs : List Value} : VR K P hb ads T v x → VRs K P hb ads T vs xs → VRs K P hb ads T (v :: vs) (x :: xs)
end

section
variable {K : Frag} {P : Params} {hb : Heap} {ads ads' : List Addr} {T T' : Led}

structure Gr (ads : List Addr) (T : Led) (ads' : List Addr) (T' : Led) : Prop where
  a : ∀ (i : Nat) (x : Addr), ads[i]? = some x → ads'[i]? = some x
  t : ∀ p ∈ T, p ∈ T'
theorem Gr.refl (ads : List Addr) (T : Led) : Gr ads T ads T := ⟨fun _ _ h => h, fun _ h => h⟩
theorem Gr.trans {a1 a2 a3 : List Addr} {t1 t2 t3 : Led} (g : Gr a1 t1 a2 t2) (h : Gr a2 t2 a3 t3) : Gr a1 t1 a3 t3 := ⟨fun i x e => h.a i x (g.a i x e), fun p hp => h.t p (g.t p hp)⟩

theorem mono_both (g : Gr ads T ads' T') : (∀ {v : V} {x : Value}, VR K P hb ads T v x → VR K P hb ads' T' v x) ∧ ∀ {vs : List V} {xs : List Value}, VRs K P hb ads T vs xs → VRs K P hb ads' T' vs xs := by
  have both := fun (v : V) (x : Value) (h : VR K P hb ads T v x) => @VR.rec K P hb ads T (fun v x _ => VR K P hb ads' T' v x) (fun vs xs _ => VRs K P hb ads' T' vs xs) .none (fun b => .bool b) (fun i t => .int i t) (fun l t => .str l t)
    (fun h => .ref (g.a _ _ h)) (fun h _ r => .tup (h.imp (g.t _) id) r) (fun h1 h2 h3 _ r => .fl h1 h2 h3 r) (fun h => .dct h) .nil (fun _ _ a b => .cons a b) v x h
  have all := fun (v : List V) (x : List Value) (h : VRs K P hb ads T v x) => @VRs.rec K P hb ads T (fun v x _ => VR K P hb ads' T' v x) (fun vs xs _ => VRs K P hb ads' T' vs xs) .none (fun b => .bool b) (fun i t => .int i t) (fun l t => .str l t)
    (fun h => .ref (g.a _ _ h)) (fun h _ r => .tup (h.imp (g.t _) id) r) (fun h1 h2 h3 _ r => .fl h1 h2 h3 r) (fun h => .dct h) .nil (fun _ _ a b => .cons a b) v x h
  exact ⟨fun h => both _ _ h, fun h => all _ _ h⟩
theorem VR.mono (g : Gr ads T ads' T') {v : V} {x : Value} (h : VR K P hb ads T v x) : VR K P hb ads' T' v x := (mono_both g).1 h
theorem VRs.mono (g : Gr ads T ads' T') {vs : List V} {xs : List Value} (h : VRs K P hb ads T vs xs) : VRs K P hb ads' T' vs xs := (mono_both g).2 h
theorem VR.i_none {x : Value} (h : VR K P hb ads T .none x) : x = .none := by cases h; rfl
theorem VR.i_bool {b : Bool} {x : Value} (h : VR K P hb ads T (.bool b) x) : x = .bool b := by cases h; rfl
theorem VR.i_int {i : Int} {x : Value} (h : VR K P hb ads T (.int i) x) : ∃ t, x = .int i t := by cases h; exact ⟨_, rfl⟩
theorem VR.i_str {l : List Nat} {x : Value} (h : VR K P hb ads T (.str l) x) : ∃ t, x = .str (toS l) t := by cases h; exact ⟨_, rfl⟩
theorem VR.i_ref {i : Nat} {x : Value} (h : VR K P hb ads T (.ref i) x) : ∃ a, x = .ref a ∧ ads[i]? = some a := by cases h with | ref h => exact ⟨_, rfl, h⟩
theorem VR.i_tup {vs : List V} {x : Value} (h : VR K P hb ads T (.tup vs) x) : ∃ a vals n, x = .ref a ∧ Std hb T a (tupOb vals n) ∧ VRs K P hb ads T vs vals := by cases h with | tup h r => exact ⟨_, _, _, rfl, h, r⟩
theorem VR.i_fl {vs : List V} {x : Value} (h : VR K P hb ads T (.fl vs) x) : ∃ a vals o n, x = .ref a ∧ hb.get? a = some o ∧ o.cls = .type "list" ∧ o.data = .seq vals.toArray n ∧ VRs K P hb ads T vs vals := by
  cases h with | fl h1 h2 h3 r => exact ⟨_, _, _, _, rfl, h1, h2, h3, r⟩
theorem VR.i_dct {es : List (List Nat × List Nat)} {x : Value} (h : VR K P hb ads T (.dct es) x) : ∃ a, x = .ref a ∧ DctAt K P a es := by cases h with | dct h => exact ⟨_, rfl, h⟩
theorem VRs.i_nil {xs : List Value} (h : VRs K P hb ads T [] xs) : xs = [] := by cases h; rfl
theorem VRs.i_cons {v : V} {vs : List V} {xs : List Value} (h : VRs K P hb ads T (v :: vs) xs) : ∃ x ys, xs = x :: ys ∧ VR K P hb ads T v x ∧ VRs K P hb ads T vs ys := by cases h with | cons h r => exact ⟨_, _, rfl, h, r⟩
theorem VRs.length {vs : List V} : ∀ {xs : List Value}, VRs K P hb ads T vs xs → vs.length = xs.length := by
  induction vs with
  | nil => intro xs h; rw [h.i_nil]; rfl
  | cons v vs ih =>
    intro xs h
    obtain ⟨x, ys, rfl, _, r⟩ := h.i_cons
    exact congrArg (· + 1) (ih r)
theorem VRs.get {vs : List V} : ∀ {xs : List Value} {k : Nat} {v : V}, VRs K P hb ads T vs xs → vs[k]? = some v → ∃ x, xs[k]? = some x ∧ VR K P hb ads T v x := by
  induction vs with
  | nil => intro xs k v h e; exact nos e
  | cons w vs ih =>
    intro xs k v h e
    obtain ⟨x, ys, rfl, h, r⟩ := h.i_cons
    cases k with
    | zero => obtain rfl := so1 e; exact ⟨_, rfl, h⟩
    | succ k => exact ih (k := k) r e
theorem VRs.append {vs : List V} : ∀ {ws : List V} {xs ys : List Value}, VRs K P hb ads T vs xs → VRs K P hb ads T ws ys → VRs K P hb ads T (vs ++ ws) (xs ++ ys) := by
  induction vs with
  | nil => intro ws xs ys h k; rw [h.i_nil]; exact k
  | cons v vs ih =>
    intro ws xs ys h k
    obtain ⟨x, zs, rfl, h, r⟩ := h.i_cons
    exact .cons h (ih r k)
theorem VRs.set {vs : List V} : ∀ {xs : List Value} {k : Nat} {v : V} {x : Value}, VRs K P hb ads T vs xs → VR K P hb ads T v x → VRs K P hb ads T (vs.set k v) (xs.set k x) := by
  induction vs with
  | nil => intro xs k v x h _; rw [h.i_nil]; exact .nil
  | cons w vs ih =>
    intro xs k v x h hv
    obtain ⟨y, zs, rfl, h, r⟩ := h.i_cons
    cases k with
    | zero => exact .cons hv r
    | succ k => exact .cons h (ih r hv)
theorem VRs.snoc {vs : List V} : ∀ {v : V} {xs : List Value}, VRs K P hb ads T (vs ++ [v]) xs → ∃ ys y, xs = ys ++ [y] ∧ VRs K P hb ads T vs ys ∧ VR K P hb ads T v y := by
  induction vs with
  | nil =>
    intro v xs h
    obtain ⟨x, ys, rfl, h, r⟩ := h.i_cons
    rw [r.i_nil]
    exact ⟨[], x, rfl, .nil, h⟩
  | cons w vs ih =>
    intro v xs h
    obtain ⟨x, zs, rfl, h1, r⟩ := h.i_cons
    obtain ⟨ys, y, rfl, a, b⟩ := ih r
    exact ⟨x :: ys, y, rfl, .cons h1 a, b⟩
theorem VRs.take {vs : List V} : ∀ {xs : List Value} (k : Nat), VRs K P hb ads T vs xs → VRs K P hb ads T (vs.take k) (xs.take k) := by
  induction vs with
  | nil => intro xs k h; rw [h.i_nil, List.take_nil, List.take_nil]; exact .nil
  | cons v vs ih =>
    intro xs k h
    obtain ⟨x, ys, rfl, h, r⟩ := h.i_cons
    cases k with
    | zero => exact .nil
    | succ k => exact .cons h (ih k r)

structure Cells (K : Frag) (P : Params) (hb : Heap) (T : Led) (H : Hp) (Ms : Led) : Prop where
  len : Ms.length = H.length
  at' : ∀ (i : Nat) (l : List V), H[i]? = some l → ∃ (a : Addr) (vals : List Value) (n : Nat), Ms[i]? = some (a, listOf vals.toArray n) ∧ VRs K P hb (Ms.map (·.1)) T l vals
  nodup : (Ms.map (·.1)).Nodup

structure St (K : Frag) (P : Params) (hb : Heap) (h₀ : Heap) (L : Addr) (ns : List Str) (X : Led) (ρ : Loc) (H : Hp) (Ms T : Led) (h : Heap) : Prop where
  fr : ∃ m, Fr h₀ L h m ∧ ∀ (i : Nat) (v : V), ρ[i]? = some (some v) → ∃ x val, ns[i]? = some x ∧ m x = some val ∧ VR K P hb (Ms.map (·.1)) T v val
  nw : News h₀ L h (Ms ++ (T ++ X))
  ce : Cells K P hb T H Ms
  off : ∀ p ∈ T ++ X, ∀ q ∈ Ms, p.1 ≠ q.1
  offT : ∀ p ∈ T, ∀ q ∈ X, p.1 ≠ q.1
end

inductive GV where
  | val (v : V)
  | fn (a : Nat)

noncomputable def lcs (cs : Scope) : List Str := cs.names.filterMap fun x => if x.2 = .local then some x.1 else Option.none

abbrev Gt := List (Str × GV)

noncomputable def nameG : Option GV → E
  | some (.val v) => .lit v
  | _ => .bad
noncomputable def nameK (G : Gt) (cs : Scope) (x : Str) : Option NameKind → E
  | some .local => (match (lcs cs).findIdx? (· == x) with
    | some i => .loc i
    | Option.none => .bad)
  | some .globalImplicit => nameG (G.lookup x)
  | _ => .bad
noncomputable def nameE (G : Gt) (cs : Scope) (x : Str) : E :=
  if x == ("__debug__" : Str) then .bad else nameK G cs x (cs.names.lookup x)

noncomputable def locOf (cs : Scope) : Expr → Option Nat
  | .Name x _ => if cs.names.lookup x = some .local then (lcs cs).findIdx? (· == x) else Option.none
  | _ => Option.none

noncomputable def fnG : Option GV → Option Nat
  | some (.fn a) => some a
  | _ => Option.none
noncomputable def fnK (g : Option GV) : Option NameKind → Option Nat
  | some .globalImplicit => fnG g
  | _ => Option.none
noncomputable def fnOfName (G : Gt) (cs : Scope) (x : Str) : Option Nat :=
  if x == ("__debug__" : Str) then Option.none else fnK (G.lookup x) (cs.names.lookup x)

noncomputable def isBlt (bl : List Str) (cs : Scope) (x y : Str) : Bool :=
  x == y && !(x == ("__debug__" : Str)) && bl.contains x && (cs.names.lookup x == some .globalImplicit)

noncomputable def isStar : Expr → Bool
  | .Starred .. => true
  | _ => false
noncomputable def isSetD : Expr → Bool
  | .Set .. => true
  | _ => false
noncomputable def isCompD : Expr → Bool
  | .ListComp .. | .SetComp .. | .DictComp .. => true
  | _ => false
noncomputable def isSlc : Expr → Bool
  | .Slice .. => true
  | _ => false

noncomputable def cpOf : CmpOp → Option Cp
  | .Lt => some .lt
  | .LtE => some .le
  | .Gt => some .gt
  | .GtE => some .ge
  | .Eq => some .eq
  | .NotEq => some .ne
  | .In => some .isin
  | .Is => some .isnone
  | _ => Option.none
noncomputable def opOf : Operator → Option Op2
  | .Add => some .add
  | .Sub => some .sub
  | .Mult => some .mul
  | .Mod => some .mod
  | _ => Option.none

noncomputable def augOf : Operator → Option Op2
  | .Add => some .add
  | .Sub => some .sub
  | _ => Option.none

noncomputable def esOf : List E → Es
  | [] => .nil
  | e :: r => .cons e (esOf r)

noncomputable def baseOk : Expr → Bool
  | .Name .. | .Subscript .. => true
  | _ => false

noncomputable def locsOf (cs : Scope) : List Expr → Option (List Nat)
  | [] => some []
  | e :: r => (locOf cs e).bind fun i => (locsOf cs r).map (i :: ·)

noncomputable def compOk (sc : Scope) (it : Expr) : Bool :=
  !isSetD it && (sc.kind == .function) && sc.names.all (fun x => x.2 == .local && (sc.names.lookup x.1 == some .local)) && decide (lcs sc).Nodup

noncomputable def isName : Expr → Bool
  | .Name .. => true
  | _ => false
noncomputable def cConst : Const → E
  | .int i => .lit (.int i)
  | .str s => .lit (.str s.cps.toList)
  | .bool b => .lit (.bool b)
  | .none => .lit .none
  | _ => .bad
noncomputable def cBin (o : Operator) (a b : E) : E := match opOf o with
  | some p => .bin p a b
  | Option.none => .bad
noncomputable def cCmp1 (f : Expr → E) (a : E) (o : CmpOp) (r : Expr) : E := match cpOf o with
  | some p => if isSetD r then .bad else .cmp p a (f r)
  | Option.none => .bad
noncomputable def cCmp2 (f : Expr → E) (a : E) (o1 o2 : CmpOp) (r1 r2 : Expr) : E := match cpOf o1 with
  | some p1 => (match cpOf o2 with
    | some p2 => if isSetD r2 then .bad else .chain p1 p2 a (f r1) (f r2)
    | Option.none => .bad)
  | Option.none => .bad
noncomputable def cCmp (f : Expr → E) (a : E) : List CmpOp → List Expr → E
  | [o], [r] => cCmp1 f a o r
  | [o1, o2], [r1, r2] => cCmp2 f a o1 o2 r1 r2
  | _, _ => .bad
noncomputable def cBool (f : Expr → E) (op : BoolOp) (p : Pos) : List Expr → E
  | [] => .bad
  | [a] => f a
  | a :: b :: r => (match op with
    | .And => .and (f a) (f (.BoolOp .And (b :: r) p))
    | .Or => .or (f a) (f (.BoolOp .Or (b :: r) p)))
noncomputable def cUn (a : E) : UnaryOp → E
  | .Not => .not a
  | .USub => .neg a
  | _ => .bad
noncomputable def cSlice (f : Expr → E) (v : Expr) : Option Expr → Option Expr → Option Expr → E
  | some lo, some hi, Option.none => .slcs (f v) (f lo) (f hi)
  | some lo, Option.none, Option.none => .slcf (f v) (f lo)
  | Option.none, some hi, Option.none => if isName v then .slct (f v) (f hi) else .bad
  | _, _, _ => .bad
noncomputable def cSl (f : Expr → E) (v : Expr) : Expr → E
  | .Slice lo hi st _ => cSlice f v lo hi st
  | _ => .bad
noncomputable def cSub (f : Expr → E) (v i : Expr) : E := if isSlc i then cSl f v i else .idx (f v) (f i)
noncomputable def cCallN (G : Gt) (bl : List Str) (cs : Scope) (f : Expr → E) (g : Str) : List Expr → E
  | [] => .bad
  | a :: r => if (a :: r).any isStar then .bad else (match fnOfName G cs g with
    | some n => .call n (esOf ((a :: r).map f))
    | Option.none => if isBlt bl cs g "len" && r.isEmpty then .len (f a) else .bad)
noncomputable def cM1 (f : Expr → E) (o : Expr) (name : Str) (a : Expr) : E :=
  if name == ("append" : Str) then .app (f o) (f a) else if name == ("strip" : Str) then .strip (f o) (f a) else if name == ("partition" : Str) then .part (f o) (f a) else .bad
noncomputable def cMeth (f : Expr → E) (o : Expr) (name : Str) : List Expr → E
  | [] => if name == ("pop" : Str) then .pop (f o) else .bad
  | [a] => cM1 f o name a
  | [a, b] => if name == ("get" : Str) then .get (f o) (f a) (f b) else .bad
  | _ => .bad
noncomputable def cCall (G : Gt) (bl : List Str) (cs : Scope) (f : Expr → E) (args : List Expr) (pos : Pos) : Expr → E
  | .Name g _ => cCallN G bl cs f g args
  | .Attribute o name apos => if baseOk o && !args.any isStar && apos.endLine == pos.line then cMeth f o name args else .bad
  | _ => .bad
noncomputable def cIfs (fs : Expr → E) : List Expr → Option E
  | [] => some (.lit (.bool true))
  | [t] => some (fs t)
  | _ => Option.none
noncomputable def cComp1 (cs sc : Scope) (f fs : Expr → E) (el it : Expr) (ifs : List Expr) (x : Str) (p : Pos) : E := match locOf sc (.Name x p) with
  | some i => (match cIfs fs ifs with
    | some t => if compOk sc it then .comp (lcs sc).length [i] false (f it) (fs el) t else .bad
    | Option.none => .bad)
  | Option.none => .bad
noncomputable def cComp2 (cs sc : Scope) (f fs : Expr → E) (el it : Expr) (ts : List Expr) : List Expr → E
  | [] => (match locsOf sc ts with
    | some is => if compOk sc it then .comp (lcs sc).length is true (f it) (fs el) (.lit (.bool true)) else .bad
    | Option.none => .bad)
  | _ => .bad
noncomputable def cGen (cs sc : Scope) (f fs : Expr → E) (el it : Expr) (ifs : List Expr) : Expr → E
  | .Name x p => cComp1 cs sc f fs el it ifs x p
  | .Tuple ts _ _ => cComp2 cs sc f fs el it ts ifs
  | _ => .bad
noncomputable def cComp (cs sc : Scope) (f fs : Expr → E) (el : Expr) : List Comprehension → E
  | [g] => if g.is_async == 0 then cGen cs sc f fs el g.iter g.ifs g.target else .bad
  | _ => .bad
noncomputable def cDisp (f : Expr → E) (k : Es → E) (es : List Expr) : E := if es.any isStar || decide (100 < es.length) then .bad else k (esOf (es.map f))

noncomputable def cE (G : Gt) (bl : List Str) : Nat → Scope → Expr → E
  | 0, _, _ => .bad
  | n + 1, cs, e => match e with
    | .Constant k _ _ => cConst k
    | .Name x _ => nameE G cs x
    | .BinOp l o r _ => cBin o (cE G bl n cs l) (cE G bl n cs r)
    | .Compare l os rs _ => cCmp (cE G bl n cs) (cE G bl n cs l) os rs
    | .BoolOp o es p => cBool (cE G bl n cs) o p es
    | .UnaryOp o a _ => cUn (cE G bl n cs a) o
    | .IfExp c a b _ => .ite (cE G bl n cs c) (cE G bl n cs a) (cE G bl n cs b)
    | .Subscript v i _ => cSub (cE G bl n cs) v i
    | .Call fn args [] pos => cCall G bl cs (cE G bl n cs) args pos fn
    | .ListComp el gens sc _ => cComp cs sc (cE G bl n cs) (cE G bl n sc) el gens
    | .Tuple es _ _ => cDisp (cE G bl n cs) .tup es
    | .List es _ => cDisp (cE G bl n cs) .lst es
    | _ => .bad

noncomputable def ssOf : List S → Ss
  | [] => .nil
  | s :: r => .cons s (ssOf r)

noncomputable def nmOk : Expr → Expr → Bool
  | .Name x p, e => (match e with
    | .Name y q => !(x == y) && q.line == p.line
    | _ => false)
  | _, _ => false
noncomputable def nm2 : List Expr → Bool
  | [a, b] => nmOk a b
  | _ => false
noncomputable def swapOk (ts vs : List Expr) : Bool :=
  ts.length == 2 && vs.length == 2 && !vs.any isStar && !vs.all (foldedForSure 8) && !vs.all (constantsAlone 8) && nm2 ts

noncomputable def isTupD : Expr → Bool
  | .Tuple .. => true
  | _ => false
noncomputable def tupVs : Expr → List Expr
  | .Tuple vs _ _ => vs
  | _ => []

noncomputable def cAsgN (cs : Scope) (f : Expr → E) (v t : Expr) : S := if isCompD v then .bad else (match locOf cs t with
  | some i => .asg i (f v)
  | Option.none => .bad)
noncomputable def cAsgT (cs : Scope) (f : Expr → E) (v : Expr) (ts : List Expr) : S := match locsOf cs ts with
  | some is => if isTupD v then (if swapOk ts (tupVs v) then .asgR is (f v) else if ts.length == 4 then .asgT is (f v) else .bad) else if isCompD v then .bad else .asgT is (f v)
  | Option.none => .bad
noncomputable def cAsg (cs : Scope) (f : Expr → E) (v : Expr) : Expr → S
  | .Name x p => cAsgN cs f v (.Name x p)
  | .Tuple ts _ _ => cAsgT cs f v ts
  | .Subscript a i _ => if isCompD v || isSlc i then .bad else .set (f a) (f i) (f v)
  | _ => .bad
noncomputable def cAsgs (cs : Scope) (f : Expr → E) (v : Expr) : List Expr → S
  | [t] => cAsg cs f v t
  | _ => .bad
noncomputable def cAugN (cs : Scope) (f : Expr → E) (v t : Expr) (o : Op2) : S := match locOf cs t with
  | some i => .augN i o (f v)
  | Option.none => .bad
noncomputable def cAug (cs : Scope) (f : Expr → E) (v : Expr) (o : Op2) : Expr → S
  | .Name x p => cAugN cs f v (.Name x p) o
  | .Subscript a i _ => if isSlc i then .bad else .augS (f a) (f i) o (f v)
  | _ => .bad
noncomputable def cAugO (cs : Scope) (f : Expr → E) (v t : Expr) (o : Operator) : S := match augOf o with
  | some p => cAug cs f v p t
  | Option.none => .bad
noncomputable def cRange (bl : List Str) (cs : Scope) (f : Expr → E) (i : Nat) (b : Ss) : Expr → List Expr → S
  | .Name g _, [a] => if isBlt bl cs g "range" && !isStar a then .forR i (f a) b else .bad
  | _, _ => .bad
noncomputable def cIter (bl : List Str) (cs : Scope) (f : Expr → E) (i : Nat) (b : Ss) : Expr → S
  | .Name y q => .forE i (f (.Name y q)) b
  | .Call g args [] _ => cRange bl cs f i b g args
  | _ => .bad
noncomputable def cForT (bl : List Str) (cs : Scope) (f : Expr → E) (it : Expr) (b : Ss) (t : Expr) : S := match locOf cs t with
  | some i => cIter bl cs f i b it
  | Option.none => .bad
noncomputable def cFor (bl : List Str) (cs : Scope) (f : Expr → E) (it : Expr) (b : Ss) : Expr → S
  | .Name x p => cForT bl cs f it b (.Name x p)
  | _ => .bad

noncomputable def cS (G : Gt) (bl : List Str) (cs : Scope) : Nat → Stmt → S
  | 0, _ => .bad
  | n + 1, s => match s with
    | .Assign ts v _ => cAsgs cs (cE G bl 40 cs) v ts
    | .AugAssign t o v _ => cAugO cs (cE G bl 40 cs) v t o
    | .If c a b _ => .ite (cE G bl 40 cs c) (ssOf (a.map (cS G bl cs n))) (ssOf (b.map (cS G bl cs n)))
    | .While c b [] _ => .whl (cE G bl 40 cs c) (ssOf (b.map (cS G bl cs n)))
    | .For t it b [] _ => cFor bl cs (cE G bl 40 cs) it (ssOf (b.map (cS G bl cs n))) t
    | .Return (some e) _ => .ret (cE G bl 40 cs e)
    | .Expr e _ => if isCompD e then .bad else .ex (cE G bl 40 cs e)
    | .Pass _ => .pass
    | .Break _ => .brk
    | .Continue _ => .cont
    | _ => .bad
section
variable {K : Frag} {P : Params} {hb h₀ h : Heap} {L : Addr} {ns : List Str} {X : Led} {ρ : Loc} {H : Hp} {Ms T : Led}

theorem St.go (st : St K P hb h₀ L ns X ρ H Ms T h) : ∃ m, Fr h₀ L h m ∧ News h₀ L h (Ms ++ (T ++ X)) ∧ ∀ h', Fr h₀ L h' m → News h₀ L h' (Ms ++ (T ++ X)) → St K P hb h₀ L ns X ρ H Ms T h' :=
  let ⟨m, F, hl⟩ := st.fr
  ⟨m, F, st.nw, fun h' F' N' => ⟨⟨m, F', hl⟩, N', st.ce, st.off, st.offT⟩⟩

theorem News.sub {h₀ h : Heap} {L : Addr} {l l' : Led} (N : News h₀ L h l) (hs : ∀ p ∈ l', p ∈ l) : News h₀ L h l' := fun p hp => N p (hs p hp)

theorem fresh_of {h₀ h : Heap} {L : Addr} {l : Led} (N : News h₀ L h l) : ∀ p ∈ l, p.1 ≠ h.objs.size := fun p hp => Nat.ne_of_lt (Heap.lt_size (N p hp).1)

theorem gr_tup {ads : List Addr} (p : Addr × Obj) : Gr ads T ads (p :: T) := ⟨fun _ _ h => h, fun _ h => List.mem_cons_of_mem _ h⟩

theorem St.tup {a : Addr} {o : Obj} {h' : Heap} {m : Str → Option Value} (st : St K P hb h₀ L ns X ρ H Ms T h) (hm : Fr h₀ L h m) (hf : ∀ p ∈ Ms ++ (T ++ X), p.1 ≠ a)
    (hl : ∀ (i : Nat) (v : V), ρ[i]? = some (some v) → ∃ x val, ns[i]? = some x ∧ m x = some val ∧ VR K P hb (Ms.map (·.1)) T v val)
    (F' : Fr h₀ L h' m) (N' : News h₀ L h' ((a, o) :: (Ms ++ (T ++ X)))) : St K P hb h₀ L ns X ρ H Ms ((a, o) :: T) h' where
  fr := ⟨m, F', fun i v e => let ⟨x, val, h1, h2, h3⟩ := hl i v e; ⟨x, val, h1, h2, h3.mono (gr_tup _)⟩⟩
  nw := News.sub N' fun p hp => by
    simp only [List.mem_append, List.mem_cons] at hp ⊢
    rcases hp with h | (h | h) | h
    · exact .inr (.inl h)
    · exact .inl h
    · exact .inr (.inr (.inl h))
    · exact .inr (.inr (.inr h))
  ce := ⟨st.ce.len, fun i l e => let ⟨a, vals, n, h1, h2⟩ := st.ce.at' i l e; ⟨a, vals, n, h1, h2.mono (gr_tup _)⟩, st.ce.nodup⟩
  off := fun p hp q hq => by
    simp only [List.cons_append, List.mem_cons] at hp
    rcases hp with rfl | hp
    · exact fun e => hf q (List.mem_append_left _ hq) e.symm
    · exact st.off p hp q hq
  offT := fun p hp q hq => by
    simp only [List.mem_cons] at hp
    rcases hp with rfl | hp
    · exact fun e => hf q (List.mem_append_right _ (List.mem_append_right _ hq)) e.symm
    · exact st.offT p hp q hq

theorem gr_lst {ms : Led} (p : Addr × Obj) : Gr (ms.map (·.1)) T ((ms ++ [p]).map (·.1)) T := ⟨fun i x h => by
  rw [List.map_append, List.getElem?_append_left]
  · exact h
  · exact (List.getElem?_eq_some_iff.mp h).1, fun _ h => h⟩

theorem St.lst {a : Addr} {vals : List Value} {k : Nat} {vs : List V} {h' : Heap} {m : Str → Option Value} (st : St K P hb h₀ L ns X ρ H Ms T h) (hf : ∀ p ∈ Ms ++ (T ++ X), p.1 ≠ a)
    (hl : ∀ (i : Nat) (v : V), ρ[i]? = some (some v) → ∃ x val, ns[i]? = some x ∧ m x = some val ∧ VR K P hb (Ms.map (·.1)) T v val)
    (F' : Fr h₀ L h' m) (N' : News h₀ L h' ((a, listOf vals.toArray k) :: (Ms ++ (T ++ X)))) (hv : VRs K P hb (Ms.map (·.1)) T vs vals) : St K P hb h₀ L ns X ρ (H ++ [vs]) (Ms ++ [(a, listOf vals.toArray k)]) T h' where
  fr := ⟨m, F', fun i v e => let ⟨x, val, h1, h2, h3⟩ := hl i v e; ⟨x, val, h1, h2, h3.mono (gr_lst _)⟩⟩
  nw := News.sub N' fun p hp => by
    simp only [List.mem_append, List.mem_cons, List.not_mem_nil, or_false] at hp ⊢
    rcases hp with (h | h) | h | h
    · exact .inr (.inl h)
    · exact .inl h
    · exact .inr (.inr (.inl h))
    · exact .inr (.inr (.inr h))
  ce := ⟨by simp [st.ce.len], fun i l e => by
    by_cases hi : i < H.length
    · rw [List.getElem?_append_left hi] at e
      obtain ⟨a, vals, n, h1, h2⟩ := st.ce.at' i l e
      exact ⟨a, vals, n, by rw [List.getElem?_append_left (by rw [st.ce.len]; exact hi)]; exact h1, h2.mono (gr_lst _)⟩
    · have hi' : i = H.length := by
        have := (List.getElem?_eq_some_iff.mp e).1
        rw [List.length_append, List.length_singleton] at this
        omega
      subst hi'
      simp at e
      subst e
      refine ⟨a, vals, k, ?_, hv.mono (gr_lst _)⟩
      rw [← st.ce.len]
      simp,
    by
      rw [List.map_append, List.nodup_append]
      refine ⟨st.ce.nodup, by simp, fun x hx y hy => ?_⟩
      simp only [List.map_cons, List.map_nil, List.mem_singleton] at hy
      subst hy
      obtain ⟨q, hq, rfl⟩ := List.mem_map.mp hx
      exact hf q (List.mem_append_left _ hq)⟩
  off := fun p hp q hq => by
    rcases List.mem_append.mp hq with hq | hq
    · exact st.off p hp q hq
    · rw [List.mem_singleton.mp hq]
      exact hf p (List.mem_append_right _ hp)
  offT := st.offT

theorem upd_at {D : Addr} {o o' : Obj} {R : Led} : ∀ {Ms : Led} {i : Nat}, Ms[i]? = some (D, o) → (Ms.map (·.1)).Nodup → (∀ p ∈ R, ∀ q ∈ Ms, p.1 ≠ q.1) → Upd D o o' (Ms ++ R) (Ms.set i (D, o') ++ R)
  | [], _, e, _, _ => by simp at e
  | p :: Ms, 0, e, hn, hr => by
    simp at e
    subst e
    simp only [List.map_cons, List.nodup_cons] at hn
    exact .head fun q hq => by
      rcases List.mem_append.mp hq with hq | hq
      · exact fun e => hn.1 (e ▸ List.mem_map_of_mem hq)
      · exact hr q hq _ (.head _)
  | p :: Ms, i + 1, e, hn, hr => by
    simp only [List.map_cons, List.nodup_cons] at hn
    have e' : Ms[i]? = some (D, o) := by simpa using e
    refine .tail ?_ (upd_at e' hn.2 fun q hq r hr' => hr q hq r (.tail _ hr'))
    intro h
    exact hn.1 (h ▸ List.mem_map_of_mem (f := (·.1)) (List.mem_of_getElem? e'))

theorem map_set {Ms : Led} {i : Nat} {D : Addr} {o o' : Obj} (e : Ms[i]? = some (D, o)) : (Ms.set i (D, o')).map (·.1) = Ms.map (·.1) := by
  apply List.ext_getElem?
  intro j
  simp only [List.getElem?_map, List.getElem?_set]
  by_cases hj : i = j
  · subst hj
    rw [if_pos rfl, e]
    have := (List.getElem?_eq_some_iff.mp e).1
    rw [if_pos this]
    rfl
  · rw [if_neg hj]

theorem St.upd {i : Nat} {D : Addr} {o : Obj} {vals : List Value} {k : Nat} {vs : List V} {h' : Heap} {m : Str → Option Value} (st : St K P hb h₀ L ns X ρ H Ms T h) (e : Ms[i]? = some (D, o))
    (hl : ∀ (i : Nat) (v : V), ρ[i]? = some (some v) → ∃ x val, ns[i]? = some x ∧ m x = some val ∧ VR K P hb (Ms.map (·.1)) T v val)
    (F' : Fr h₀ L h' m) (N' : News h₀ L h' (Ms.set i (D, listOf vals.toArray k) ++ (T ++ X))) (hv : VRs K P hb (Ms.map (·.1)) T vs vals) : St K P hb h₀ L ns X ρ (H.set i vs) (Ms.set i (D, listOf vals.toArray k)) T h' where
  fr := ⟨m, F', fun i v e' => let ⟨x, val, h1, h2, h3⟩ := hl i v e'; ⟨x, val, h1, h2, by rw [map_set e]; exact h3⟩⟩
  nw := N'
  ce := ⟨by simp [st.ce.len], fun j l e' => by
    rw [map_set e]
    rw [List.getElem?_set] at e'
    by_cases hj : i = j
    · subst hj
      rw [if_pos rfl] at e'
      split at e'
      · cases e'
        have := (List.getElem?_eq_some_iff.mp e).1
        exact ⟨D, vals, k, by rw [List.getElem?_set, if_pos rfl, if_pos this], hv⟩
      · cases e'
    · rw [if_neg hj] at e'
      obtain ⟨a, vals', n, h1, h2⟩ := st.ce.at' j l e'
      exact ⟨a, vals', n, by rw [List.getElem?_set, if_neg hj]; exact h1, h2⟩,
    by rw [map_set e]; exact st.ce.nodup⟩
  off := fun p hp q hq => by
    have hk : q.1 ∈ (Ms.set i (D, listOf vals.toArray k)).map (·.1) := List.mem_map_of_mem hq
    rw [map_set e] at hk
    obtain ⟨q', hq', e'⟩ := List.mem_map.mp hk
    rw [← e']
    exact st.off p hp q' hq'
  offT := st.offT

theorem nodup_get {α : Type} {l : List α} (hn : l.Nodup) {i j : Nat} {x : α} (hi : l[i]? = some x) (hj : l[j]? = some x) : i = j := by
  obtain ⟨h1, e1⟩ := List.getElem?_eq_some_iff.mp hi
  obtain ⟨h2, e2⟩ := List.getElem?_eq_some_iff.mp hj
  exact (List.getElem_inj hn).mp (e1.trans e2.symm)

theorem St.sto {i : Nat} {x : Str} {v : V} {val : Value} {h' : Heap} {m : Str → Option Value} (st : St K P hb h₀ L ns X ρ H Ms T h) (hn : ns.Nodup) (hi : ns[i]? = some x)
    (hl : ∀ (i : Nat) (v : V), ρ[i]? = some (some v) → ∃ x val, ns[i]? = some x ∧ m x = some val ∧ VR K P hb (Ms.map (·.1)) T v val)
    (F' : Fr h₀ L h' (fun y => if y = x then some val else m y)) (N' : News h₀ L h' (Ms ++ (T ++ X))) (hv : VR K P hb (Ms.map (·.1)) T v val) : St K P hb h₀ L ns X (ρ.set i (some v)) H Ms T h' where
  fr := ⟨_, F', fun j u e => by
    rw [List.getElem?_set] at e
    by_cases hj : i = j
    · subst hj
      rw [if_pos rfl] at e
      split at e
      · cases e
        exact ⟨x, val, hi, by simp, hv⟩
      · cases e
    · rw [if_neg hj] at e
      obtain ⟨y, val', h1, h2, h3⟩ := hl j u e
      refine ⟨y, val', h1, ?_, h3⟩
      have : y ≠ x := fun q => hj (nodup_get hn hi (q ▸ h1))
      simp [this, h2]⟩
  nw := N'
  ce := st.ce
  off := st.off
  offT := st.offT
end
open Builtin.Str

theorem clipN (a n : Nat) : max (0 : Int) (min (a : Int) (n : Int)) = ((min a n : Nat) : Int) := by
  rcases Nat.le_total a n with h | h
  · rw [Nat.min_eq_left h, Int.min_eq_left (Int.ofNat_le.mpr h), Int.max_eq_right (Int.natCast_nonneg a)]
  · rw [Nat.min_eq_right h, Int.min_eq_right (Int.ofNat_le.mpr h), Int.max_eq_right (Int.natCast_nonneg n)]
theorem ltN (k n : Nat) : (if (k : Int) < 0 then (k : Int) + (n : Int) else (k : Int)) = (k : Int) := if_neg (Int.not_lt.mpr (Int.natCast_nonneg k))
theorem idxN (a b n : Nat) : strSliceIndices (some (a : Int)) (some (b : Int)) 1 n = sliceRange ((min a n : Nat) : Int) ((min b n : Nat) : Int) 1 := by
  show sliceRange (max 0 (min (if (a : Int) < 0 then (a : Int) + (n : Int) else (a : Int)) (n : Int))) (max 0 (min (if (b : Int) < 0 then (b : Int) + (n : Int) else (b : Int)) (n : Int))) 1 = _
  rw [ltN, ltN, clipN, clipN]
theorem idxF (a n : Nat) : strSliceIndices (some (a : Int)) none 1 n = sliceRange ((min a n : Nat) : Int) ((min n n : Nat) : Int) 1 := by
  show sliceRange (max 0 (min (if (a : Int) < 0 then (a : Int) + (n : Int) else (a : Int)) (n : Int))) (n : Int) 1 = _
  rw [ltN, clipN, Nat.min_self]
theorem idxT (b n : Nat) : strSliceIndices none (some (b : Int)) 1 n = sliceRange ((min 0 n : Nat) : Int) ((min b n : Nat) : Int) 1 := by
  show sliceRange 0 (max 0 (min (if (b : Int) < 0 then (b : Int) + (n : Int) else (b : Int)) (n : Int))) 1 = _
  rw [ltN, clipN, Nat.zero_min]
  rfl
theorem range_no (A B : Nat) (h : B < A) : sliceRange (A : Int) (B : Int) 1 = [] := by
  unfold sliceRange
  rw [if_pos (show (1 : Int) > 0 from by decide)]
  simp only [List.map_eq_nil_iff, List.range_eq_nil]
  first | omega | (split <;> omega)
theorem drop_min {α : Type} (s t : List α) (h : t.length ≤ s.length) (a : Nat) : t.drop (min a s.length) = t.drop a := by
  rcases Nat.le_total a s.length with h1 | h1
  · rw [Nat.min_eq_left h1]
  · rw [Nat.min_eq_right h1, List.drop_eq_nil_of_le h, List.drop_eq_nil_of_le (Nat.le_trans h h1)]
theorem toS_len (a : List Nat) : (toS a).length = a.length := by simp [toS, Str.length]
theorem slice_ix (s : List Nat) (l u : Option Int) (a b : Nat) (he : strSliceIndices l u 1 s.length = sliceRange ((min a s.length : Nat) : Int) ((min b s.length : Nat) : Int) 1) : Txt.slice (toS s) l u = toS ((s.take b).drop a) := by
  have key : (s.take b).drop a = (s.take (min b s.length)).drop (min a s.length) := by
    rw [kmk_take_min, drop_min s _ (by rw [List.length_take]; exact Nat.min_le_right _ _)]
  rw [key]
  have hA := Nat.min_le_right a s.length
  have hB := Nat.min_le_right b s.length
  generalize min a s.length = A at *
  generalize min b s.length = B at *
  clear key
  rcases Nat.lt_or_ge B A with h | h
  · rw [range_no A B h] at he
    have e2 : (s.take B).drop A = [] := List.drop_eq_nil_of_le (by rw [List.length_take]; exact Nat.le_trans (Nat.min_le_left _ _) (Nat.le_of_lt h))
    rw [e2]
    unfold Txt.slice
    rw [toS_len, he]
    cases s with
    | nil => rfl
    | cons c r => rfl
  · have hi : strSliceIndices l u 1 (toS s).length = strSliceIndices (some (A : Int)) (some (B : Int)) 1 (toS s).length := by
      rw [toS_len, he, idxN, Nat.min_eq_left hA, Nat.min_eq_left hB]
    have hl : (strSliceIndices (some (A : Int)) (some (B : Int)) 1 (toS s).length).length = B - A := by
      rw [StrLaws.strSliceIndices_plain h (by rw [toS_len]; exact hB), List.length_map, List.length_range]
    have hd : (s.take B).drop A = ((toS s).cps.toList.drop A).take (B - A) := List.drop_take
    unfold Txt.slice
    rw [hi]
    split
    · rename_i hc
      rw [hl, toS_len] at hc
      have hc := beq_iff_eq.mp (Bool.and_eq_true_iff.mp hc).2
      have h1 : A = 0 := by omega
      have h2 : B = s.length := by omega
      rw [h1, h2, List.take_length, List.drop_zero]
    · rw [hd]
      exact congrArg toS (StrLaws.sliced_plain (toS s) h (by rw [toS_len]; exact hB))
theorem slice_ss (s : List Nat) (i j : Int) (h0 : 0 ≤ i) (h1 : 0 ≤ j) : Txt.slice (toS s) (some i) (some j) = toS (sl s i j) := by
  obtain ⟨a, rfl⟩ := Int.eq_ofNat_of_zero_le h0
  obtain ⟨b, rfl⟩ := Int.eq_ofNat_of_zero_le h1
  exact slice_ix s _ _ a b (idxN a b s.length)
theorem slice_sn (s : List Nat) (i : Int) (h0 : 0 ≤ i) : Txt.slice (toS s) (some i) none = toS (s.drop i.toNat) := by
  obtain ⟨a, rfl⟩ := Int.eq_ofNat_of_zero_le h0
  rw [slice_ix s _ _ a s.length (idxF a s.length), List.take_length]
  rfl
theorem slice_ns (s : List Nat) (j : Int) (h0 : 0 ≤ j) : Txt.slice (toS s) none (some j) = toS (s.take j.toNat) := by
  obtain ⟨b, rfl⟩ := Int.eq_ofNat_of_zero_le h0
  exact slice_ix s _ _ 0 b (idxT b s.length)

section
variable {K : Frag} {P : Params} {hb h₀ h : Heap} {L : Addr} {ns : List Str} {X : Led} {ρ : Loc} {H : Hp} {Ms T : Led}

theorem St.base (st : St K P hb h₀ L ns X ρ H Ms T h) (kb : ∀ b o, hb.get? b = some o → h₀.get? b = some o) : ∀ b o, hb.get? b = some o → h.get? b = some o :=
  let ⟨_, F, _⟩ := st.fr
  fun b o e => F.keep b o (kb b o e)
theorem St.std (st : St K P hb h₀ L ns X ρ H Ms T h) (kb : ∀ b o, hb.get? b = some o → h₀.get? b = some o) {a : Addr} {o : Obj} (x : Std hb T a o) : h.get? a = some o :=
  x.elim (fun hm => (st.nw _ (List.mem_append_right _ (List.mem_append_left _ hm))).1) (st.base kb a o)
theorem St.cell (st : St K P hb h₀ L ns X ρ H Ms T h) {i : Nat} {a : Addr} {l : List V} (ha : (Ms.map (·.1))[i]? = some a) (hl : H[i]? = some l) :
    ∃ vals n, Ms[i]? = some (a, listOf vals.toArray n) ∧ VRs K P hb (Ms.map (·.1)) T l vals ∧ h.get? a = some (listOf vals.toArray n) := by
  obtain ⟨a', vals, n, h1, h2⟩ := st.ce.at' i l hl
  rw [List.getElem?_map, h1] at ha
  cases ha
  exact ⟨vals, n, h1, h2, (st.nw _ (List.mem_append_left _ (List.mem_of_getElem? h1))).1⟩

theorem St.list (st : St K P hb h₀ L ns X ρ H Ms T h) (kb : ∀ b o, hb.get? b = some o → h₀.get? b = some o) {v : V} {x : Value} {l : List V} (hv : VR K P hb (Ms.map (·.1)) T v x) (hl : lv H v = some l) :
    ∃ a vals, x = .ref a ∧ h.IsList a vals.toArray ∧ VRs K P hb (Ms.map (·.1)) T l vals := by
  cases v with
  | ref i =>
    obtain ⟨a, rfl, e⟩ := hv.i_ref
    obtain ⟨vals, n, h1, h2, h3⟩ := st.cell e hl
    exact ⟨_, vals, rfl, ⟨_, h3, rfl, n, rfl⟩, h2⟩
  | fl vs =>
    obtain ⟨a, vals, o, n, rfl, h1, h2, h3, r⟩ := hv.i_fl
    obtain rfl := so1 hl
    exact ⟨_, _, rfl, ⟨_, st.base kb _ _ h1, h2, _, h3⟩, r⟩
  | _ => exact nos hl

theorem rd_ok (st : St K P hb h₀ L ns X ρ H Ms T h) (kb : ∀ b o, hb.get? b = some o → h₀.get? b = some o) : ∀ (n : Nat),
    (∀ (v : V) (x : Value) (d : PyData), rd n H v = some d → VR K P hb (Ms.map (·.1)) T v x → ∃ as, Reads h x d as) ∧
    (∀ (vs : List V) (xs : List Value) (ds : List PyData), rds n H vs = some ds → VRs K P hb (Ms.map (·.1)) T vs xs → ∃ as, ReadsAll h xs ds as) := by
  have oms : ∀ {α β : Type} {x : Option α} {f : α → β} {r : β}, x.map f = some r → ∃ a, x = some a ∧ f a = r := fun h => Option.map_eq_some_iff.mp h
  intro n
  induction n with
  | zero =>
    refine ⟨fun v x d e _ => nos e, fun vs xs ds e r => ?_⟩
    cases vs with
    | nil => rw [r.i_nil]; obtain rfl := so1 e; exact ⟨_, .nil⟩
    | cons _ _ => exact nos e
  | succ n ih =>
    refine ⟨fun v x d e r => ?_, fun vs xs ds e r => ?_⟩
    · cases v with
      | none => rw [r.i_none]; obtain rfl := so1 e; exact ⟨_, .none⟩
      | bool b => exact nos e
      | int i => obtain ⟨t, rfl⟩ := r.i_int; obtain rfl := so1 e; exact ⟨_, .int i t⟩
      | str l => obtain ⟨t, rfl⟩ := r.i_str; obtain rfl := so1 e; exact ⟨_, .str _ t⟩
      | ref i =>
        obtain ⟨a, rfl, ha⟩ := r.i_ref
        obtain ⟨l, hl, e⟩ := bnd1 (x := H[i]?) e
        obtain ⟨ds, hd, rfl⟩ := oms e
        obtain ⟨vals, k, h1, h2, h3⟩ := st.cell ha hl
        obtain ⟨as, q⟩ := ih.2 _ _ _ hd h2
        exact ⟨_, reads_list_at h3 rfl rfl q⟩
      | tup vs =>
        obtain ⟨a, vals, k, rfl, hs, r⟩ := r.i_tup
        obtain ⟨ds, hd, rfl⟩ := oms (x := rds n H vs) e
        obtain ⟨as, q⟩ := ih.2 _ _ _ hd r
        exact ⟨_, reads_tuple_at (st.std kb hs) rfl rfl q⟩
      | fl vs =>
        obtain ⟨a, vals, o, k, rfl, h1, h2, h3, r⟩ := r.i_fl
        obtain ⟨ds, hd, rfl⟩ := oms (x := rds n H vs) e
        obtain ⟨as, q⟩ := ih.2 _ _ _ hd r
        exact ⟨_, reads_list_at (st.base kb _ _ h1) h2 h3 q⟩
      | dct _ => exact nos e
    · cases vs with
      | nil => rw [r.i_nil]; obtain rfl := so1 e; exact ⟨_, .nil⟩
      | cons v vs =>
        obtain ⟨x, ys, rfl, hv, r⟩ := r.i_cons
        obtain ⟨d, hd, e⟩ := bnd1 (x := rd n H v) e
        obtain ⟨ds, hds, rfl⟩ := oms e
        obtain ⟨as, q⟩ := ih.1 _ _ _ hd hv
        obtain ⟨bs, q'⟩ := ih.2 _ _ _ hds r
        exact ⟨_, .cons q q'⟩
end

theorem toS_beq (a b : List Nat) : (toS a == toS b) = (a == b) := by
  rw [Bool.eq_iff_iff]
  simp [toS]
theorem toS_bne (a b : List Nat) : (toS a != toS b) = (a != b) := by simp only [bne, toS_beq]
theorem toS_app (a b : List Nat) : toS a ++ toS b = toS (a ++ b) := by
  show Str.append (toS a) (toS b) = _
  simp [Str.append, toS]
open Builtin.Str

theorem found_nil (x : Str) : (!(occurrences x (toS []) 0 x.length 1).isEmpty) = true := by
  rw [StrLaws.found_iff]
  refine ⟨0, by simp [toS, Str.length], ?_⟩
  simp [subAt, toS, Str.length]

theorem txts_are {K : Frag} {P : Params} {hb : Heap} {ads : List Addr} {T : Led} {vs : List V} : ∀ {xs : List Value} {l : List (List Nat)}, txts vs = some l → VRs K P hb ads T vs xs → StrsAre xs (l.map toS) := by
  induction vs with
  | nil => intro xs l e h; rw [h.i_nil]; obtain rfl := so1 e; exact .nil
  | cons v vs ih =>
    intro xs l e h
    obtain ⟨x, ys, rfl, h, r⟩ := h.i_cons
    cases v with
    | str s =>
      obtain ⟨t, rfl⟩ := h.i_str
      obtain ⟨l', h', rfl⟩ := omm (x := txts vs) e
      exact .cons _ _ (ih h' r)
    | _ => exact nos e

section
variable {prog : Program} {w : World} {A : Around} {E : Value → Shared → Prop} {s : Shared} {K : Frag} {hb h₀ : Heap} {L : Addr} {ns : List Str} {X : Led} {ρ : Loc} {H : Hp} {Ms T : Led}

theorem any_toS (l : List (List Nat)) (s : List Nat) : ((l.map toS).any fun x => x == toS s) = l.contains s := by
  rw [Bool.eq_iff_iff]
  simp [List.any_map, Function.comp_def, toS_beq]

theorem isIn_tup (s : List Nat) (vs : List V) : isIn (.str s) (.tup vs) = (txts vs).map fun l => l.contains s := match s with
  | [] => rfl
  | [_] => rfl
  | _ :: _ :: _ => rfl
theorem isIn_dct (s : List Nat) (es : List (List Nat × List Nat)) : isIn (.str s) (.dct es) = some ((es.map (·.1)).contains s) := match s with
  | [] => rfl
  | [_] => rfl
  | _ :: _ :: _ => rfl
theorem in_dec (y : List Nat) (c : Nat) : decide (c ∈ (toS y).cps.toList) = y.contains c := by
  rw [Bool.eq_iff_iff, decide_eq_true_iff, List.contains_iff_mem]
  exact Iff.rfl
theorem look_has (x : List Nat) : ∀ es : List (List Nat × List Nat), (es.map (·.1)).contains x = (es.lookup x).isSome
  | [] => rfl
  | (k, u) :: es => by
    rw [List.map_cons, List.contains_cons, List.lookup_cons]
    cases hx : x == k with
    | true => rfl
    | false => exact look_has x es
theorem dct_has {es : List (List Nat × List Nat)} {x : List Nat} {r : Option Value} (hm : match getD2 es x with | some u => ∃ t, r = some (.str (toS u) t) | Option.none => r = Option.none) : r.isSome = (es.map (·.1)).contains x := by
  rw [look_has]
  unfold getD2 at hm
  cases hu : es.lookup x with
  | some u => rw [hu] at hm; obtain ⟨t, rfl⟩ := hm; rfl
  | none => rw [hu] at hm; obtain rfl : r = Option.none := hm; rfl
theorem in_ok (X₀ : K.In h₀) (st : St K w.params hb h₀ L ns X ρ H Ms T s.heap) (kb : ∀ b o, hb.get? b = some o → h₀.get? b = some o) {a b : V} {x y : Value} {t : Bool} {Q : Value → Shared → Prop}
    (e : isIn a b = some t) (va : VR K w.params hb (Ms.map (·.1)) T a x) (vb : VR K w.params hb (Ms.map (·.1)) T b y) (hq : ∀ tk, Q (.bool t) { s with toks := tk }) :
    wpAny (model prog w) A (compareOp .In x y) Q E s := by
  obtain ⟨m, F, N, back⟩ := st.go
  cases b with
  | str y =>
    obtain ⟨u, rfl⟩ := vb.i_str
    cases a with
    | str x =>
      obtain ⟨v, rfl⟩ := va.i_str
      refine in_str ?_
      match x, e with
      | [], e =>
        obtain rfl := so1 e
        rw [found_nil]
        exact hq s.toks
      | [c], e =>
        obtain rfl := so1 e
        rw [show (toS [c]) = ⟨#[c]⟩ from rfl, StrLaws.found_one, in_dec]
        exact hq s.toks
      | _ :: _ :: _, e => exact nos e
    | _ => exact nos e
  | tup vs =>
    obtain ⟨a1, vals, k, rfl, hs, r⟩ := vb.i_tup
    cases a with
    | str x =>
      obtain ⟨v, rfl⟩ := va.i_str
      obtain ⟨l, hl, rfl⟩ := omm ((isIn_tup x vs).symm.trans e)
      refine in_tuple_strs (items := _) ⟨_, st.std kb hs, rfl, _, rfl⟩ (txts_are hl r) ?_
      rw [any_toS]
      exact hq s.toks
    | _ => exact nos e
  | dct es =>
    obtain ⟨a1, rfl, D⟩ := vb.i_dct
    cases a with
    | str x =>
      obtain ⟨v, rfl⟩ := va.i_str
      obtain rfl := so1 ((isIn_dct x es).symm.trans e)
      obtain ⟨en, n, hl, hk⟩ := D.ex
      obtain ⟨r, hr, hm⟩ := D.is x
      refine topIn_K F X₀ hl hk hr D.ne ?_
      rw [dct_has hm]
      exact hq _
    | _ => exact nos e
  | _ =>
    cases a with
    | str x => match x, e with
      | [], e => exact nos e
      | [_], e => exact nos e
      | _ :: _ :: _, e => exact nos e
    | _ => exact nos e

theorem same_ok (hu : A.units + 64 < cLine) (st : St K w.params hb h₀ L ns X ρ H Ms T s.heap) (kb : ∀ b o, hb.get? b = some o → h₀.get? b = some o) {a b : V} {x y : Value} {t : Bool}
    (e : same H a b = some t) (va : VR K w.params hb (Ms.map (·.1)) T a x) (vb : VR K w.params hb (Ms.map (·.1)) T b y) :
    (∀ {Q : Value → Shared → Prop}, Q (.bool t) s → wpAny (model prog w) A (compareOp .Eq x y) Q E s) ∧ (∀ {Q : Value → Shared → Prop}, Q (.bool !t) s → wpAny (model prog w) A (compareOp .NotEq x y) Q E s) := by
  obtain ⟨da, ha, e⟩ := bnd1 e
  obtain ⟨db, hb', e⟩ := bnd1 e
  obtain ⟨hs, e⟩ := ifs e
  obtain rfl := so1 e
  obtain ⟨as, ra⟩ := (rd_ok st kb 64).1 _ _ _ ha va
  obtain ⟨bs, rb⟩ := (rd_ok st kb 64).1 _ _ _ hb' vb
  exact ⟨fun h => eq_dataH ra rb hs.1 hs.2 hu h, fun h => ne_dataH ra rb hs.1 hs.2 hu h⟩

theorem c_lt {a b : V} {t : Bool} (e : cmp2 .lt a b H = some t) : ∃ x y, a = .int x ∧ b = .int y ∧ t = decide (x < y) := by
  cases a with
  | int x => cases b with
    | int y => exact ⟨x, y, rfl, rfl, (so1 e).symm⟩
    | _ => exact nos e
  | _ => exact nos e
theorem c_gt {a b : V} {t : Bool} (e : cmp2 .gt a b H = some t) : ∃ x y, a = .int x ∧ b = .int y ∧ t = decide (y < x) := by
  cases a with
  | int x => cases b with
    | int y => exact ⟨x, y, rfl, rfl, (so1 e).symm⟩
    | _ => exact nos e
  | _ => exact nos e
theorem c_ge {a b : V} {t : Bool} (e : cmp2 .ge a b H = some t) : ∃ x y, a = .int x ∧ b = .int y ∧ t = decide (y ≤ x) := by
  cases a with
  | int x => cases b with
    | int y => exact ⟨x, y, rfl, rfl, (so1 e).symm⟩
    | _ => exact nos e
  | _ => exact nos e
theorem c_le {a b : V} {t : Bool} (e : cmp2 .le a b H = some t) : (∃ x y, a = .int x ∧ b = .int y ∧ t = decide (x ≤ y)) ∨ ∃ x y, a = .str x ∧ b = .str y ∧ t = !decide (y < x) := by
  cases a with
  | int x => cases b with
    | int y => exact .inl ⟨x, y, rfl, rfl, (so1 e).symm⟩
    | _ => exact nos e
  | str x => cases b with
    | str y => exact .inr ⟨x, y, rfl, rfl, (so1 e).symm⟩
    | _ => exact nos e
  | _ => exact nos e
theorem cmp2_eq {a b : V} {t : Bool} (e : cmp2 .eq a b H = some t) : (∃ x y, a = .int x ∧ b = .int y ∧ t = (x == y)) ∨ (∃ x y, a = .str x ∧ b = .str y ∧ t = (x == y)) ∨ same H a b = some t := by
  cases a with
  | int x => cases b with
    | int y => exact .inl ⟨x, y, rfl, rfl, (so1 e).symm⟩
    | _ => exact .inr (.inr e)
  | str x => cases b with
    | str y => exact .inr (.inl ⟨x, y, rfl, rfl, (so1 e).symm⟩)
    | _ => exact .inr (.inr e)
  | _ => exact .inr (.inr e)
theorem cmp2_ne {a b : V} {t : Bool} (e : cmp2 .ne a b H = some t) : (∃ x y, a = .int x ∧ b = .int y ∧ t = (x != y)) ∨ (∃ x y, a = .str x ∧ b = .str y ∧ t = (x != y)) ∨ ∃ u, same H a b = some u ∧ (!u) = t := by
  cases a with
  | int x => cases b with
    | int y => exact .inl ⟨x, y, rfl, rfl, (so1 e).symm⟩
    | _ => exact .inr (.inr (Option.map_eq_some_iff.mp e))
  | str x => cases b with
    | str y => exact .inr (.inl ⟨x, y, rfl, rfl, (so1 e).symm⟩)
    | _ => exact .inr (.inr (Option.map_eq_some_iff.mp e))
  | _ => exact .inr (.inr (Option.map_eq_some_iff.mp e))
theorem c_is {a b : V} {t : Bool} (e : cmp2 .isnone a b H = some t) : b = .none ∧ ((a = .none ∧ t = true) ∨ (t = false ∧ ((∃ i, a = .ref i) ∨ (∃ vs, a = .tup vs) ∨ ∃ vs, a = .fl vs))) := by
  cases a with
  | none => cases b with
    | none => exact ⟨rfl, .inl ⟨rfl, (so1 e).symm⟩⟩
    | _ => exact nos e
  | ref i => cases b with
    | none => exact ⟨rfl, .inr ⟨(so1 e).symm, .inl ⟨i, rfl⟩⟩⟩
    | _ => exact nos e
  | tup i => cases b with
    | none => exact ⟨rfl, .inr ⟨(so1 e).symm, .inr (.inl ⟨i, rfl⟩)⟩⟩
    | _ => exact nos e
  | fl i => cases b with
    | none => exact ⟨rfl, .inr ⟨(so1 e).symm, .inr (.inr ⟨i, rfl⟩)⟩⟩
    | _ => exact nos e
  | _ => exact nos e

theorem c_in {x y : V} : cmp2 .isin x y H = isIn x y := by cases x <;> rfl
theorem cmp_ok (hu : A.units + 64 < cLine) (X₀ : K.In h₀) (st : St K w.params hb h₀ L ns X ρ H Ms T s.heap) (kb : ∀ b o, hb.get? b = some o → h₀.get? b = some o) {op : CmpOp} {p : Cp} {a b : V} {x y : Value} {t : Bool} {Q : Value → Shared → Prop}
    (hp : cpOf op = some p) (e : cmp2 p a b H = some t) (va : VR K w.params hb (Ms.map (·.1)) T a x) (vb : VR K w.params hb (Ms.map (·.1)) T b y) (hq : ∀ tk, Q (.bool t) { s with toks := tk }) :
    wpAny (model prog w) A (compareOp op x y) Q E s := by
  have hq0 : Q (.bool t) s := hq s.toks
  cases op with
  | Lt =>
    obtain rfl := so1 hp
    obtain ⟨_, _, rfl, rfl, rfl⟩ := c_lt e
    obtain ⟨_, rfl⟩ := va.i_int
    obtain ⟨_, rfl⟩ := vb.i_int
    exact PyProof.Rows.lt_int hq0
  | LtE =>
    obtain rfl := so1 hp
    rcases c_le e with ⟨_, _, rfl, rfl, rfl⟩ | ⟨_, _, rfl, rfl, rfl⟩
    · obtain ⟨_, rfl⟩ := va.i_int
      obtain ⟨_, rfl⟩ := vb.i_int
      exact PyProof.Rows.le_int hq0
    · obtain ⟨_, rfl⟩ := va.i_str
      obtain ⟨_, rfl⟩ := vb.i_str
      exact PySem.P.le_str (Eq.mp (congrArg (fun b => Q (Value.bool (!b)) s) (decide_eq_decide.mpr Iff.rfl)) hq0)
  | Gt =>
    obtain rfl := so1 hp
    obtain ⟨_, _, rfl, rfl, rfl⟩ := c_gt e
    obtain ⟨_, rfl⟩ := va.i_int
    obtain ⟨_, rfl⟩ := vb.i_int
    exact PyProof.Rows.gt_int hq0
  | GtE =>
    obtain rfl := so1 hp
    obtain ⟨_, _, rfl, rfl, rfl⟩ := c_ge e
    obtain ⟨_, rfl⟩ := va.i_int
    obtain ⟨_, rfl⟩ := vb.i_int
    exact PyProof.Rows.ge_int hq0
  | Eq =>
    obtain rfl := so1 hp
    rcases cmp2_eq e with ⟨_, _, rfl, rfl, rfl⟩ | ⟨_, _, rfl, rfl, rfl⟩ | e
    · obtain ⟨_, rfl⟩ := va.i_int
      obtain ⟨_, rfl⟩ := vb.i_int
      exact PyProof.Rows.eq_int hq0
    · obtain ⟨_, rfl⟩ := va.i_str
      obtain ⟨_, rfl⟩ := vb.i_str
      refine PyProof.Rows.eq_str ?_; rw [toS_beq]; exact hq0
    · exact (same_ok hu st kb e va vb).1 hq0
  | NotEq =>
    obtain rfl := so1 hp
    rcases cmp2_ne e with ⟨_, _, rfl, rfl, rfl⟩ | ⟨_, _, rfl, rfl, rfl⟩ | ⟨u, e', rfl⟩
    · obtain ⟨_, rfl⟩ := va.i_int
      obtain ⟨_, rfl⟩ := vb.i_int
      exact PyProof.Rows.ne_int hq0
    · obtain ⟨_, rfl⟩ := va.i_str
      obtain ⟨_, rfl⟩ := vb.i_str
      refine PyProof.Rows.ne_str ?_; rw [toS_bne]; exact hq0
    · exact (same_ok hu st kb e' va vb).2 hq0
  | In =>
    obtain rfl := so1 hp
    exact in_ok X₀ st kb (c_in.symm.trans e) va vb hq
  | Is =>
    obtain rfl := so1 hp
    obtain ⟨rfl, h⟩ := c_is e
    rw [vb.i_none]
    rcases h with ⟨rfl, rfl⟩ | ⟨rfl, ⟨_, rfl⟩ | ⟨_, rfl⟩ | ⟨_, rfl⟩⟩
    · rw [va.i_none]; exact is_none_none hq0
    · obtain ⟨_, rfl, _⟩ := va.i_ref
      exact is_ref_none hq0
    · obtain ⟨_, _, _, rfl, _⟩ := va.i_tup
      exact is_ref_none hq0
    · obtain ⟨_, _, _, _, rfl, _⟩ := va.i_fl
      exact is_ref_none hq0
  | NotIn => exact nos hp
  | IsNot => exact nos hp

theorem bits_lim {x : Int} (h : x.natAbs ≤ lim) : Builtin.Int.intBits x ≤ 64 := intBits_le_64 (by rw [lim_eq] at h; omega) (by rw [lim_eq] at h; omega)

theorem lim_16 {k : Nat} (h : k ≤ lim) : k ≤ 16777216 := Nat.le_trans h (by rw [lim_eq]; decide)
theorem ad_new {H : Hp} {Ms : Led} (h : Ms.length = H.length) (p : Addr × Obj) : ((Ms ++ [p]).map (·.1))[H.length]? = some p.1 := by
  rw [List.map_append, List.getElem?_append_right (by rw [List.length_map, h]; exact Nat.le_refl _), List.length_map, h, Nat.sub_self]
  rfl
theorem b_add {a b v : V} {H H' : Hp} (e : bin2 .add a b H = some (v, H')) : (∃ x y, a = .int x ∧ b = .int y ∧ v = .int (x + y) ∧ H' = H) ∨ (∃ x y, a = .str x ∧ b = .str y ∧ x.length + y.length ≤ lim ∧ v = .str (x ++ y) ∧ H' = H) ∨
    ∃ x, lv H a = some x ∧ ∃ y, lv H b = some y ∧ x.length + y.length ≤ lim ∧ v = .ref H.length ∧ H' = H ++ [x ++ y] := by
  have gen : ((lv H a).bind fun x => (lv H b).bind fun y => if x.length + y.length ≤ lil then some (V.ref H.length, H ++ [x ++ y]) else Option.none) = some (v, H') → ∃ x, lv H a = some x ∧ ∃ y, lv H b = some y ∧ x.length + y.length ≤ lim ∧ v = .ref H.length ∧ H' = H ++ [x ++ y] := fun e => by
    obtain ⟨x, h1, e⟩ := bnd1 e
    obtain ⟨y, h2, e⟩ := bnd1 e
    obtain ⟨hl, e⟩ := ifs e
    obtain ⟨rfl, rfl⟩ := so2 e
    exact ⟨x, h1, y, h2, lim_le hl, rfl, rfl⟩
  cases a with
  | int x => cases b with
    | int y => obtain ⟨rfl, rfl⟩ := so2 e; exact .inl ⟨x, y, rfl, rfl, rfl, rfl⟩
    | _ => exact nos e
  | str x => cases b with
    | str y => obtain ⟨hl, e⟩ := ifs e; obtain ⟨rfl, rfl⟩ := so2 e; exact .inr (.inl ⟨x, y, rfl, rfl, hl, rfl, rfl⟩)
    | _ => exact nos e
  | ref i => exact .inr (.inr (gen e))
  | fl i => exact .inr (.inr (gen e))
  | _ => exact nos e
theorem b_sub {a b v : V} {H H' : Hp} (e : bin2 .sub a b H = some (v, H')) : ∃ x y, a = .int x ∧ b = .int y ∧ v = .int (x - y) ∧ H' = H := by
  cases a with
  | int x => cases b with
    | int y => obtain ⟨rfl, rfl⟩ := so2 e; exact ⟨x, y, rfl, rfl, rfl, rfl⟩
    | _ => exact nos e
  | _ => exact nos e
theorem b_mul {a b v : V} {H H' : Hp} (e : bin2 .mul a b H = some (v, H')) : ∃ x y, a = .int x ∧ b = .int y ∧ (x.natAbs ≤ lim ∧ y.natAbs ≤ lim) ∧ v = .int (x * y) ∧ H' = H := by
  cases a with
  | int x => cases b with
    | int y => obtain ⟨hl, e⟩ := ifs e; obtain ⟨rfl, rfl⟩ := so2 e; exact ⟨x, y, rfl, rfl, hl, rfl, rfl⟩
    | _ => exact nos e
  | _ => exact nos e
theorem b_mod {a b v : V} {H H' : Hp} (e : bin2 .mod a b H = some (v, H')) : ∃ x y, a = .int x ∧ b = .int y ∧ 0 < y ∧ v = .int (x % y) ∧ H' = H := by
  cases a with
  | int x => cases b with
    | int y => obtain ⟨hl, e⟩ := ifs e; obtain ⟨rfl, rfl⟩ := so2 e; exact ⟨x, y, rfl, rfl, hl, rfl, rfl⟩
    | _ => exact nos e
  | _ => exact nos e
theorem bin_ok (st : St K w.params hb h₀ L ns X ρ H Ms T s.heap) (kb : ∀ b o, hb.get? b = some o → h₀.get? b = some o) {op : Operator} {p : Op2} {a b v : V} {x y : Value} {H' : Hp} {Q : Value → Shared → Prop}
    (hp : opOf op = some p) (e : bin2 p a b H = some (v, H')) (va : VR K w.params hb (Ms.map (·.1)) T a x) (vb : VR K w.params hb (Ms.map (·.1)) T b y)
    (hq : ∀ val h' tk Ms' T', VR K w.params hb (Ms'.map (·.1)) T' v val → St K w.params hb h₀ L ns X ρ H' Ms' T' h' → Gr (Ms.map (·.1)) T (Ms'.map (·.1)) T' → Q val { s with heap := h', toks := tk }) :
    wpAny (model prog w) A (binaryOp op x y) Q E s := by
  have gr := Gr.refl (Ms.map (·.1)) T
  cases op with
  | Add =>
    obtain rfl := so1 hp
    rcases b_add e with ⟨_, _, rfl, rfl, rfl, rfl⟩ | ⟨_, _, rfl, rfl, hl, rfl, rfl⟩ | ⟨l1, h1, l2, h2, hl, rfl, rfl⟩
    · obtain ⟨_, rfl⟩ := va.i_int
      obtain ⟨_, rfl⟩ := vb.i_int
      exact PyProof.Rows.add_int (hq _ _ _ _ _ (.int _ _) st gr)
    · obtain ⟨_, rfl⟩ := va.i_str
      obtain ⟨_, rfl⟩ := vb.i_str
      refine PyProof.Rows.add_str (fun t' tk => ?_) (by rw [toS_len, toS_len, sizeLine_eq]; exact lim_16 hl)
      rw [toS_app]
      exact hq _ s.heap _ _ _ (.str _ _) st gr
    · obtain ⟨a1, vals1, rfl, i1, r1⟩ := st.list kb va h1
      obtain ⟨a2, vals2, rfl, i2, r2⟩ := st.list kb vb h2
      obtain ⟨m, F, hloc⟩ := st.fr
      have N := st.nw
      refine add_arrays F N i1 i2 (fun h' F' N' => ?_) (by rw [List.size_toArray, List.size_toArray, ← r1.length, ← r2.length, sizeLine_eq]; exact lim_16 hl)
      refine hq _ h' s.toks _ _ ?_ (St.lst (vals := vals1 ++ vals2) (k := 0) st (fresh_of N) hloc F' N' (r1.append r2)) (gr_lst _)
      exact .ref (ad_new st.ce.len _)
  | Sub =>
    obtain rfl := so1 hp
    obtain ⟨_, _, rfl, rfl, rfl, rfl⟩ := b_sub e
    obtain ⟨_, rfl⟩ := va.i_int
    obtain ⟨_, rfl⟩ := vb.i_int
    exact PyProof.Rows.sub_int (hq _ _ _ _ _ (.int _ _) st gr)
  | Mult =>
    obtain rfl := so1 hp
    obtain ⟨_, _, rfl, rfl, hl, rfl, rfl⟩ := b_mul e
    obtain ⟨_, rfl⟩ := va.i_int
    obtain ⟨_, rfl⟩ := vb.i_int
    exact PyProof.Rows.mul_int (hq _ _ _ _ _ (.int _ _) st gr) (IntMulOk.of_left (bits_lim hl.1))
  | Mod =>
    obtain rfl := so1 hp
    obtain ⟨_, _, rfl, rfl, h0, rfl, rfl⟩ := b_mod e
    obtain ⟨_, rfl⟩ := va.i_int
    obtain ⟨_, rfl⟩ := vb.i_int
    refine mod_int' (by omega) ?_
    rw [Int.fmod_eq_emod_of_nonneg _ (by omega)]
    exact hq _ _ _ _ _ (.int _ _) st gr
  | _ => exact nos hp

theorem d_idx {a b v : V} {H : Hp} (e : idx2 a b H = some v) : (∃ l i c, a = .str l ∧ b = .int i ∧ (0 ≤ i ∧ i ≤ lim) ∧ l[i.toNat]? = some c ∧ v = .str [c]) ∨ (∃ vs i, a = .tup vs ∧ b = .int i ∧ (0 ≤ i ∧ i ≤ lim) ∧ vs[i.toNat]? = some v) ∨
    ∃ l i, lv H a = some l ∧ b = .int i ∧ (((0 ≤ i ∧ i ≤ lim) ∧ l[i.toNat]? = some v) ∨ (i = -1 ∧ l.getLast? = some v)) := by
  have gen : ∀ (l : List V) (i : Int), (if 0 ≤ i ∧ i ≤ lim then l[i.toNat]? else if i = -1 then l.getLast? else Option.none) = some v → ((0 ≤ i ∧ i ≤ lim) ∧ l[i.toNat]? = some v) ∨ (i = -1 ∧ l.getLast? = some v) := fun l i e => by
    by_cases h : 0 ≤ i ∧ i ≤ lim
    · rw [if_pos h] at e; exact .inl ⟨h, e⟩
    · rw [if_neg h] at e; exact .inr (ifs e)
  cases a with
  | str l => cases b with
    | int i =>
      obtain ⟨h, e⟩ := ifs e
      obtain ⟨c, hc, rfl⟩ := Option.map_eq_some_iff.mp e
      exact .inl ⟨l, i, c, rfl, rfl, h, hc, rfl⟩
    | _ => exact nos e
  | tup vs => cases b with
    | int i => obtain ⟨h, e⟩ := ifs e; exact .inr (.inl ⟨vs, i, rfl, rfl, h, e⟩)
    | _ => exact nos e
  | ref j => cases b with
    | int i => obtain ⟨l, hl, e⟩ := bnd1 (x := lv H (.ref j)) e; exact .inr (.inr ⟨l, i, hl, rfl, gen l i e⟩)
    | _ => exact nos e
  | fl vs => cases b with
    | int i => exact .inr (.inr ⟨vs, i, rfl, rfl, gen vs i e⟩)
    | _ => exact nos e
  | _ => cases b with
    | int i => exact nos e
    | _ => exact nos e
theorem str_at (l : List Nat) (k : Nat) : ((some k).bind fun x => (toS l).cps[x]?) = l[k]? := by simp [toS]
theorem lo_no {i : Int} (h : 0 ≤ i) : ¬ i < 0 := Int.not_lt.mpr h
theorem lo_63 {i : Int} (h : 0 ≤ i) : -2 ^ 63 ≤ i := by omega
theorem hi_no {i : Int} (h : 0 ≤ i ∧ i ≤ lim) : i < 2 ^ 63 := by have := h.2; rw [lim_eq] at this; omega
theorem big_no {i : Int} (h : 0 ≤ i ∧ i ≤ lim) : (decide (i < -(2 ^ 63 : Int)) || decide (i ≥ 2 ^ 63)) = false := by
  have := h.2
  rw [lim_eq] at this
  rw [decide_eq_false (by omega), decide_eq_false (by omega)]
  rfl
theorem seq_at {i : Int} {n : Nat} (h0 : 0 ≤ i) (h : i.toNat < n) : seqIndex? i n = some i.toNat := by
  unfold seqIndex?
  have a1 : ¬ i < 0 := by omega
  have a2 : i < n := by omega
  simp [a1, a2, h0]
theorem neg_lo (ys : List Value) (y : Value) : -(((ys ++ [y]).toArray.size : Nat) : Int) ≤ -1 := by rw [List.size_toArray, List.length_append, List.length_singleton]; omega
theorem neg_at (ys : List Value) (y : Value) : ((-1 : Int) + ((ys ++ [y]).toArray.size : Nat)).toNat = ys.length := by rw [List.size_toArray, List.length_append, List.length_singleton]; omega

theorem idx_ok (st : St K w.params hb h₀ L ns X ρ H Ms T s.heap) (kb : ∀ b o, hb.get? b = some o → h₀.get? b = some o) {value slice : Expr} {a b v : V} {x y : Value} {Q : Value → Shared → Prop} (hs : isSlc slice = false)
    (e : idx2 a b H = some v) (va : VR K w.params hb (Ms.map (·.1)) T a x) (vb : VR K w.params hb (Ms.map (·.1)) T b y)
    (hq : ∀ val tk, VR K w.params hb (Ms.map (·.1)) T v val → Q val { s with toks := tk }) :
    wpAny (model prog w) A (subscriptTail value slice x y) Q E s := by
  have hop : ∀ o i : Value, subscripted slice false o i = operate [o, i] (getItem o i) := fun o i => by
    unfold subscripted
    cases slice with
    | Slice lo hi st p => exact Bool.noConfusion (hs : true = false)
    | _ => rfl
  rcases d_idx e with ⟨l, i, c, rfl, rfl, h0, hc, rfl⟩ | ⟨vs, i, rfl, rfl, h0, hv⟩ | ⟨l, i, hl, rfl, h⟩
  · obtain ⟨_, rfl⟩ := va.i_str
    obtain ⟨_, rfl⟩ := vb.i_int
    refine tail_any (T := "str") (typeIs_str _ _ _) slot_str_getitem.lookup (getItem_str (c := c) (big_no h0) ?_ (hq (.str ⟨#[c]⟩ s.toks) _ (.str [c] _))) (hop _ _)
    rw [toS_len, seq_at h0.1 (List.getElem?_eq_some_iff.mp hc).1]
    exact (str_at l _).trans hc
  · obtain ⟨a1, vals, k, rfl, h1, r⟩ := va.i_tup
    obtain ⟨_, rfl⟩ := vb.i_int
    obtain ⟨y, hy, hv'⟩ := r.get hv
    exact item_tupleT ⟨_, st.std kb h1, rfl, _, rfl⟩ (lo_63 h0.1) (hi_no h0) (j := i.toNat) (by rw [← r.length]; exact seq_at h0.1 (List.getElem?_eq_some_iff.mp hv).1) hy (hq _ s.toks hv') (hop _ _)
  · obtain ⟨_, rfl⟩ := vb.i_int
    obtain ⟨a1, vals, rfl, il, r⟩ := st.list kb va hl
    rcases h with ⟨h0, hv⟩ | ⟨rfl, hv⟩
    · obtain ⟨y, hy, hv'⟩ := r.get hv
      exact tail_any il.typeIs slot_list_getitem.lookup (getItem_listL il h0.1 (hi_no h0) hy (hq _ s.toks hv')) (hop _ _)
    · obtain ⟨l', rfl⟩ := List.getLast?_eq_some_iff.mp hv
      obtain ⟨ys, y, rfl, r1, hv'⟩ := r.snoc
      refine tail_any il.typeIs slot_list_getitem.lookup (wpAny_getItem_list_neg il (by decide) (neg_lo ys y) (by decide) ?_ (hq _ s.toks hv')) (hop _ _)
      rw [neg_at ys y]
      simp
end
structure Cx where
  prog : Program
  w : World
  K : Frag
  p : Program
  loose : List Str
  mean : ExcName → Option Value
  mg : Str → Option Value
  mb : Str → Option Value
  hb : Heap
  FT : Nat → Option Df
  G : Gt
  bl : List Str

abbrev StC (c : Cx) (h₀ : Heap) (L : Addr) (cs : Scope) (X : Led) (ρ : Loc) (H : Hp) (Ms T : Led) (h : Heap) : Prop := St c.K c.w.params c.hb h₀ L (lcs cs) X ρ H Ms T h
abbrev VRC (c : Cx) (Ms T : Led) (v : V) (x : Value) : Prop := VR c.K c.w.params c.hb (Ms.map (·.1)) T v x
abbrev VRCs (c : Cx) (Ms T : Led) (v : List V) (x : List Value) : Prop := VRs c.K c.w.params c.hb (Ms.map (·.1)) T v x
abbrev GrC (Ms T Ms' T' : Led) : Prop := Gr (Ms.map (·.1)) T (Ms'.map (·.1)) T'

structure EnvOk (env : Env) (cs : Scope) (L : Addr) : Prop where
  sc : env.scope = cs
  lo : env.locals = L
  gl : env.globals = mainGlobals
  bl : env.builtins = builtinsNs

section
variable {M : Model} {A : Around} {E : Value → Shared → Prop} {s : Shared} {env : Env} {cs : Scope} {L : Addr} {h₀ : Heap} {m mg mb : Str → Option Value} {K : Frag} {p : Program} {loose : List Str} {x : Str} {pos : Pos} {v : Value}
theorem EnvOk.ldn (e : EnvOk env cs L) (hk : cs.kind = .function) {Q : Value → Shared → Prop} (F : Fr h₀ L s.heap m) (hv : m x = some v) (hl : cs.names.lookup x = some .local) (h : Q v s) : wpAny M A (loadName env x) Q E s := by
  obtain ⟨rfl, rfl, _, _⟩ := e
  exact wpAny_loadName_local hk hl F.ns hv h
theorem EnvOk.ld (e : EnvOk env cs L) (hk : cs.kind = .function) {Q : Value → Shared → Prop} (F : Fr h₀ L s.heap m) (hv : m x = some v) (hl : cs.names.lookup x = some .local) (hd : (x == ("__debug__" : Str)) = false) (h : Q v s) : wpAny M A (eval (.Name x pos) env) Q E s :=
  wpAny_Name (e.ldn hk F hv hl h) hd
theorem EnvOk.kn (e : EnvOk env cs L) (hk : cs.kind = .function) {Q : Value → Shared → Prop} (F : Fr h₀ L s.heap m) (X : K.In h₀) (T : TopRead p loose mg mb h₀) (en : nsIn K mainGlobals x = some (some v)) (hx : cs.names.lookup x = some .globalImplicit) (hd : (x == ("__debug__" : Str)) = false) (h : Q v s) : wpAny M A (eval (.Name x pos) env) Q E s := by
  obtain ⟨rfl, rfl, hg, hb⟩ := e
  exact Name_function_global hk hx (loadGlobal_global (by rw [hg]; exact T.g.keeps F.keep) (mg_of X T.g en) h) hd
theorem EnvOk.bn (e : EnvOk env cs L) (hk : cs.kind = .function) {Q : Value → Shared → Prop} (F : Fr h₀ L s.heap m) (X : K.In h₀) (T : TopRead p loose mg mb h₀) (en : nsIn K mainGlobals x = some none) (hv : bootBuiltins x = some v) (hn : x ≠ "__name__") (hx : cs.names.lookup x = some .globalImplicit) (hd : (x == ("__debug__" : Str)) = false) (h : Q v s) : wpAny M A (eval (.Name x pos) env) Q E s := by
  obtain ⟨rfl, rfl, hg, hb⟩ := e
  exact Name_function_global hk hx (loadGlobal_builtin (by rw [hg]; exact T.g.keeps F.keep) (mg_none_of X T.g en) (by rw [hb]; exact T.b.keeps F.keep) ((T.builtins x hn).trans hv) h) hd
theorem EnvOk.st (e : EnvOk env cs L) (hk : cs.kind = .function) {news : Led} {Q : Unit → Shared → Prop} (F : Fr h₀ L s.heap m) (N : News h₀ L s.heap news) (hl : cs.names.lookup x = some .local)
    (h : ∀ h', Fr h₀ L h' (fun y => if y = x then some v else m y) → News h₀ L h' news → Q () { s with heap := h', toks := s.toks + 1 }) : wpAny M A (storeName env x v) Q E s := by
  obtain ⟨rfl, rfl, _, _⟩ := e
  exact wpAny_storeName_local hl F.ns (fun h' hn hs => h h' (F.set hn hs) (N.set hs)) (by rw [hk]; rfl)
theorem envOf_ok {cn : Str} {a : Addr} {ccd : Value} : EnvOk (envOf cn cs L a ccd) cs L := ⟨rfl, rfl, rfl, rfl⟩
end

structure Act (c : Cx) (n : Nat) (A : Around) (cs : Scope) (env : Env) (h₀ : Heap) (L : Addr) : Prop where
  envE : EnvOk env cs L
  kind : cs.kind = .function
  bel : 0 < n → env.frame = some L ∧ ∃ A₀ outer, Below A₀ c.hb outer h₀ ∧ A.frames = some (env :: outer)
  kb : ∀ b o, c.hb.get? b = some o → h₀.get? b = some o
  X : c.K.In h₀
  T : Top c.p c.loose c.mean c.mg c.mb h₀
  hh : A.handled = none
  dep : A.depth + n < recursionLimit
  uni : A.units + 8 * n + 200 < cLine
  nd : (lcs cs).Nodup

theorem Act.room {c : Cx} {n : Nat} {A : Around} {cs : Scope} {env : Env} {h₀ : Heap} {L : Addr} (act : Act c n A cs env h₀ L) : A.units + 64 < cLine := by have := act.uni; omega

structure Stat (c : Cx) : Prop where
  val : ∀ x v, c.G.lookup x = some (.val v) → ∃ val, nsIn c.K mainGlobals x = some (some val) ∧ ∀ ads T, VR c.K c.w.params c.hb ads T v val
  fn : ∀ x a, c.G.lookup x = some (.fn a) → nsIn c.K mainGlobals x = some (some (.ref a)) ∧ keepIn c.K (.ref a) = true
  blt : ∀ x ∈ c.bl, nsIn c.K mainGlobals x = some none ∧ x ≠ ("__name__" : Str)

noncomputable def Post (c : Cx) (h₀ : Heap) (L : Addr) (cs : Scope) (X : Led) (ρ : Loc) (H' : Hp) (Ms T : Led) (s : Shared) (v : V) (Q : Value → Shared → Prop) : Prop :=
  ∀ val h' tk Ms' T', VRC c Ms' T' v val → StC c h₀ L cs X ρ H' Ms' T' h' → GrC Ms T Ms' T' → Q val { s with heap := h', toks := tk }
noncomputable def PostB (c : Cx) (h₀ : Heap) (L : Addr) (cs : Scope) (X : Led) (ρ : Loc) (H' : Hp) (Ms T : Led) (s : Shared) (b : Bool) (Q : Bool → Shared → Prop) : Prop :=
  ∀ h' tk Ms' T', StC c h₀ L cs X ρ H' Ms' T' h' → GrC Ms T Ms' T' → Q b { s with heap := h', toks := tk }
noncomputable def PostL (c : Cx) (h₀ : Heap) (L : Addr) (cs : Scope) (X : Led) (ρ : Loc) (H' : Hp) (Ms T : Led) (s : Shared) (vs : List V) (Q : List Value → Shared → Prop) : Prop :=
  ∀ vals h' tk Ms' T', VRCs c Ms' T' vs vals → StC c h₀ L cs X ρ H' Ms' T' h' → GrC Ms T Ms' T' → Q vals { s with heap := h', toks := tk }

noncomputable def SE (c : Cx) (cs : Scope) (n W : Nat) (e : Expr) (e' : E) : Prop :=
  ∀ {A : Around} {env : Env} {h₀ : Heap} {L : Addr} {X : Led} {ρ : Loc} {H : Hp} {Ms T : Led} {s : Shared} {v : V} {H' : Hp} {Q Ex : Value → Shared → Prop},
    Act c n A cs env h₀ L → ev (run c.FT W n) e' ρ H = some (v, H') → StC c h₀ L cs X ρ H Ms T s.heap → Post c h₀ L cs X ρ H' Ms T s v Q →
    wpAny (model c.prog c.w) A (eval e env) Q Ex s
noncomputable def ST (c : Cx) (cs : Scope) (n W : Nat) (e : Expr) (e' : E) : Prop :=
  ∀ {A : Around} {env : Env} {h₀ : Heap} {L : Addr} {X : Led} {ρ : Loc} {H : Hp} {Ms T : Led} {s : Shared} {b : Bool} {H' : Hp} {Q : Bool → Shared → Prop} {Ex : Value → Shared → Prop},
    Act c n A cs env h₀ L → tst (run c.FT W n) e' ρ H = some (b, H') → StC c h₀ L cs X ρ H Ms T s.heap → PostB c h₀ L cs X ρ H' Ms T s b Q →
    wpAny (model c.prog c.w) A (isTrue e env (eval e env)) Q Ex s
noncomputable def SL (c : Cx) (cs : Scope) (n W : Nat) (es : List Expr) (es' : Es) : Prop :=
  ∀ {A : Around} {env : Env} {h₀ : Heap} {L : Addr} {X : Led} {ρ : Loc} {H : Hp} {Ms T : Led} {s : Shared} {vs : List V} {H' : Hp} {pos : Pos} {Q : List Value → Shared → Prop} {Ex : Value → Shared → Prop},
    Act c n A cs env h₀ L → evs (run c.FT W n) es' ρ H = some (vs, H') → StC c h₀ L cs X ρ H Ms T s.heap → PostL c h₀ L cs X ρ H' Ms T s vs Q →
    wpAny (model c.prog c.w) A (spliced (backTo pos (starEach es env))) Q Ex s
noncomputable def RO (c : Cx) (n W : Nat) : Prop :=
  ∀ {A : Around} {cs : Scope} {env : Env} {h₀ : Heap} {L : Addr} {X : Led} {ρ : Loc} {H : Hp} {Ms T : Led} {s : Shared} {f : Nat} {vs : List V} {vals : List Value} {v : V} {H' : Hp} {Q Ex : Value → Shared → Prop},
    Act c n A cs env h₀ L → run c.FT W n f vs H = some (v, H') → VRCs c Ms T vs vals → StC c h₀ L cs X ρ H Ms T s.heap → Post c h₀ L cs X ρ H' Ms T s v Q →
    wpAny (model c.prog c.w) A (call (.ref f) vals) Q Ex s

section
variable {c : Cx} {cs : Scope} {n W : Nat}

theorem se_bad {e : Expr} : SE c cs n W e .bad := fun _ h => nos h

theorem star_ne {e : Expr} {rest : List Expr} {env : Env} (h : isStar e = false) : starEach (e :: rest) env = (false, eval e env) :: starEach rest env := by
  cases e <;> first | rfl | cases h

theorem sl_nil : SL c cs n W [] .nil := by
  intro A env h₀ L X ρ H Ms T s vs H' pos Q Ex act e st post
  obtain ⟨rfl, rfl⟩ := i_nil e
  exact args_nil (post [] s.heap s.toks _ _ .nil st (Gr.refl _ _))
theorem sl_cons {e : Expr} {r : List Expr} {e' : E} {r' : Es} (hs : isStar e = false) (he : SE c cs n W e e') (hr : SL c cs n W r r') : SL c cs n W (e :: r) (.cons e' r') := by
  intro A env h₀ L X ρ H Ms T s vs H' pos Q Ex act h st post
  obtain ⟨v, H1, h1, ws, h2, rfl⟩ := i_cons h
  refine args_cons (he act h1 st fun val1 h1 tk1 Ms1 T1 v1 st1 g1 => hr act h2 st1 fun vals h2 tk2 Ms2 T2 v2 st2 g2 => ?_) (star_ne hs)
  exact post _ h2 tk2 Ms2 T2 (.cons (v1.mono g2) v2) st2 (g1.trans g2)
theorem sl_of {es : List Expr} {f : Expr → E} (hs : es.any isStar = false) (h : ∀ e ∈ es, SE c cs n W e (f e)) : SL c cs n W es (esOf (es.map f)) := by
  induction es with
  | nil => exact sl_nil
  | cons e r ih =>
    simp only [List.any_cons, Bool.or_eq_false_iff] at hs
    exact sl_cons hs.1 (h e (.head _)) (ih hs.2 fun x hx => h x (.tail _ hx))

theorem se_int {i : Int} {k : Nat} {pos : Pos} : SE c cs n W (.Constant (.int i) k pos) (.lit (.int i)) := by
  intro A env h₀ L X ρ H Ms T s v H' Q Ex act e st post
  obtain ⟨rfl, rfl⟩ := i_lit e
  exact wpAny_Constant_int (post _ s.heap _ _ _ (.int i _) st (Gr.refl _ _))
theorem se_str {x : Str} {k : Nat} {pos : Pos} : SE c cs n W (.Constant (.str x) k pos) (.lit (.str x.cps.toList)) := by
  intro A env h₀ L X ρ H Ms T s v H' Q Ex act e st post
  obtain ⟨rfl, rfl⟩ := i_lit e
  have h : toS x.cps.toList = x := by cases x; simp [toS]
  exact Constant_str (post _ s.heap _ _ _ (h ▸ .str x.cps.toList _) st (Gr.refl _ _))
theorem se_boolc {b : Bool} {k : Nat} {pos : Pos} : SE c cs n W (.Constant (.bool b) k pos) (.lit (.bool b)) := by
  intro A env h₀ L X ρ H Ms T s v H' Q Ex act e st post
  obtain ⟨rfl, rfl⟩ := i_lit e
  exact Constant_bool (post _ s.heap s.toks _ _ (.bool b) st (Gr.refl _ _))
theorem se_none {k : Nat} {pos : Pos} : SE c cs n W (.Constant .none k pos) (.lit .none) := by
  intro A env h₀ L X ρ H Ms T s v H' Q Ex act e st post
  obtain ⟨rfl, rfl⟩ := i_lit e
  exact Constant_none (post _ s.heap s.toks _ _ .none st (Gr.refl _ _))

theorem idx_of_find {ns : List Str} {x : Str} {i : Nat} (h : ns.findIdx? (· == x) = some i) : ns[i]? = some x := by
  obtain ⟨hi, h1, _⟩ := List.findIdx?_eq_some_iff_getElem.mp h
  rw [List.getElem?_eq_getElem hi]
  exact congrArg some (beq_iff_eq.mp h1)

theorem se_name (S : Stat c) {x : Str} {pos : Pos} : SE c cs n W (.Name x pos) (nameE c.G cs x) := by
  intro A env h₀ L X ρ H Ms T s v H' Q Ex act e st post
  obtain ⟨m, F, hl⟩ := st.fr
  unfold nameE at e
  cases hd : x == ("__debug__" : Str) with
  | true => rw [hd] at e; exact nos e
  | false =>
    rw [hd] at e
    have e : ev _ (nameK c.G cs x (cs.names.lookup x)) ρ H = some (v, H') := e
    cases hk : cs.names.lookup x with
    | none => rw [hk] at e; exact nos e
    | some k =>
      rw [hk] at e
      cases k with
      | «local» =>
        have e : ev _ (match (lcs cs).findIdx? (· == x) with | some i => .loc i | Option.none => .bad) ρ H = some (v, H') := e
        cases hi : (lcs cs).findIdx? (· == x) with
        | none => rw [hi] at e; exact nos e
        | some i =>
          rw [hi] at e
          obtain ⟨h1, rfl⟩ := i_loc e
          obtain ⟨y, val, h2, h3, h4⟩ := hl _ _ h1
          obtain rfl := so1 ((idx_of_find hi).symm.trans h2)
          exact act.envE.ld act.kind F h3 hk hd (post _ s.heap s.toks _ _ h4 st (Gr.refl _ _))
      | globalImplicit =>
        have e : ev _ (nameG (c.G.lookup x)) ρ H = some (v, H') := e
        cases hv : c.G.lookup x with
        | none => rw [hv] at e; exact nos e
        | some g =>
          rw [hv] at e
          cases g with
          | fn a => exact nos e
          | val v' =>
            obtain ⟨rfl, rfl⟩ := i_lit e
            obtain ⟨val, h1, h2⟩ := S.val _ _ hv
            exact act.envE.kn act.kind F act.X (topRead_of act.T) h1 hk hd (post _ s.heap s.toks _ _ (h2 _ _) st (Gr.refl _ _))
      | _ => exact nos e

theorem se_bin {o : Operator} {p : Op2} {l r : Expr} {a b : E} {pos : Pos} (hp : opOf o = some p) (ha : SE c cs n W l a) (hb : SE c cs n W r b) : SE c cs n W (.BinOp l o r pos) (.bin p a b) := by
  intro A env h₀ L X ρ H Ms T s v H' Q Ex act e st post
  obtain ⟨x, H1, e1, y, H2, e2, e3⟩ := i_bin e
  refine wpAny_BinOp (ha act e1 st fun val1 h1 tk1 Ms1 T1 v1 st1 g1 => hb act e2 st1 fun val2 h2 tk2 Ms2 T2 v2 st2 g2 => ?_)
  exact bin_ok st2 act.kb hp e3 (v1.mono g2) v2 fun val h' tk Ms' T' v3 st3 g3 => post val h' tk Ms' T' v3 st3 ((g1.trans g2).trans g3)

theorem marks_of {op : CmpOp} {r : Expr} (h : isSetD r = false) : behindInMarks op r = false := by
  cases r <;> first | rfl | cases h

theorem se_cmp {o : CmpOp} {p : Cp} {l r : Expr} {a b : E} {pos : Pos} (hp : cpOf o = some p) (hr : isSetD r = false) (ha : SE c cs n W l a) (hb : SE c cs n W r b) : SE c cs n W (.Compare l [o] [r] pos) (.cmp p a b) := by
  intro A env h₀ L X ρ H Ms T s v H' Q Ex act e st post
  obtain ⟨x, H1, e1, y, e2, t, e3, rfl⟩ := i_cmp e
  refine wpAny_Compare1 (ha act e1 st fun val1 h1 tk1 Ms1 T1 v1 st1 g1 => hb act e2 st1 fun val2 h2 tk2 Ms2 T2 v2 st2 g2 => ?_) (marks_of hr)
  exact cmp_ok act.room act.X st2 act.kb hp e3 (v1.mono g2) v2 fun tk => post _ h2 tk Ms2 T2 (.bool t) st2 (g1.trans g2)
theorem st_cmp {o : CmpOp} {p : Cp} {l r : Expr} {a b : E} {pos : Pos} (hp : cpOf o = some p) (hr : isSetD r = false) (ha : SE c cs n W l a) (hb : SE c cs n W r b) : ST c cs n W (.Compare l [o] [r] pos) (.cmp p a b) := by
  intro A env h₀ L X ρ H Ms T s t H' Q Ex act e st post
  obtain ⟨_, _, e, hu⟩ := bnd2 (x := ev _ (.cmp p a b) ρ H) e
  obtain ⟨x, H1, e1, y, e2, t', e3, rfl⟩ := i_cmp e
  obtain ⟨hu2, rfl⟩ := i_ofV hu
  obtain rfl := so1 hu2
  refine wpAny_isTrue_Compare1 (ha act e1 st fun val1 h1 tk1 Ms1 T1 v1 st1 g1 => hb act e2 st1 fun val2 h2 tk2 Ms2 T2 v2 st2 g2 => ?_) (marks_of hr)
  exact cmp_ok act.room act.X st2 act.kb hp e3 (v1.mono g2) v2 fun tk => wpAny_truthy_bool (post h2 tk Ms2 T2 st2 (g1.trans g2))

theorem lastMarks_two {o1 o2 : CmpOp} {r1 r2 : Expr} (h : isSetD r2 = false) : lastMarks [o1, o2] [r1, r2] = false := marks_of h

theorem se_chain {o1 o2 : CmpOp} {p1 p2 : Cp} {l r1 r2 : Expr} {a b d : E} {pos : Pos} (hp1 : cpOf o1 = some p1) (hp2 : cpOf o2 = some p2) (hr : isSetD r2 = false) (ha : SE c cs n W l a) (hb : SE c cs n W r1 b) (hd : SE c cs n W r2 d) :
    SE c cs n W (.Compare l [o1, o2] [r1, r2] pos) (.chain p1 p2 a b d) := by
  intro A env h₀ L X ρ H Ms T s v H' Q Ex act e st post
  obtain ⟨x, H1, e1, y, H2, e2, t, e3, e4⟩ := i_chain e
  refine Compare_chain (rs := []) (ops := []) (ha act e1 st fun val1 h1 tk1 Ms1 T1 v1 st1 g1 => chain_link (hb act e2 st1 fun val2 h2 tk2 Ms2 T2 v2 st2 g2 => ?_)) (lastMarks_two hr)
  refine cmp_ok act.room act.X st2 act.kb hp1 e3 (v1.mono g2) v2 fun tk => wpAny_truthy_bool ?_
  rcases e4 with ⟨rfl, rfl, rfl⟩ | ⟨rfl, z, e5, u, e6, rfl⟩
  · exact post _ h2 tk Ms2 T2 (.bool false) st2 (g1.trans g2)
  · refine chain_last (hd act e5 st2 fun val3 h3 tk3 Ms3 T3 v3 st3 g3 => ?_)
    exact cmp_ok act.room act.X st3 act.kb hp2 e6 (v2.mono g3) v3 fun tk => post _ h3 tk Ms3 T3 (.bool u) st3 ((g1.trans g2).trans g3)
theorem st_chain {o1 o2 : CmpOp} {p1 p2 : Cp} {l r1 r2 : Expr} {a b d : E} {pos : Pos} (hp1 : cpOf o1 = some p1) (hp2 : cpOf o2 = some p2) (hr : isSetD r2 = false) (ha : SE c cs n W l a) (hb : SE c cs n W r1 b) (hd : SE c cs n W r2 d) :
    ST c cs n W (.Compare l [o1, o2] [r1, r2] pos) (.chain p1 p2 a b d) := by
  intro A env h₀ L X ρ H Ms T s bb H' Q Ex act e st post
  obtain ⟨_, _, e, hw⟩ := bnd2 (x := ev _ (.chain p1 p2 a b d) ρ H) e
  obtain ⟨x, H1, e1, y, H2, e2, t, e3, e4⟩ := i_chain e
  refine isTrue_chain (rs := []) (ops := []) (ha act e1 st fun val1 h1 tk1 Ms1 T1 v1 st1 g1 => test_link (hb act e2 st1 fun val2 h2 tk2 Ms2 T2 v2 st2 g2 => ?_)) (lastMarks_two hr)
  refine cmp_ok act.room act.X st2 act.kb hp1 e3 (v1.mono g2) v2 fun tk => wpAny_truthy_bool ?_
  obtain ⟨hw2, rfl⟩ := i_ofV hw
  rcases e4 with ⟨rfl, rfl, rfl⟩ | ⟨rfl, z, e5, u, e6, rfl⟩
  · obtain rfl := so1 hw2
    exact post h2 tk Ms2 T2 st2 (g1.trans g2)
  · obtain rfl := so1 hw2
    refine test_last (hd act e5 st2 fun val3 h3 tk3 Ms3 T3 v3 st3 g3 => ?_)
    exact cmp_ok act.room act.X st3 act.kb hp2 e6 (v2.mono g3) v3 fun tk => wpAny_truthy_bool (post h3 tk Ms3 T3 st3 ((g1.trans g2).trans g3))

theorem truth_ok {A : Around} {Ms T : Led} {s : Shared} {v : V} {x : Value} {b : Bool} {Q : Bool → Shared → Prop} {Ex : Value → Shared → Prop}
    (e : truth v = some b) (hv : VRC c Ms T v x) (hq : ∀ tk, Q b { s with toks := tk }) : wpAny (model c.prog c.w) A (truthy x) Q Ex s := by
  have hq0 : Q b s := hq s.toks
  cases v with
  | none => rw [hv.i_none]; obtain rfl := so1 e; exact truthy_none hq0
  | bool t => rw [hv.i_bool]; obtain rfl := so1 e; exact wpAny_truthy_bool hq0
  | int i => obtain ⟨t, rfl⟩ := hv.i_int; obtain rfl := so1 e; exact PyProof.Rows.truthy_int hq0
  | _ => exact nos e
end
section
variable {c : Cx} {cs : Scope} {n W : Nat}

theorem Post.at {h₀ : Heap} {L : Addr} {X : Led} {ρ : Loc} {H' : Hp} {Ms T Ms1 T1 : Led} {s : Shared} {v : V} {Q : Value → Shared → Prop} {h : Heap} {tk : Nat} (g : GrC Ms T Ms1 T1) (p : Post c h₀ L cs X ρ H' Ms T s v Q) :
    Post c h₀ L cs X ρ H' Ms1 T1 { s with heap := h, toks := tk } v Q := fun val h' tk' Ms' T' a b g' => p val h' tk' Ms' T' a b (g.trans g')
theorem PostB.at {h₀ : Heap} {L : Addr} {X : Led} {ρ : Loc} {H' : Hp} {Ms T Ms1 T1 : Led} {s : Shared} {v : Bool} {Q : Bool → Shared → Prop} {h : Heap} {tk : Nat} (g : GrC Ms T Ms1 T1) (p : PostB c h₀ L cs X ρ H' Ms T s v Q) :
    PostB c h₀ L cs X ρ H' Ms1 T1 { s with heap := h, toks := tk } v Q := fun h' tk' Ms' T' b g' => p h' tk' Ms' T' b (g.trans g')

theorem se_one {op : BoolOp} {a : Expr} {a' : E} {pos : Pos} (ha : SE c cs n W a a') : SE c cs n W (.BoolOp op [a] pos) a' :=
  fun act e st post => BoolOp_one (ha act e st post)
theorem st_one {op : BoolOp} {a : Expr} {a' : E} {pos : Pos} (ha : ST c cs n W a a') : ST c cs n W (.BoolOp op [a] pos) a' := by
  intro A env h₀ L X ρ H Ms T s b H' Q Ex act e st post
  cases op with
  | And =>
    refine isTrue_and (ha act e st fun h' tk Ms' T' st' g' => ?_)
    have q := post h' tk Ms' T' st' g'
    cases b with
    | true => exact isTrue_and_nil q
    | false => exact q
  | Or =>
    refine isTrue_or (ha act e st fun h' tk Ms' T' st' g' => ?_)
    have q := post h' tk Ms' T' st' g'
    cases b with
    | true => exact q
    | false => exact isTrue_or_nil q

theorem se_and {a b : Expr} {r : List Expr} {a' b' : E} {pos : Pos} (ha : SE c cs n W a a') (hb : SE c cs n W (.BoolOp .And (b :: r) pos) b') : SE c cs n W (.BoolOp .And (a :: b :: r) pos) (.and a' b') := by
  intro A env h₀ L X ρ H Ms T s v H' Q Ex act e st post
  obtain ⟨x, H1, e1, t, e2, e3⟩ := i_and e
  refine BoolOp_and (ha act e1 st fun val1 h1 tk1 Ms1 T1 v1 st1 g1 => truth_ok e2 v1 fun tk => ?_)
  rcases e3 with ⟨rfl, rfl, rfl⟩ | ⟨rfl, e3⟩
  · exact post _ _ _ _ _ v1 st1 g1
  · exact hb act e3 st1 (post.at g1)
theorem se_or {a b : Expr} {r : List Expr} {a' b' : E} {pos : Pos} (ha : SE c cs n W a a') (hb : SE c cs n W (.BoolOp .Or (b :: r) pos) b') : SE c cs n W (.BoolOp .Or (a :: b :: r) pos) (.or a' b') := by
  intro A env h₀ L X ρ H Ms T s v H' Q Ex act e st post
  obtain ⟨x, H1, e1, t, e2, e3⟩ := i_or e
  refine BoolOp_or (ha act e1 st fun val1 h1 tk1 Ms1 T1 v1 st1 g1 => truth_ok e2 v1 fun tk => ?_)
  rcases e3 with ⟨rfl, rfl, rfl⟩ | ⟨rfl, e3⟩
  · exact post _ _ _ _ _ v1 st1 g1
  · exact hb act e3 st1 (post.at g1)
theorem st_and {a b : Expr} {r : List Expr} {a' b' : E} {pos : Pos} (ha : ST c cs n W a a') (hb : ST c cs n W (.BoolOp .And (b :: r) pos) b') : ST c cs n W (.BoolOp .And (a :: b :: r) pos) (.and a' b') := by
  intro A env h₀ L X ρ H Ms T s bb H' Q Ex act e st post
  obtain ⟨t, H1, e1, e3⟩ := bnd2 ((t_and _ _).symm.trans e)
  refine isTrue_and (ha act e1 st fun h1 tk1 Ms1 T1 st1 g1 => ?_)
  cases t with
  | false => obtain ⟨rfl, rfl⟩ := so2 (itf e3); exact post _ _ _ _ st1 g1
  | true => exact hb act (itt e3) st1 (post.at g1)
theorem st_or {a b : Expr} {r : List Expr} {a' b' : E} {pos : Pos} (ha : ST c cs n W a a') (hb : ST c cs n W (.BoolOp .Or (b :: r) pos) b') : ST c cs n W (.BoolOp .Or (a :: b :: r) pos) (.or a' b') := by
  intro A env h₀ L X ρ H Ms T s bb H' Q Ex act e st post
  obtain ⟨t, H1, e1, e3⟩ := bnd2 ((t_or _ _).symm.trans e)
  refine isTrue_or (ha act e1 st fun h1 tk1 Ms1 T1 st1 g1 => ?_)
  cases t with
  | true => obtain ⟨rfl, rfl⟩ := so2 (itt e3); exact post _ _ _ _ st1 g1
  | false => exact hb act (itf e3) st1 (post.at g1)
theorem se_not {a : Expr} {a' : E} {pos : Pos} (ha : SE c cs n W a a') : SE c cs n W (.UnaryOp .Not a pos) (.not a') := by
  intro A env h₀ L X ρ H Ms T s v H' Q Ex act e st post
  obtain ⟨x, e1, t, e2, rfl⟩ := i_not e
  refine UnaryOp_ (ha act e1 st fun val1 h1 tk1 Ms1 T1 v1 st1 g1 => not_of (truth_ok e2 v1 fun tk => ?_))
  exact post _ _ _ _ _ (.bool _) st1 g1
theorem st_not {a : Expr} {a' : E} {pos : Pos} (ha : ST c cs n W a a') : ST c cs n W (.UnaryOp .Not a pos) (.not a') := by
  intro A env h₀ L X ρ H Ms T s v H' Q Ex act e st post
  obtain ⟨t, H1, e1, e⟩ := bnd2 ((t_not _).symm.trans e)
  obtain ⟨rfl, rfl⟩ := so2 e
  exact isTrue_not (ha act e1 st fun h1 tk1 Ms1 T1 st1 g1 => post _ _ _ _ st1 g1)
theorem se_neg {a : Expr} {a' : E} {pos : Pos} (ha : SE c cs n W a a') : SE c cs n W (.UnaryOp .USub a pos) (.neg a') := by
  intro A env h₀ L X ρ H Ms T s v H' Q Ex act e st post
  obtain ⟨i, e1, rfl⟩ := i_neg e
  refine UnaryOp_ (ha act e1 st fun val1 h1 tk1 Ms1 T1 v1 st1 g1 => ?_)
  obtain ⟨_, rfl⟩ := v1.i_int
  exact PyProof.Rows.neg_int (post _ _ _ _ _ (.int _ _) st1 g1)
theorem se_ite {t a b : Expr} {t' a' b' : E} {pos : Pos} (ht : ST c cs n W t t') (ha : SE c cs n W a a') (hb : SE c cs n W b b') : SE c cs n W (.IfExp t a b pos) (.ite t' a' b') := by
  intro A env h₀ L X ρ H Ms T s v H' Q Ex act e st post
  obtain ⟨y, H1, e0, t, e0', e2⟩ := i_ite e
  have e1 := tst_of _ _ _ _ _ _ _ e0 e0'
  refine IfExp_ (ht act e1 st fun h1 tk1 Ms1 T1 st1 g1 => ?_)
  rcases e2 with ⟨rfl, e2⟩ | ⟨rfl, e2⟩
  · exact ha act e2 st1 (post.at g1)
  · exact hb act e2 st1 (post.at g1)

theorem st_plain {e : Expr} {e' : E} (h : SE c cs n W e e') (he : ∀ env whole, isTrue e env whole = (do let v ← whole; standAt e.pos; holding [v] (truthy v)))
    (ht : ∀ ρ H, tst (run c.FT W n) e' ρ H = (ev (run c.FT W n) e' ρ H).bind ofV) : ST c cs n W e e' := by
  intro A env h₀ L X ρ H Ms T s b H' Q Ex act e st post
  rw [ht] at e
  obtain ⟨x, H1, e1, e⟩ := bnd2 e
  obtain ⟨e2, rfl⟩ := i_ofV e
  exact isTrue_plain (h act e1 st fun val1 h1 tk1 Ms1 T1 v1 st1 g1 => truth_ok e2 v1 fun tk => post _ _ _ _ st1 g1) (he _ _)

theorem letGo_str (value : Expr) (x : Str) (t : Tok) (r : Value) : letTemporaryGo value (.str x t) r = pure () := by cases value <;> rfl

theorem se_idx {a i : Expr} {a' i' : E} {pos : Pos} (hs : isSlc i = false) (ha : SE c cs n W a a') (hi : SE c cs n W i i') : SE c cs n W (.Subscript a i pos) (.idx a' i') := by
  intro A env h₀ L X ρ H Ms T s v H' Q Ex act e st post
  obtain ⟨x, H1, e1, y, e2, e3⟩ := i_idx e
  refine Subscript_ (ha act e1 st fun val1 h1 tk1 Ms1 T1 v1 st1 g1 => hi act e2 st1 fun val2 h2 tk2 Ms2 T2 v2 st2 g2 => ?_)
  exact idx_ok st2 act.kb hs e3 (v1.mono g2) v2 fun val tk vv => post _ _ _ _ _ vv st2 (g1.trans g2)

theorem lim_line {k : Nat} (h : k ≤ lim) : k ≤ sizeLine := by rw [sizeLine_eq]; rw [lim_eq] at h; omega

theorem se_slcs {a lo hi : Expr} {a' lo' hi' : E} {p pos : Pos} (ha : SE c cs n W a a') (hl : SE c cs n W lo lo') (hh : SE c cs n W hi hi') : SE c cs n W (.Subscript a (.Slice (some lo) (some hi) none p) pos) (.slcs a' lo' hi') := by
  intro A env h₀ L X ρ H Ms T s v H' Q Ex act e st post
  obtain ⟨l, H1, e1, i, H2, e2, j, e3, hc, rfl⟩ := i_slcs e
  refine Subscript_ (ha act e1 st fun val1 h1 tk1 Ms1 T1 v1 st1 g1 => wpAny_Slice (evalPart_some_step (hl act e2 st1 fun val2 h2 tk2 Ms2 T2 v2 st2 g2 =>
    evalPart_some_step (hh act e3 st2 fun val3 h3 tk3 Ms3 T3 v3 st3 g3 => evalPart_none_step ?_))))
  obtain ⟨_, rfl⟩ := v1.i_str
  obtain ⟨_, rfl⟩ := v2.i_int
  obtain ⟨_, rfl⟩ := v3.i_int
  obtain ⟨m, F, N, back⟩ := st3.go
  refine slice_strN_ss F N (fun h' t' k F' N' => ?_) (by with_unfolding_all rfl) (letGo_str _ _ _) (by rw [toS_len]; exact lim_line hc.2.2.2)
  rw [slice_ss _ _ _ hc.1 hc.2.1]
  exact post _ h' k _ _ (.str _ _) (back h' F' N') ((g1.trans g2).trans g3)
theorem se_slcf {a lo : Expr} {a' lo' : E} {p pos : Pos} (ha : SE c cs n W a a') (hl : SE c cs n W lo lo') : SE c cs n W (.Subscript a (.Slice (some lo) none none p) pos) (.slcf a' lo') := by
  intro A env h₀ L X ρ H Ms T s v H' Q Ex act e st post
  obtain ⟨l, H1, e1, i, e2, hc, rfl⟩ := i_slcf e
  refine Subscript_ (ha act e1 st fun val1 h1 tk1 Ms1 T1 v1 st1 g1 => wpAny_Slice (evalPart_some_step (hl act e2 st1 fun val2 h2 tk2 Ms2 T2 v2 st2 g2 =>
    evalPart_none_step (evalPart_none_step ?_))))
  obtain ⟨_, rfl⟩ := v1.i_str
  obtain ⟨_, rfl⟩ := v2.i_int
  obtain ⟨m, F, N, back⟩ := st2.go
  refine slice_strN_sn F N (fun h' t' k F' N' => ?_) (by with_unfolding_all rfl) (letGo_str _ _ _) (by rw [toS_len]; exact lim_line hc.2.2)
  rw [slice_sn _ _ hc.1]
  exact post _ h' k _ _ (.str _ _) (back h' F' N') (g1.trans g2)

theorem pick_upto (vals : List Value) (j : Int) (h : 0 ≤ j) : slicePick vals.toArray none (some j) none = (vals.take j.toNat).toArray := by
  obtain ⟨b, rfl⟩ := Int.eq_ofNat_of_zero_le h
  have e : sliceBounds none (some (b : Int)) none vals.toArray.size = (((0 : Nat) : Int), ((min b vals.toArray.size : Nat) : Int), 1) := by
    show ((0 : Int), max 0 (min (if (b : Int) < 0 then (b : Int) + (vals.toArray.size : Int) else (b : Int)) (vals.toArray.size : Int)), (1 : Int)) = _
    rw [ltN, clipN]
    rfl
  rw [kmk_pick_nat _ e, List.drop_zero, Nat.sub_zero, List.size_toArray, kmk_take_min]
  rfl

theorem se_slct {x : Str} {hi : Expr} {a' hi' : E} {p p' pos : Pos} (ha : SE c cs n W (.Name x p') a') (hh : SE c cs n W hi hi') : SE c cs n W (.Subscript (.Name x p') (.Slice none (some hi) none p) pos) (.slct a' hi') := by
  intro A env h₀ L X ρ H Ms T s v H' Q Ex act e st post
  obtain ⟨x, H1, e1, j, H3, e3, e4⟩ := i_slct e
  refine Subscript_ (ha act e1 st fun val1 h1 tk1 Ms1 T1 v1 st1 g1 => wpAny_Slice (evalPart_none_step (evalPart_some_step (hh act e3 st1 fun val3 h3 tk3 Ms3 T3 v3 st3 g3 => evalPart_none_step ?_))))
  obtain ⟨_, rfl⟩ := v3.i_int
  rcases e4 with ⟨l, rfl, hc, rfl, rfl⟩ | ⟨vs, rfl, hc, rfl, rfl⟩
  · obtain ⟨m, F, N, back⟩ := st3.go
    obtain ⟨_, rfl⟩ := v1.i_str
    refine slice_strN_ns F N (fun h' t' k F' N' => ?_) (by with_unfolding_all rfl) (letGo_str _ _ _) (by rw [toS_len]; exact lim_line hc.2.2)
    rw [slice_ns _ _ hc.1]
    exact post _ h' k _ _ (.str _ _) (back h' F' N') (g1.trans g3)
  · obtain ⟨a2, vals, rfl, il, r⟩ := st3.list act.kb (v1.mono g3) rfl
    obtain ⟨m, F, hloc⟩ := st3.fr
    refine kmk_slice F st3.nw il .none (.int _ _) (fun D h' F' N' l1 => ?_) rfl (fun r => rfl) (by rw [List.size_toArray, ← r.length]; exact lim_line hc.2.2)
    rw [pick_upto _ _ hc.1] at N'
    exact post _ h' tk3 _ _ (.ref (ad_new st3.ce.len _)) (St.lst st3 (fun p hp => Nat.ne_of_lt (l1 p hp)) hloc F' N' (r.take _)) ((g1.trans g3).trans (gr_lst _))

theorem se_tup {es : List Expr} {es' : Es} {k : Nat} {pos : Pos} (h : SL c cs n W es es') (hz' : ∀ ρ H vs H', evs (run c.FT W n) es' ρ H = some (vs, H') → vs.length ≤ 100) : SE c cs n W (.Tuple es k pos) (.tup es') := by
  intro A env h₀ L X ρ H Ms T s v H' Q Ex act e st post
  obtain ⟨vs, e1, rfl⟩ := i_tup e
  refine Tuple_ (h act e1 st fun vals h1 tk1 Ms1 T1 v1 st1 g1 => ?_)
  obtain ⟨m, F, hloc⟩ := st1.fr
  refine newTuple_N F st1.nw (fun h' F' N' => ?_) (by rw [← v1.length]; have := hz' _ _ _ _ e1; rw [sizeLine_eq]; omega)
  exact post _ h' tk1 _ _ (.tup (.inl (.head _)) (v1.mono (gr_tup _))) (St.tup st1 F (fresh_of st1.nw) hloc F' N') (g1.trans (gr_tup _))
theorem se_lst {es : List Expr} {es' : Es} {pos : Pos} (h : SL c cs n W es es') (hz' : ∀ ρ H vs H', evs (run c.FT W n) es' ρ H = some (vs, H') → vs.length ≤ 100) : SE c cs n W (.List es pos) (.lst es') := by
  intro A env h₀ L X ρ H Ms T s v H' Q Ex act e st post
  obtain ⟨vs, H1, e1, rfl, rfl⟩ := i_lst e
  refine List_ (h act e1 st fun vals h1 tk1 Ms1 T1 v1 st1 g1 => ?_)
  obtain ⟨m, F, hloc⟩ := st1.fr
  refine newList_N F st1.nw (fun h' F' N' => ?_) (by rw [← v1.length]; have := hz' _ _ _ _ e1; rw [sizeLine_eq]; omega)
  exact post _ h' tk1 _ _ (.ref (ad_new st1.ce.len _)) (St.lst st1 (fresh_of st1.nw) hloc F' N' v1) (g1.trans (gr_lst _))
end
section
variable {c : Cx} {cs : Scope} {n W : Nat}

theorem evs_len {O : Orc} {f : Expr → E} {es : List Expr} : ∀ {ρ : Loc} {H : Hp} {vs : List V} {H' : Hp}, evs O (esOf (es.map f)) ρ H = some (vs, H') → vs.length = es.length := by
  induction es with
  | nil => intro ρ H vs H' e; rw [(i_nil e).1]; rfl
  | cons x es ih =>
    intro ρ H vs H' e
    obtain ⟨v, H1, h1, ws, h2, rfl⟩ := i_cons e
    exact congrArg (· + 1) (ih h2)

theorem star_all {env : Env} {pos : Pos} {es : List Expr} : es.any isStar = false → (backTo pos (starEach es env)).any (·.1) = false ∧ (backTo pos (starEach es env)).all (fun x => !x.1) = true := by
  induction es with
  | nil => exact fun _ => ⟨rfl, rfl⟩
  | cons e r ih =>
    intro h
    rw [List.any_cons, Bool.or_eq_false_iff] at h
    rw [star_ne h.1]
    exact ih h.2

theorem fn_inv {G : Gt} {f : Str} {g : Nat} (h : fnOfName G cs f = some g) : (f == ("__debug__" : Str)) = false ∧ cs.names.lookup f = some .globalImplicit ∧ G.lookup f = some (.fn g) := by
  unfold fnOfName at h
  cases hd : f == ("__debug__" : Str) with
  | true => rw [hd] at h; exact nos h
  | false =>
    rw [hd] at h
    have h : (fnK (G.lookup f) (cs.names.lookup f)) = some g := h
    cases hk : cs.names.lookup f with
    | none => rw [hk] at h; exact nos h
    | some k =>
      rw [hk] at h
      cases k with
      | globalImplicit =>
        cases hG : G.lookup f with
        | none => rw [hG] at h; exact nos h
        | some v =>
          rw [hG] at h
          cases v with
          | val _ => exact nos h
          | fn a => obtain rfl := so1 h; exact ⟨rfl, rfl, rfl⟩
      | _ => exact nos h
theorem blt_inv {b : List Str} {f y : Str} (h : isBlt b cs f y = true) : f = y ∧ (f == ("__debug__" : Str)) = false ∧ f ∈ b ∧ cs.names.lookup f = some .globalImplicit := by
  unfold isBlt at h
  rw [Bool.and_eq_true, Bool.and_eq_true, Bool.and_eq_true] at h
  obtain ⟨⟨⟨h1, h2⟩, h3⟩, h4⟩ := h
  exact ⟨beq_iff_eq.mp h1, by cases hf : f == ("__debug__" : Str) with | true => rw [hf] at h2; exact absurd h2 (by decide) | false => rfl, List.contains_iff_mem.mp h3, beq_iff_eq.mp h4⟩

theorem se_call (S : Stat c) (R : RO c n W) {f : Str} {g : Nat} {a : Expr} {r : List Expr} {p pos : Pos} {es' : Es} (hg : fnOfName c.G cs f = some g) (hs : (a :: r).any isStar = false) (hl : SL c cs n W (a :: r) es') :
    SE c cs n W (.Call (.Name f p) (a :: r) [] pos) (.call g es') := by
  intro A env h₀ L X ρ H Ms T s v H' Q Ex act e st post
  obtain ⟨vs, H1, e1, e2⟩ := i_call e
  obtain ⟨m, F, hloc⟩ := st.fr
  obtain ⟨hd, hk, ha⟩ := fn_inv hg
  obtain ⟨h1, h2⟩ := S.fn _ _ ha
  rw [List.any_cons, Bool.or_eq_false_iff] at hs
  refine Call_ (act.envE.kn act.kind F act.X (topRead_of act.T) h1 hk hd ?_) rfl
  refine callWith_K (h₀ := h₀) act.X h2 (hl act e1 st fun vals h1 tk1 Ms1 T1 v1 st1 g1 => ?_) (star_ne hs.1) (star_all hs.2).1
  obtain ⟨m1, F1, _⟩ := st1.fr
  exact ⟨act.X.keeps F1.keep, R act e2 v1 st1 (post.at g1)⟩

theorem lim_63 {k : Nat} (h : k ≤ lim) : (k : Int) < 2 ^ 63 := by rw [lim_eq] at h; omega
theorem se_len (S : Stat c) {f : Str} {a : Expr} {a' : E} {p pos : Pos} (hf : isBlt c.bl cs f "len" = true) (hs : isStar a = false) (ha : SE c cs n W a a') :
    SE c cs n W (.Call (.Name f p) [a] [] pos) (.len a') := by
  intro A env h₀ L X ρ H Ms T s v H' Q Ex act e st post
  obtain ⟨x, e1, e2⟩ := i_len e
  obtain ⟨m, F, hloc⟩ := st.fr
  obtain ⟨rfl, hd, hm, hk⟩ := blt_inv hf
  obtain ⟨h1, h2⟩ := S.blt _ hm
  refine Call_ (act.envE.bn (v := .builtin "len") act.kind F act.X (topRead_of act.T) h1 (by boot_fast) h2 hk hd ?_) rfl
  refine PyProof.Rows.callWith_builtin1 (args_cons (ha act e1 st fun val1 h1 tk1 Ms1 T1 v1 st1 g1 => args_nil ?_) (star_ne hs)) (star_ne hs) rfl
  rcases e2 with ⟨l, rfl, hc, rfl⟩ | ⟨l, hl, hc, rfl⟩
  · obtain ⟨_, rfl⟩ := v1.i_str
    refine len_str (by rw [toS_len]; exact Int.not_le.mpr (lim_63 hc)) ?_
    rw [toS_len]
    exact post _ h1 _ _ _ (.int _ _) st1 g1
  · obtain ⟨a1, vals, rfl, il, r⟩ := st1.list act.kb v1 hl
    have hz : vals.toArray.size = l.length := by rw [List.size_toArray, r.length]
    refine call_len_list il (by rw [hz]; exact lim_63 hc) ?_
    rw [hz]
    exact post _ h1 _ _ _ (.int _ _) st1 g1

theorem base_is {o : Expr} {name : Str} {env : Env} {w : Sem Value} (h : baseOk o = true) : attributeBase o name env w = w := by
  cases o <;> first | rfl | cases h

theorem few_of {es : List Expr} {env : Env} {pos : Pos} (h : es.any isStar = false) (hz : es.length < 30) : ((backTo pos (starEach es env)).all (fun x => !x.1) && (backToKw pos (keywordEach [] env)).all (fun x => x.1.isSome)
      && decide (es.length + ([] : List Keyword).length + (if ([] : List Keyword).isEmpty then 0 else 1) < 30)) = true := by
  rw [(star_all h).2]
  show (true && true && decide (es.length < 30)) = true
  rw [decide_eq_true hz]
  rfl
theorem any1 {a : Expr} (hs : isStar a = false) : [a].any isStar = false := by rw [List.any_cons, hs]; rfl
theorem toS_ofS (z : Str) : z = toS (ofS z) := by cases z; rfl
theorem VR.oS {K : Frag} {P : Params} {hb : Heap} {ads : List Addr} {T : Led} (z : Str) (t : Tok) : VR K P hb ads T (.str (ofS z)) (.str z t) := (congrArg (fun y => VR K P hb ads T (.str (ofS z)) (.str y t)) (toS_ofS z)).mpr (VR.str (ofS z) t)

theorem se_strip {o a : Expr} {o' a' : E} {apos pos : Pos} (hb : baseOk o = true) (hline : (apos.endLine == pos.line) = true) (hs : isStar a = false) (ho : SE c cs n W o o') (ha : SE c cs n W a a') :
    SE c cs n W (.Call (.Attribute o "strip" apos) [a] [] pos) (.strip o' a') := by
  intro A env h₀ L X ρ H Ms T s v H' Q Ex act e st post
  obtain ⟨l, H1, e1, ks, e2, hc, rfl⟩ := i_strip e
  have hs' := any1 hs
  refine wpAny_Call_method (base_is hb) (few_of hs' (show 1 < 30 by decide)) hline PySem.F.plainAttrs_str PySem.F.slot_str_strip PySem.F.type_str_strip (ho act e1 st fun val1 h1 tk1 Ms1 T1 v1 st1 g1 => ?_)
  obtain ⟨t, rfl⟩ := v1.i_str
  refine ⟨typeIs_str _ _ _, (fun _ e => by cases e), Calls.callWith_builtin (star_all hs').1 ?_⟩
  rw [star_ne hs]
  refine evalArgs_plain (spliced_cons (ha act e2 st1 fun val2 h2 tk2 Ms2 T2 v2 st2 g2 => spliced_nil ?_))
  obtain ⟨_, rfl⟩ := v2.i_str
  exact SC.stripChars (fun t' k => post _ h2 k _ _ (.oS _ _) st2 (g1.trans g2)) (by rw [toS_len]; exact lim_line hc)

theorem se_part {o a : Expr} {o' a' : E} {apos pos : Pos} (hb : baseOk o = true) (hline : (apos.endLine == pos.line) = true) (hs : isStar a = false) (ho : SE c cs n W o o') (ha : SE c cs n W a a') :
    SE c cs n W (.Call (.Attribute o "partition" apos) [a] [] pos) (.part o' a') := by
  intro A env h₀ L X ρ H Ms T s v H' Q Ex act e st post
  obtain ⟨l, H1, e1, c1, cs1, e2, hc, rfl⟩ := i_part e
  have hs' := any1 hs
  refine wpAny_Call_method (base_is hb) (few_of hs' (show 1 < 30 by decide)) hline PySem.F.plainAttrs_str PySem.F.slot_str_partition PySem.F.type_str_partition (ho act e1 st fun val1 h1 tk1 Ms1 T1 v1 st1 g1 => ?_)
  obtain ⟨t, rfl⟩ := v1.i_str
  refine ⟨typeIs_str _ _ _, (fun _ e => by cases e), Calls.callWith_builtin (star_all hs').1 ?_⟩
  rw [star_ne hs]
  refine evalArgs_plain (spliced_cons (ha act e2 st1 fun val2 h2 tk2 Ms2 T2 v2 st2 g2 => spliced_nil ?_))
  obtain ⟨_, rfl⟩ := v2.i_str
  obtain ⟨m, F, hloc⟩ := st2.fr
  refine partitionN F st2.nw (by rw [toS_len]; rfl) (fun ta tb tc h' k F' N' => ?_) (by rw [toS_len]; exact lim_line hc)
  exact post _ h' k _ _ (.tup (.inl (.head _)) (.cons (.oS _ _) (.cons (.oS _ _) (.cons (.oS _ _) .nil)))) (St.tup st2 F (fresh_of st2.nw) hloc F' N') ((g1.trans g2).trans (gr_tup _))

theorem list_base {h₀ h : Heap} {L : Addr} {X : Led} {ρ : Loc} {H : Hp} {Ms T : Led} (st : StC c h₀ L cs X ρ H Ms T h) {i : Nat} {l : List V} {x : Value} (hv : VRC c Ms T (.ref i) x) (hl : H[i]? = some l) :
    ∃ a vals k, x = .ref a ∧ Ms[i]? = some (a, PySem.W.listOf vals.toArray k) ∧ VRCs c Ms T l vals ∧ h.get? a = some (PySem.W.listOf vals.toArray k) := by
  obtain ⟨a, rfl, e⟩ := hv.i_ref
  obtain ⟨vals, k, h1, h2, h3⟩ := st.cell e hl
  exact ⟨_, vals, k, rfl, h1, h2, h3⟩
theorem cell_ex {h₀ h : Heap} {L : Addr} {X : Led} {ρ : Loc} {H : Hp} {Ms T : Led} (st : StC c h₀ L cs X ρ H Ms T h) {i : Nat} {x : Value} (hv : VRC c Ms T (.ref i) x) : ∃ l, H[i]? = some l := by
  obtain ⟨a, rfl, e⟩ := hv.i_ref
  have := (List.getElem?_eq_some_iff.mp e).1
  rw [List.length_map, st.ce.len] at this
  exact ⟨_, List.getElem?_eq_getElem this⟩

theorem se_app {o a : Expr} {o' a' : E} {apos pos : Pos} (hb : baseOk o = true) (hline : (apos.endLine == pos.line) = true) (hs : isStar a = false) (ho : SE c cs n W o o') (ha : SE c cs n W a a') :
    SE c cs n W (.Call (.Attribute o "append" apos) [a] [] pos) (.app o' a') := by
  intro A env h₀ L X ρ H Ms T s v H' Q Ex act e st post
  obtain ⟨i, H1, e1, y, H2, e2, l, hl, hc, rfl, rfl⟩ := i_app e
  have hs' := any1 hs
  refine wpAny_Call_method (base_is hb) (few_of hs' (show 1 < 30 by decide)) hline PySem.F.plainAttrs_list PySem.F.slot_list_append PySem.F.type_list_append (ho act e1 st fun val1 h1 tk1 Ms1 T1 v1 st1 g1 => ?_)
  obtain ⟨l1, hl1⟩ := cell_ex st1 v1
  obtain ⟨a1, vals1, k1, rfl, _, _, hg1⟩ := list_base st1 v1 hl1
  refine ⟨⟨_, hg1, rfl⟩, fun b e => by cases e; exact ⟨_, hg1, rfl⟩, Calls.callWith_builtin (star_all hs').1 ?_⟩
  rw [star_ne hs]
  refine evalArgs_plain (spliced_cons (ha act e2 st1 fun val2 h2 tk2 Ms2 T2 v2 st2 g2 => spliced_nil ?_))
  obtain ⟨a2, vals, k, he, hm, hr, hg⟩ := list_base st2 (v1.mono g2) hl
  cases he
  obtain ⟨m, F, hloc⟩ := st2.fr
  have U := upd_at (o' := PySem.W.listOf (vals.toArray.push val2) (k + 1)) hm st2.ce.nodup st2.off
  refine append_K F st2.nw U (fun h' F' N' => ?_) (by rw [List.size_toArray, ← hr.length]; exact lim_line hc)
  rw [List.push_toArray] at N'
  refine post _ h' tk2 _ _ .none (St.upd st2 hm hloc F' N' (hr.append (.cons v2 .nil))) ?_
  rw [GrC, map_set hm]
  exact g1.trans g2

theorem last_of : ∀ (ys : List Value) (y : Value), kl_last (ys ++ [y]) = some (ys, y)
  | [], y => rfl
  | x :: ys, y => by
    show kl_last (x :: (ys ++ [y])) = _
    unfold kl_last
    rw [last_of ys y]

theorem se_pop {o : Expr} {o' : E} {apos pos : Pos} (hb : baseOk o = true) (hline : (apos.endLine == pos.line) = true) (ho : SE c cs n W o o') :
    SE c cs n W (.Call (.Attribute o "pop" apos) [] [] pos) (.pop o') := by
  intro A env h₀ L X ρ H Ms T s v H' Q Ex act e st post
  obtain ⟨i, H1, e1, l, hl, hu, hc, rfl⟩ := i_pop e
  refine wpAny_Call_method (base_is hb) (few_of (es := []) rfl (by decide)) hline PySem.F.plainAttrs_list PySem.F.slot_list_pop PySem.F.type_list_pop (ho act e1 st fun val1 h1 tk1 Ms1 T1 v1 st1 g1 => ?_)
  obtain ⟨a1, vals, k, rfl, hm, hr, hg⟩ := list_base st1 v1 hl
  refine ⟨⟨_, hg, rfl⟩, fun b e => by cases e; exact ⟨_, hg, rfl⟩, Calls.callWith_builtin rfl (PySem.evalArgs_none ?_)⟩
  obtain ⟨l', rfl⟩ := List.getLast?_eq_some_iff.mp hu
  have hlen := hr.length
  obtain ⟨ys, y, rfl, hr', hy⟩ := hr.snoc
  obtain ⟨m, F, hloc⟩ := st1.fr
  have U := upd_at (o' := PySem.W.listOf ys.toArray (k + 1)) hm st1.ce.nodup st1.off
  refine kl_pop F st1.nw (p := ys) (y := y) (last_of ys y) U (by rw [hlen] at hc; exact lim_line hc) (fun h' F' N' => ?_)
  rw [List.dropLast_concat] at post
  refine post _ h' tk1 _ _ ?_ (St.upd st1 hm hloc F' N' hr') ?_
  · rw [VRC, map_set hm]; exact hy
  · rw [GrC, map_set hm]; exact g1

theorem se_get {o a b : Expr} {o' a' b' : E} {apos pos : Pos} (hb : baseOk o = true) (hline : (apos.endLine == pos.line) = true) (hs : [a, b].any isStar = false) (ho : SE c cs n W o o') (ha : SE c cs n W a a') (hbb : SE c cs n W b b') :
    SE c cs n W (.Call (.Attribute o "get" apos) [a, b] [] pos) (.get o' a' b') := by
  intro A env h₀ L X ρ H Ms T s v H' Q Ex act e st post
  obtain ⟨es, H1, e1, k, H2, e2, y, e3, rfl⟩ := i_get e
  refine wpAny_Call_method (base_is hb) (few_of hs (show 2 < 30 by decide)) hline PySem.F.plainAttrs_dict PySem.F.slot_dict_get PySem.F.type_dict_get (ho act e1 st fun val1 h1 tk1 Ms1 T1 v1 st1 g1 => ?_)
  have hs2 := Bool.or_eq_false_iff.mp ((List.any_cons).symm.trans hs)
  have hs3 := Bool.or_eq_false_iff.mp ((List.any_cons).symm.trans hs2.2)
  obtain ⟨a1, rfl, D⟩ := v1.i_dct
  obtain ⟨en, nn, hl, hk⟩ := D.ex
  obtain ⟨m1, F1, _⟩ := st1.fr
  have M1 := mapOf_K (prog := c.prog) (w := c.w) (act.X.keeps F1.keep) hl hk
  refine ⟨M1.typeIs, M1.noDict, Calls.callWith_builtin (star_all hs).1 ?_⟩
  rw [star_ne hs2.1, star_ne hs3.1]
  refine evalArgs_plain (spliced_cons (ha act e2 st1 fun val2 h2 tk2 Ms2 T2 v2 st2 g2 => spliced_cons (hbb act e3 st2 fun val3 h3 tk3 Ms3 T3 v3 st3 g3 => spliced_nil ?_)))
  obtain ⟨m3, F3, _⟩ := st3.fr
  have M3 := mapOf_K (prog := c.prog) (w := c.w) (act.X.keeps F3.keep) hl hk
  obtain ⟨t2, rfl⟩ := v2.i_str
  obtain ⟨r, hr, hm⟩ := D.is k
  refine call_meetsIn PySem.F.slot_dict_get M3.typeIs PySem.F.entry_dict_get (PySem.F.args_dict_get_3 _ _ _) (meets_dict_get_default (strKind c.prog c.w) _ (strKind_is c.prog c.w (toS k) t2) D.ne val3) ⟨_, M3, ?_⟩
  rw [find_K hl hr]
  cases hu : getD2 es k with
  | some u =>
    rw [hu] at post hm
    obtain ⟨t, rfl⟩ := hm
    exact post _ h3 _ _ _ (.str _ _) st3 ((g1.trans g2).trans g3)
  | none =>
    rw [hu] at post hm
    obtain rfl : r = Option.none := hm
    exact post _ h3 _ _ _ v3 st3 ((g1.trans g2).trans g3)
end
section
variable {K : Frag} {P : Params} {hb h₀ h h' : Heap} {L I : Addr} {ns : List Str} {X : Led} {ρ : Loc} {H : Hp} {Ms T : Led} {oI : Obj}

theorem St.addX (st : St K P hb h₀ L ns X ρ H Ms T h) (hf : ∀ p ∈ Ms ++ (T ++ X), p.1 ≠ I) (hg : h.get? I = some oI) (hL : I ≠ L) (h0 : h₀.get? I = none) : St K P hb h₀ L ns ((I, oI) :: X) ρ H Ms T h where
  fr := st.fr
  nw := fun p hp => by
    simp only [List.mem_append, List.mem_cons] at hp
    rcases hp with hp | hp | rfl | hp
    · exact st.nw p (by simp [hp])
    · exact st.nw p (by simp [hp])
    · exact ⟨hg, hL, h0⟩
    · exact st.nw p (by simp [hp])
  ce := st.ce
  off := fun p hp q hq => by
    simp only [List.mem_append, List.mem_cons] at hp
    rcases hp with hp | rfl | hp
    · exact st.off p (by simp [hp]) q hq
    · exact fun e => hf q (by simp [hq]) e.symm
    · exact st.off p (by simp [hp]) q hq
  offT := fun p hp q hq => by
    rcases List.mem_cons.mp hq with rfl | hq
    · exact hf p (by simp [hp])
    · exact st.offT p hp q hq
theorem St.dropX (st : St K P hb h₀ L ns ((I, oI) :: X) ρ H Ms T h) : St K P hb h₀ L ns X ρ H Ms T h ∧ (∀ p ∈ Ms ++ T, p.1 ≠ I) ∧ h.get? I = some oI := by
  refine ⟨⟨st.fr, News.sub st.nw fun p hp => ?_, st.ce, fun p hp q hq => st.off p ?_ q hq, fun p hp q hq => st.offT p hp q (List.mem_cons_of_mem _ hq)⟩, fun p hp => ?_, (st.nw (I, oI) (by simp)).1⟩
  · simp only [List.mem_append, List.mem_cons] at hp ⊢
    rcases hp with hp | hp | hp
    · exact .inl hp
    · exact .inr (.inl hp)
    · exact .inr (.inr (.inr hp))
  · simp only [List.mem_append, List.mem_cons] at hp ⊢
    rcases hp with hp | hp
    · exact .inl hp
    · exact .inr (.inr hp)
  · rcases List.mem_append.mp hp with hp | hp
    · exact fun e => st.off (I, oI) (by simp) p hp e.symm
    · exact st.offT p hp (I, oI) (.head _)
theorem St.but (st : St K P hb h₀ L ns X ρ H Ms T h) (hk : ∀ b o, b ∉ [I] → h.get? b = some o → h'.get? b = some o) (hf : ∀ p ∈ Ms ++ (T ++ X), p.1 ≠ I) (hL : I ≠ L) (h0 : h₀.get? I = none) : St K P hb h₀ L ns X ρ H Ms T h' := by
  obtain ⟨m, F, N, back⟩ := st.go
  exact back h' (LCg.fr_but F hk (Ne.symm hL) h0) (LCg.news_but N hk hf)
end

section
variable {K : Frag} {P : Params} {hb h₀ h h' : Heap} {L : Addr} {ns : List Str} {X : Led} {ρ : Loc} {H : Hp} {Ms T : Led}
theorem St.push (st : St K P hb h₀ L ns X ρ H Ms T h) (o : Obj) : St K P hb h₀ L ns X ρ H Ms T (h.push o) := by
  obtain ⟨m, F, N, back⟩ := st.go
  exact back _ (F.push o) (N.pushKeep o)
theorem St.new (st : St K P hb h₀ L ns X ρ H Ms T h) {I : Addr} (hI : h.objs.size ≤ I) : (∀ p ∈ Ms ++ (T ++ X), p.1 ≠ I) ∧ I ≠ L ∧ h₀.get? I = none := by
  obtain ⟨m, F, N, back⟩ := st.go
  refine ⟨fun p hp => Nat.ne_of_lt (Nat.lt_of_lt_of_le (Heap.lt_size (N p hp).1) hI), Nat.ne_of_gt (Nat.lt_of_lt_of_le F.ns.lt hI), ?_⟩
  cases e : h₀.get? I with
  | none => rfl
  | some o => exact absurd (Nat.lt_of_lt_of_le (Heap.lt_size (F.keep I o e)) hI) (Nat.lt_irrefl _)
end
section
variable {c : Cx} {cs : Scope} {n W : Nat}
theorem loc_inv {x : Str} {p : Pos} {i : Nat} (h : locOf cs (.Name x p) = some i) : cs.names.lookup x = some .local ∧ (lcs cs).findIdx? (· == x) = some i := ifs h
theorem sto_ok {A : Around} {env : Env} {h₀ : Heap} {L : Addr} {X : Led} {ρ : Loc} {H : Hp} {Ms T : Led} {s : Shared} {x : Str} {p : Pos} {i : Nat} {v : V} {val : Value} {Q : Unit → Shared → Prop} {Ex : Value → Shared → Prop}
    (act : Act c n A cs env h₀ L) (hi : locOf cs (.Name x p) = some i) (hv : VRC c Ms T v val) (st : StC c h₀ L cs X ρ H Ms T s.heap)
    (post : ∀ h' tk, StC c h₀ L cs X (ρ.set i (some v)) H Ms T h' → Q () { s with heap := h', toks := tk }) : wpAny (model c.prog c.w) A (storeName env x val) Q Ex s := by
  obtain ⟨m, F, hloc⟩ := st.fr
  obtain ⟨hk, hi⟩ := loc_inv hi
  exact act.envE.st act.kind F st.nw hk (fun h' F' N' => post h' _ (St.sto st act.nd (idx_of_find hi) hloc F' N' hv))

theorem is_name {e : Expr} {i : Nat} (h : locOf cs e = some i) : ∃ x p, e = .Name x p := by
  cases e with
  | Name x p => exact ⟨x, p, rfl⟩
  | _ => exact nos h

theorem locs_cons {e : Expr} {r : List Expr} {is : List Nat} (h : locsOf cs (e :: r) = some is) : ∃ x p i js, e = .Name x p ∧ locOf cs (.Name x p) = some i ∧ locsOf cs r = some js ∧ is = i :: js := by
  obtain ⟨i, hi, h⟩ := bnd1 (x := locOf cs e) h
  obtain ⟨js, hj, rfl⟩ := omm h
  obtain ⟨x, p, rfl⟩ := is_name hi
  exact ⟨x, p, i, js, rfl, hi, hj, rfl⟩
theorem each_names {ts : List Expr} : ∀ {is : List Nat} {env : Env}, locsOf cs ts = some is → (assignEach ts env).length = is.length ∧ (assignEach ts env).findIdx? (·.1) = none ∧ ts.length = is.length := by
  induction ts with
  | nil => intro is env h; obtain rfl := so1 h; exact ⟨rfl, rfl, rfl⟩
  | cons e r ih =>
    intro is env h
    obtain ⟨x, p, i, js, rfl, hi, hj, rfl⟩ := locs_cons h
    obtain ⟨a, b, d⟩ := ih (env := env) hj
    refine ⟨congrArg (· + 1) a, ?_, congrArg (· + 1) d⟩
    show List.findIdx? (·.1) ((false, assign (.Name x p) env) :: assignEach r env) = none
    rw [List.findIdx?_cons, b]
    rfl

theorem aio_ok {A : Around} {env : Env} {h₀ : Heap} {L : Addr} {X : Led} {H : Hp} {Ms T : Led} {Q : Unit → Shared → Prop} {Ex : Value → Shared → Prop} (act : Act c n A cs env h₀ L) :
    ∀ {ts : List Expr} {is : List Nat} {vs : List V} {vals : List Value} {ρ ρ' : Loc} {s : Shared}, locsOf cs ts = some is → VRCs c Ms T vs vals → setAll is vs ρ = some ρ' → StC c h₀ L cs X ρ H Ms T s.heap →
      (∀ h' tk, StC c h₀ L cs X ρ' H Ms T h' → Q () { s with heap := h', toks := tk }) → wpAny (model c.prog c.w) A (assignInOrder ((assignEach ts env).map (·.2)) vals) Q Ex s := by
  intro ts
  induction ts with
  | nil =>
    intro is vs vals ρ ρ' s ht hv he st post
    obtain rfl := so1 ht
    cases vs with
    | nil =>
      obtain rfl := so1 he
      rw [hv.i_nil]
      exact wpAny_pure (post s.heap s.toks st)
    | cons _ _ => exact nos he
  | cons e r ih =>
    intro is vs vals ρ ρ' s ht hv he st post
    obtain ⟨x, p, i, js, rfl, hi, hj, rfl⟩ := locs_cons ht
    cases vs with
    | nil => exact nos he
    | cons v vs =>
      obtain ⟨y, ys, rfl, h1, h2⟩ := hv.i_cons
      show wpAny _ _ (do holding _ (assign (.Name x p) env _); assignInOrder ((assignEach r env).map (·.2)) _) _ _ _
      refine wpAny_bind (wpAny_holding (PySem.wpAny_assign_Name (sto_ok act hi h1 st fun h' tk st1 => ?_)))
      exact ih hj h2 he st1 fun h2 tk2 st2 => post h2 tk2 st2

theorem setAll_len {is : List Nat} : ∀ {vs : List V} {ρ ρ' : Loc}, setAll is vs ρ = some ρ' → is.length = vs.length := by
  induction is with
  | nil =>
    intro vs ρ ρ' h
    cases vs with
    | nil => rfl
    | cons _ _ => exact nos h
  | cons i is ih =>
    intro vs ρ ρ' h
    cases vs with
    | nil => exact nos h
    | cons v vs => exact congrArg (· + 1) (ih h)

theorem compOk_is {sc : Scope} {it : Expr} (h : compOk sc it = true) : isSetD it = false ∧ sc.kind = .function ∧ (∀ x ∈ sc.names, x.2 = .local ∧ sc.names.lookup x.1 = some .local) ∧ (lcs sc).Nodup := by
  unfold compOk at h
  simp only [Bool.and_eq_true, Bool.not_eq_true', beq_iff_eq, List.all_eq_true, decide_eq_true_eq] at h
  exact ⟨h.1.1.1, h.1.1.2, h.1.2, h.2⟩

theorem fold_no {it : Expr} {env : Env} {x : Value} (h : isSetD it = false) : foldedSetIterable it env x = pure x := by
  cases it <;> first | rfl | cases h

theorem owned_no {A : Around} {s : Shared} {target : Expr} {I a : Addr} {j : Nat} {v : Value} {Q : Unit → Shared → Prop} {Ex : Value → Shared → Prop} (hI : s.heap.IsListIter I a j) (h : Q () s) :
    wpAny (model c.prog c.w) A (letOwnedTupleGo target (.ref I) v) Q Ex s := by
  obtain ⟨o, ho, hc, hd⟩ := hI
  unfold letOwnedTupleGo
  have key : ∀ b : Addr, wpAny (model c.prog c.w) A (do
      let o ← load I
      match o.cls, o.data with
      | .type n, .fields vs =>
        if (["enumerate", "zip", "dict_itemiterator", "dict_reverseitemiterator", "odict_iterator", "itertools.zip_longest", "itertools.pairwise"].contains n && vs[0]? == some (rawInt b)) = true then do
          rule "for.unpacks-the-owned-tuple"
          updateField I 0 .none
        else pure ()
      | _, _ => pure ()) Q Ex s := fun b => by
    refine wpAny_bind (wpAny_load ho ?_)
    rw [hc, hd]
    have e : (["enumerate", "zip", "dict_itemiterator", "dict_reverseitemiterator", "odict_iterator", "itertools.zip_longest", "itertools.pairwise"] : List String).contains "list_iterator" = false := by decide +kernel
    simp only [e, Bool.false_and, Bool.false_eq_true, if_false]
    exact wpAny_pure h
  split
  · cases v with
    | ref b => exact key b
    | _ => exact wpAny_pure h
  · cases v with
    | ref b => exact key b
    | _ => exact wpAny_pure h
  · exact wpAny_pure h

inductive CInv (c : Cx) (sc : Scope) (h₀ : Heap) (C L I a : Addr) (oL : Obj) (X : Led) (src : V) (i0 : Nat) (bd : V → Option Loc) (ef tf : Loc → Hp → Rn) (H' : Hp) (Ms T : Led) (s : Shared) (k : Nat) (s' : Shared) : Prop where
  | mk (j : Nat) (H2 : Hp) (Ms2 T2 : Led) (h : Heap) (tk : Nat) (ρ2 : Loc) (hs : s' = { s with heap := h, toks := tk }) (e : cloop src bd ef tf i0 k j H2 = some H') (st : StC c h₀ C sc ((L, oL) :: X) ρ2 H2 Ms2 T2 h) (hf : ∀ p ∈ Ms2 ++ (T2 ++ ((L, oL) :: X)), p.1 ≠ I) (hi : h.IsListIter I a j) (g : GrC Ms T Ms2 T2)

noncomputable def CTst (c : Cx) (sc : Scope) (W : Nat) (ifs : List Expr) (ts : E) : Prop :=
  ∀ {A : Around} {env : Env} {h₀ : Heap} {L : Addr} {X : Led} {ρ : Loc} {H : Hp} {Ms T : Led} {s : Shared} {x : V} {b : Bool} {H' : Hp} {Q : Bool → Shared → Prop} {Ex : Value → Shared → Prop},
    Act c 0 A sc env h₀ L → ev (run c.FT W 0) ts ρ H = some (x, H') → truth x = some b → StC c h₀ L sc X ρ H Ms T s.heap → PostB c h₀ L sc X ρ H' Ms T s b Q →
    wpAny (model c.prog c.w) A (forIn ifs true fun cc r => if r = true then do let ok ← isTrue cc env (eval cc env); pure (ForInStep.yield ok) else pure (ForInStep.yield r)) Q Ex s
theorem ctst_nil {sc : Scope} : CTst c sc W [] (.lit (.bool true)) := by
  intro A env h₀ L X ρ H Ms T s x b H' Q Ex act e ht st post
  obtain ⟨rfl, rfl⟩ := i_lit e
  obtain rfl := so1 ht
  exact wpAny_tests_nil (post s.heap s.toks _ _ st (Gr.refl _ _))
theorem ctst_one {sc : Scope} {t : Expr} {ts : E} (h : ST c sc 0 W t ts) : CTst c sc W [t] ts := by
  intro A env h₀ L X ρ H Ms T s x b H' Q Ex act e ht st post
  exact wpAny_tests_one (h act (tst_of _ _ _ _ _ _ _ e ht) st post)

theorem ctail2 {A : Around} {sc : Scope} {cenv : Env} {h₀ : Heap} {C L I a D : Addr} {oL oI : Obj} {X : Led} {src : V} {i0 : Nat} {bd : V → Option Loc} {tf : Loc → Hp → Rn} {H' : Hp} {Ms T Ms3 T3 : Led} {s : Shared} {k j : Nat} {h3 : Heap} {tk3 : Nat} {ρ2 : Loc} {H3 : Hp}
    {elt : Expr} {el : E} {Ex : Value → Shared → Prop} (act : Act c 0 A sc cenv h₀ C) (hel : SE c sc 0 W elt el)
    (st3 : StC c h₀ C sc ((I, oI) :: (L, oL) :: X) ρ2 H3 Ms3 T3 h3) (hI : oI.cls = .type "list_iterator" ∧ oI.data = .fields #[.ref a, .int (j + 1 : Nat) 0]) (g3 : GrC Ms T Ms3 T3) (hD : (Ms.map (·.1))[i0]? = some D) (hfX : ∀ p ∈ ((L, oL) :: X : Led), p.1 ≠ I)
    {v : V} {H4 : Hp} {acc : List V} (e4 : ev (run c.FT W 0) el ρ2 H3 = some (v, H4)) (hacc : H4[i0]? = some acc) (hz : acc.length ≤ lim) (e5 : cloop src bd (ev (run c.FT W 0) el) tf i0 k (j + 1) (H4.set i0 (acc ++ [v])) = some H') :
    wpAny (model c.prog c.w) A (eval elt cenv) (fun x s₄ =>
          wpAny (model c.prog c.w) A (call (.builtin "list.append") [.ref D, x]) (fun _ s₅ => ∃ m, m < k + 1 ∧ CInv c sc h₀ C L I a oL X src i0 bd (ev (run c.FT W 0) el) tf H' Ms T s m s₅) Ex s₄) Ex { s with heap := h3, toks := tk3 } := by
  have inv : ∀ {H4 : Hp} {Ms4 T4 : Led} {h4 : Heap} {tk4 : Nat}, cloop src bd (ev (run c.FT W 0) el) tf i0 k (j + 1) H4 = some H' → StC c h₀ C sc ((I, oI) :: (L, oL) :: X) ρ2 H4 Ms4 T4 h4 → GrC Ms T Ms4 T4 →
      ∃ m, m < k + 1 ∧ CInv c sc h₀ C L I a oL X src i0 bd (ev (run c.FT W 0) el) tf H' Ms T s m { s with heap := h4, toks := tk4 } := fun {H4 Ms4 T4 h4 tk4} e st4 g4 => by
    obtain ⟨st5, hd5, hg5⟩ := st4.dropX
    refine ⟨k, Nat.lt_succ_self _, j + 1, H4, Ms4, T4, h4, tk4, ρ2, rfl, e, st5, fun p hp => ?_, ⟨oI, hg5, hI⟩, g4⟩
    rw [← List.append_assoc] at hp
    rcases List.mem_append.mp hp with hp | hp
    · exact hd5 p hp
    · exact hfX p hp
  refine hel act e4 st3 fun val h4 tk4 Ms4 T4 v4 st4 g4 => ?_
  have g5 : GrC Ms T Ms4 T4 := g3.trans g4
  obtain ⟨a2, vals, k', he, hm, hr, hg⟩ := list_base st4 (VR.ref (g5.a _ _ hD)) hacc
  cases he
  obtain ⟨m, F, hloc⟩ := st4.fr
  have U := upd_at (o' := PySem.W.listOf (vals.toArray.push val) (k' + 1)) hm st4.ce.nodup st4.off
  refine append_K F st4.nw U (fun h' F' N' => ?_) (by rw [List.size_toArray, ← hr.length]; exact lim_line hz)
  rw [List.push_toArray] at N'
  exact inv e5 (St.upd st4 hm hloc F' N' (hr.append (.cons v4 .nil))) (by rw [GrC, map_set hm]; exact g5)

theorem ctail {A : Around} {sc : Scope} {cenv : Env} {h₀ : Heap} {C L I a D : Addr} {oL oI : Obj} {X : Led} {src : V} {i0 : Nat} {bd : V → Option Loc} {H' : Hp} {Ms T Ms2 T2 : Led} {s : Shared} {k j : Nat} {h : Heap} {tk : Nat} {ρ2 : Loc} {H2 : Hp} {w : V}
    {elt : Expr} {el ts : E} {ifs : List Expr} {Ex : Value → Shared → Prop} (act : Act c 0 A sc cenv h₀ C) (hel : SE c sc 0 W elt el) (hts : CTst c sc W ifs ts)
    (st : StC c h₀ C sc ((I, oI) :: (L, oL) :: X) ρ2 H2 Ms2 T2 h) (hI : oI.cls = .type "list_iterator" ∧ oI.data = .fields #[.ref a, .int (j + 1 : Nat) 0]) (g : GrC Ms T Ms2 T2) (hD : (Ms.map (·.1))[i0]? = some D) (hfX : ∀ p ∈ ((L, oL) :: X : Led), p.1 ≠ I)
    {x : V} {H3 : Hp} {t : Bool} (e1 : ev (run c.FT W 0) ts ρ2 H2 = some (x, H3)) (e2 : truth x = some t)
    (e3 : (t = true ∧ ∃ v H4, ev (run c.FT W 0) el ρ2 H3 = some (v, H4) ∧ ∃ acc, H4[i0]? = some acc ∧ acc.length ≤ lim ∧ cloop src bd (ev (run c.FT W 0) el) (ev (run c.FT W 0) ts) i0 k (j + 1) (H4.set i0 (acc ++ [v])) = some H') ∨ (t = false ∧ cloop src bd (ev (run c.FT W 0) el) (ev (run c.FT W 0) ts) i0 k (j + 1) H3 = some H')) :
    wpAny (model c.prog c.w) A (forIn ifs true fun cc r => if r = true then do let ok ← isTrue cc cenv (eval cc cenv); pure (ForInStep.yield ok) else pure (ForInStep.yield r)) (fun ok s₃ =>
        if ok = true then wpAny (model c.prog c.w) A (eval elt cenv) (fun x s₄ =>
          wpAny (model c.prog c.w) A (call (.builtin "list.append") [.ref D, x]) (fun _ s₅ => ∃ m, m < k + 1 ∧ CInv c sc h₀ C L I a oL X src i0 bd (ev (run c.FT W 0) el) (ev (run c.FT W 0) ts) H' Ms T s m s₅) Ex s₄) Ex s₃
        else ∃ m, m < k + 1 ∧ CInv c sc h₀ C L I a oL X src i0 bd (ev (run c.FT W 0) el) (ev (run c.FT W 0) ts) H' Ms T s m s₃) Ex { s with heap := h, toks := tk } := by
  have inv : ∀ {H4 : Hp} {Ms4 T4 : Led} {h4 : Heap} {tk4 : Nat}, cloop src bd (ev (run c.FT W 0) el) (ev (run c.FT W 0) ts) i0 k (j + 1) H4 = some H' → StC c h₀ C sc ((I, oI) :: (L, oL) :: X) ρ2 H4 Ms4 T4 h4 → GrC Ms T Ms4 T4 →
      ∃ m, m < k + 1 ∧ CInv c sc h₀ C L I a oL X src i0 bd (ev (run c.FT W 0) el) (ev (run c.FT W 0) ts) H' Ms T s m { s with heap := h4, toks := tk4 } := fun {H4 Ms4 T4 h4 tk4} e st4 g4 => by
    obtain ⟨st5, hd5, hg5⟩ := st4.dropX
    refine ⟨k, Nat.lt_succ_self _, j + 1, H4, Ms4, T4, h4, tk4, ρ2, rfl, e, st5, fun p hp => ?_, ⟨oI, hg5, hI⟩, g4⟩
    rw [← List.append_assoc] at hp
    rcases List.mem_append.mp hp with hp | hp
    · exact hd5 p hp
    · exact hfX p hp
  refine hts act e1 e2 st fun h3 tk3 Ms3 T3 st3 g3 => ?_
  rcases e3 with ⟨rfl, v, H4, e4, acc, hacc, hz, e5⟩ | ⟨rfl, e3⟩
  · rw [if_pos rfl]
    exact ctail2 act hel st3 hI (g.trans g3) hD hfX e4 hacc hz e5
  · rw [if_neg (by decide)]
    exact inv e3 st3 (g.trans g3)

theorem ref_inj {a b : Addr} (h : Value.ref a = .ref b) : a = b := by cases h; rfl
theorem not_one {a b : Addr} (h : b ∉ [a]) : b ≠ a := fun e => h (by rw [e]; exact .head _)
theorem get_none {vals : List Value} {l : List V} {j : Nat} (h : l.length = vals.length) (hv : l[j]? = Option.none) : vals.toArray[j]? = none := by
  rw [List.getElem?_toArray]
  exact List.getElem?_eq_none (by rw [← h]; exact List.getElem?_eq_none_iff.mp hv)
theorem cstep {sc : Scope} {h₀ h h2 : Heap} {C L I : Addr} {oL oI : Obj} {X : Led} {ρ2 : Loc} {H2 : Hp} {Ms2 T2 : Led} (ls : Nat) (st : StC c h₀ C sc ((L, oL) :: X) ρ2 H2 Ms2 T2 h) (hf : ∀ p ∈ Ms2 ++ (T2 ++ ((L, oL) :: X)), p.1 ≠ I) (hIC : I ≠ C) (h0 : h₀.get? I = none)
    (hoI : h2.get? I = some oI) (hk2 : ∀ b o, b ≠ I → h.get? b = some o → h2.get? b = some o) : StC c h₀ C sc ((I, oI) :: (L, oL) :: X) (List.replicate ls Option.none) H2 Ms2 T2 h2 := by
  have st2 := (st.but (fun b o hb e => hk2 b o (not_one hb) e) hf hIC h0).addX hf hoI hIC h0
  obtain ⟨m, F, _⟩ := st2.fr
  exact ⟨⟨m, F, fun q w hw => nos (List.mem_replicate.mp (List.mem_of_getElem? hw)).2.symm⟩, st2.nw, st2.ce, st2.off, st2.offT⟩

theorem cloop_one {A : Around} {sc : Scope} {cenv : Env} {h₀ : Heap} {C L I a D : Addr} {oL : Obj} {X : Led} {src : V} {i0 i ls : Nat} {H' : Hp} {Ms T : Led} {s : Shared} {k : Nat}
    {elt it : Expr} {x : Str} {p pos : Pos} {el ts : E} {ifs : List Expr} {R : Result → Shared → Prop} (act : Act c 0 A sc cenv h₀ C) (hel : SE c sc 0 W elt el) (hts : CTst c sc W ifs ts) (hi : locOf sc (.Name x p) = some i)
    (hD : (Ms.map (·.1))[i0]? = some D) (hfX : ∀ p ∈ ((L, oL) :: X : Led), p.1 ≠ I) (hIC : I ≠ C) (h0 : h₀.get? I = none) (hsrc : VRC c Ms T src (.ref a))
    (inv : CInv c sc h₀ C L I a oL X src i0 (bnd ls [i] false) (ev (run c.FT W 0) el) (ev (run c.FT W 0) ts) H' Ms T s k s)
    (fin : ∀ ρ2 Ms2 T2 h tk, StC c h₀ C sc ((L, oL) :: X) ρ2 H' Ms2 T2 h → GrC Ms T Ms2 T2 → R (.ok .next) { s with heap := h, toks := tk }) :
    codeAny (model c.prog c.w) A (.compLoop (.ListComp elt [⟨.Name x p, it, ifs, 0⟩] sc pos) 0 (.ref I) (.ref D) cenv) R s := by
  refine codeAny_compLoop_tests (CInv c sc h₀ C L I a oL X src i0 (bnd ls [i] false) (ev (run c.FT W 0) el) (ev (run c.FT W 0) ts) H' Ms T s) ?_ k inv
  rintro k s' ⟨j, H2, Ms2, T2, h, tk, ρ2, rfl, e, st, hf, hIt, g⟩
  cases k with
  | zero => exact nos e
  | succ k =>
    obtain ⟨l, hl, e2⟩ := i_cloop e
    obtain ⟨a2, vals, he, il, hr⟩ := st.list act.kb (hsrc.mono g) hl
    obtain rfl := ref_inj he
    rcases e2 with ⟨hv, hH⟩ | ⟨w, hv, ρ', hb, x3, H3, e3, t, e4, e5⟩
    · exact wpAny_pyNext_list_end act.hh hIt il (get_none hr.length hv) fun h2 he2 => fin ρ2 Ms2 T2 h2 tk (hH ▸ st.but (fun b o hb e => he2 b o (not_one hb) e) hf hIC h0) g
    · obtain ⟨y, hy, vy⟩ := hr.get hv
      refine wpAny_pyNext_list_item hIt il (x := y) (List.getElem?_toArray.trans hy) fun h2 hS2 hs2 => ?_
      obtain rfl := so1 hb
      obtain ⟨oI, hoI, hoI2⟩ := id hS2
      refine PySem.wpAny_assign_Name (sto_ok act hi vy (cstep ls st hf hIC h0 hoI fun b o hb e => hs2.extBut b o hb e) fun h3 tk3 st3 => ?_)
      exact ctail (w := w) act hel hts st3 hoI2 g hD hfX e3 e4 e5

theorem bnd_tup {ls : Nat} {is : List Nat} {w : V} {ρ' : Loc} (hb : bnd ls is true w = some ρ') : ∃ ws, w = .tup ws ∧ setAll is ws (List.replicate ls Option.none) = some ρ' := by
  cases w with
  | tup ws => exact ⟨ws, rfl, hb⟩
  | _ => exact nos hb
theorem cloop_tup {A : Around} {sc : Scope} {cenv : Env} {h₀ : Heap} {C L I a D : Addr} {oL : Obj} {X : Led} {src : V} {i0 ls : Nat} {is : List Nat} {H' : Hp} {Ms T : Led} {s : Shared} {k : Nat}
    {elt it : Expr} {tgs : List Expr} {kk : Nat} {p pos : Pos} {el : E} {R : Result → Shared → Prop} (act : Act c 0 A sc cenv h₀ C) (hel : SE c sc 0 W elt el) (hi : locsOf sc tgs = some is)
    (hD : (Ms.map (·.1))[i0]? = some D) (hfX : ∀ p ∈ ((L, oL) :: X : Led), p.1 ≠ I) (hIC : I ≠ C) (h0 : h₀.get? I = none) (hsrc : VRC c Ms T src (.ref a))
    (inv : CInv c sc h₀ C L I a oL X src i0 (bnd ls is true) (ev (run c.FT W 0) el) (ev (run c.FT W 0) (.lit (.bool true))) H' Ms T s k s)
    (fin : ∀ ρ2 Ms2 T2 h tk, StC c h₀ C sc ((L, oL) :: X) ρ2 H' Ms2 T2 h → GrC Ms T Ms2 T2 → R (.ok .next) { s with heap := h, toks := tk }) :
    codeAny (model c.prog c.w) A (.compLoop (.ListComp elt [⟨.Tuple tgs kk p, it, [], 0⟩] sc pos) 0 (.ref I) (.ref D) cenv) R s := by
  refine LCp.codeAny_compLoop_pair (CInv c sc h₀ C L I a oL X src i0 (bnd ls is true) (ev (run c.FT W 0) el) (ev (run c.FT W 0) (.lit (.bool true))) H' Ms T s) ?_ k inv
  rintro k s' ⟨j, H2, Ms2, T2, h, tk, ρ2, rfl, e, st, hf, hIt, g⟩
  cases k with
  | zero => exact nos e
  | succ k =>
    obtain ⟨l, hl, e2⟩ := i_cloop e
    obtain ⟨a2, vals, he, il, hr⟩ := st.list act.kb (hsrc.mono g) hl
    obtain rfl := ref_inj he
    rcases e2 with ⟨hv, hH⟩ | ⟨w, hv, ρ', hb, x3, H3, e3, t, e4, e5⟩
    · exact wpAny_pyNext_list_end act.hh hIt il (get_none hr.length hv) fun h2 he2 => fin ρ2 Ms2 T2 h2 tk (hH ▸ st.but (fun b o hb e => he2 b o (not_one hb) e) hf hIC h0) g
    · obtain ⟨y, hy, vy⟩ := hr.get hv
      refine wpAny_pyNext_list_item hIt il (x := y) (List.getElem?_toArray.trans hy) fun h2 hS2 hs2 => ?_
      obtain ⟨ws, rfl, hset⟩ := bnd_tup hb
      refine owned_no hS2 ?_
      obtain ⟨oI, hoI, hoI2⟩ := id hS2
      have st2' := cstep ls st hf hIC h0 hoI fun b o hb e => hs2.extBut b o hb e
      obtain ⟨a3, vals2, n3, rfl, hs, hrr⟩ := vy.i_tup
      obtain ⟨l1, l2, l3⟩ := each_names (env := cenv) hi
      have it2 : IsTup h2 a3 vals2.toArray := ⟨_, st2'.std act.kb hs, rfl, _, rfl⟩
      refine assign_Tuple_tuple act.hh it2 (by rw [l1, setAll_len hset, hrr.length, List.size_toArray]) l2 fun h3 he3 => ?_
      obtain ⟨m2, F2, N2, back⟩ := st2'.go
      refine aio_ok act hi hrr hset (back h3 (F2.extBut he3 (Nat.le_refl _)) (N2.extBut he3 (Nat.le_refl _))) fun h4 tk4 st4 => ?_
      obtain ⟨rfl, rfl⟩ := i_lit e3
      obtain rfl := so1 e4
      rcases e5 with ⟨_, v, H4, e4, acc, hacc, hz, e5⟩ | ⟨ht, _⟩
      · exact ctail2 act hel st4 hoI2 g hD hfX e4 hacc hz e5
      · exact Bool.noConfusion ht

theorem lv_old {K : Frag} {P : Params} {hb h₀ h : Heap} {L : Addr} {ns : List Str} {X : Led} {ρ : Loc} {H : Hp} {Ms T : Led} {v : V} {x : Value} {l w : List V} (st : St K P hb h₀ L ns X ρ H Ms T h) (hv : VR K P hb (Ms.map (·.1)) T v x) (hl : lv (H ++ [w]) v = some l) : lv H v = some l := by
  cases v with
  | ref i =>
    obtain ⟨a, rfl, e⟩ := hv.i_ref
    have := (List.getElem?_eq_some_iff.mp e).1
    rw [List.length_map, st.ce.len] at this
    exact (List.getElem?_append_left this).symm.trans hl
  | fl vs => exact hl
  | _ => exact nos hl

theorem cloop_src {src : V} {bd : V → Option Loc} {ef tf : Loc → Hp → Rn} {i0 : Nat} {k j : Nat} {H H' : Hp} (e : cloop src bd ef tf i0 k j H = some H') : ∃ l, lv H src = some l := by
  cases k with
  | zero => exact nos e
  | succ k =>
    obtain ⟨l, hl, _⟩ := i_cloop e
    exact ⟨l, hl⟩

noncomputable def CLoop (c : Cx) (sc : Scope) (W : Nat) (elt tgt it : Expr) (ifs : List Expr) (pos : Pos) (el ts : E) (bd : V → Option Loc) : Prop :=
  ∀ (A : Around) (cenv : Env) (h₀ : Heap) (C L I a D : Addr) (oL : Obj) (X : Led) (src : V) (i0 : Nat) (H' : Hp) (Ms T : Led) (s : Shared) (k : Nat) (R : Result → Shared → Prop), Act c 0 A sc cenv h₀ C → (Ms.map (·.1))[i0]? = some D → (∀ p ∈ ((L, oL) :: X : Led), p.1 ≠ I) → I ≠ C → h₀.get? I = none → VRC c Ms T src (.ref a) →
    CInv c sc h₀ C L I a oL X src i0 bd (ev (run c.FT W 0) el) (ev (run c.FT W 0) ts) H' Ms T s k s →
    (∀ ρ2 Ms2 T2 h tk, StC c h₀ C sc ((L, oL) :: X) ρ2 H' Ms2 T2 h → GrC Ms T Ms2 T2 → R (.ok .next) { s with heap := h, toks := tk }) →
    codeAny (model c.prog c.w) A (.compLoop (.ListComp elt [⟨tgt, it, ifs, 0⟩] sc pos) 0 (.ref I) (.ref D) cenv) R s

theorem clo_one {sc : Scope} {elt it : Expr} {x : Str} {p pos : Pos} {el ts : E} {ifs : List Expr} {i ls : Nat} (hel : SE c sc 0 W elt el) (hts : CTst c sc W ifs ts) (hi : locOf sc (.Name x p) = some i) : CLoop c sc W elt (.Name x p) it ifs pos el ts (bnd ls [i] false) := by
  intro A cenv h₀ C L I a D oL X src i0 H' Ms T s k R act hD hfX hIC h0 hsrc inv fin
  exact cloop_one act hel hts hi hD hfX hIC h0 hsrc inv fin
theorem clo_tup {sc : Scope} {elt it : Expr} {tgs : List Expr} {kk : Nat} {p pos : Pos} {el : E} {is : List Nat} {ls : Nat} (hel : SE c sc 0 W elt el) (hi : locsOf sc tgs = some is) : CLoop c sc W elt (.Tuple tgs kk p) it [] pos el (.lit (.bool true)) (bnd ls is true) := by
  intro A cenv h₀ C L I a D oL X src i0 H' Ms T s k R act hD hfX hIC h0 hsrc inv fin
  exact cloop_tup act hel hi hD hfX hIC h0 hsrc inv fin

theorem se_comp {sc : Scope} {elt tgt it : Expr} {ifs : List Expr} {pos : Pos} {it' el ts : E} {ls : Nat} {is : List Nat} {pr : Bool} (hok : compOk sc it = true) (hit : SE c cs n W it it')
    (loop : CLoop c sc W elt tgt it ifs pos el ts (bnd ls is pr)) : SE c cs n W (.ListComp elt [⟨tgt, it, ifs, 0⟩] sc pos) (.comp ls is pr it' el ts) := by
  intro A env h₀ L X ρ H Ms T s v H' Q Ex act e st post
  obtain ⟨k1, k2, k3, k4⟩ := compOk_is hok
  obtain ⟨src, H1, e1, e2⟩ := bnd2 ((e_comp ls is pr it' el ts).symm.trans e)
  obtain ⟨H2, e2, e⟩ := bnd1 e2
  obtain ⟨rfl, rfl⟩ := so2 e
  have e2 : cloop src (bnd ls is pr) (ev (run c.FT W 0) el) (ev (run c.FT W 0) ts) H1.length 200 0 (H1 ++ [[]]) = some H' := e2
  refine wpAny_ListComp (fun x hx => by rw [(k3 x hx).1]; decide) k2 (fun x hx _ => (k3 x hx).2) (hit act e1 st fun val h1 tk1 Ms1 T1 v1 st1 g1 => ?_) (fun x => fold_no k1)
  obtain ⟨l, hl⟩ := cloop_src e2
  obtain ⟨a, vals, rfl, hil, hr⟩ := st1.list act.kb v1 (lv_old st1 v1 hl)
  refine wpAny_pyIter_list hil ?_
  have st2 := st1.push { cls := .type "list_iterator", data := .fields #[.ref a, .int 0 0] }
  obtain ⟨hI1, hI2, hI3⟩ := st1.new (Nat.le_refl _)
  have st3 := st2.addX hI1 (Heap.get?_push_size _ rfl) hI2 hI3
  obtain ⟨m, F, hloc⟩ := st3.fr
  generalize h1.objs.size = I at hI1 hI2 hI3 st3 ⊢
  generalize h1.push { cls := .type "list_iterator", data := .fields #[.ref a, .int 0 0] } = h2 at st2 st3 F ⊢
  refine newList_N F st3.nw (fun h' F' N' => ?_) (by simp)
  have st4 := St.lst st3 (fresh_of st3.nw) hloc F' N' VRs.nil
  generalize hDD : h2.objs.size = D at st4 ⊢
  obtain ⟨hC1, hC2, hC3⟩ := st4.new (Nat.le_refl _)
  refine wpAny_newFunctionEnv (fun x hx => by rw [(k3 x hx).1]; decide) (by intro y hy; simp at hy) (fun h5 hns hsb => ?_) k2
  dsimp only at hns hsb ⊢
  have hk5 : ∀ b o, b ∉ [h'.objs.size] → h'.get? b = some o → h5.get? b = some o := fun b o hb e => hsb.extBut b o (by simpa using hb) (Heap.get?_push_of_some _ e)
  have st5 := st4.but hk5 hC1 hC2 hC3
  generalize hCC : h'.objs.size = C at hC1 hC2 hC3 hns hsb ⊢
  obtain ⟨st6, hd6, hg6⟩ := st5.dropX
  obtain ⟨m5, F5, hloc5⟩ := st6.fr
  obtain ⟨oL, hoL⟩ : ∃ oL, h5.get? L = some oL := by
    obtain ⟨o, es, ep, e, _⟩ := F5.ns
    exact ⟨o, e⟩
  have hLC : L ≠ C := Ne.symm hC2
  have hL0 : h₀.get? L = none := by
    cases e : h₀.get? L with
    | none => rfl
    | some o => exact absurd (Heap.lt_size e) (Nat.not_lt.mpr F5.above)
  have hD' : ((Ms1 ++ [(D, listOf ([] : List Value).toArray 0)]).map (·.1))[H1.length]? = some D := by
    rw [List.map_append, List.getElem?_append_right (by rw [List.length_map, st1.ce.len]; exact Nat.le_refl _), List.length_map, st1.ce.len, Nat.sub_self]
    rfl
  have hfX : ∀ p ∈ ((L, oL) :: X : Led), p.1 ≠ I := fun p hp => by
    rcases List.mem_cons.mp hp with rfl | hp
    · exact Ne.symm hI2
    · exact hI1 p (by simp [hp])
  have hIC : I ≠ C := hC1 (I, { cls := .type "list_iterator", data := .fields #[.ref a, .int 0 0] }) (by simp)
  have hXC : ∀ p ∈ X, p.1 ≠ C := fun p hp => hC1 p (by simp [hp])
  have act' : Act c 0 A sc (compEnv sc C env) h₀ C := ⟨⟨rfl, rfl, act.envE.gl, act.envE.bl⟩, k2, fun h => absurd h (Nat.lt_irrefl 0), act.kb, act.X, act.T, act.hh, Nat.lt_of_le_of_lt (Nat.add_le_add_left (Nat.zero_le n) _) act.dep, by have := act.uni; omega, k4⟩
  have habove : h₀.objs.size ≤ C := by
    rw [← hCC]
    exact Nat.le_of_lt (Nat.lt_of_le_of_lt F5.above F'.ns.lt)
  have stC : StC c h₀ C sc ((L, oL) :: X) [] (H1 ++ [[]]) (Ms1 ++ [(D, listOf ([] : List Value).toArray 0)]) T1 h5 := by
    refine ⟨⟨_, ⟨hns, F5.keep, habove⟩, fun i v e => by simp at e⟩, fun p hp => ?_, st6.ce, fun p hp q hq => ?_, fun p hp q hq => ?_⟩
    · simp only [List.mem_append, List.mem_cons] at hp
      have old : ∀ p ∈ (Ms1 ++ [(D, listOf ([] : List Value).toArray 0)]) ++ (T1 ++ X), h5.get? p.1 = some p.2 ∧ p.1 ≠ C ∧ h₀.get? p.1 = none := fun p hp => by
        refine ⟨(st6.nw p hp).1, hC1 p ?_, (st6.nw p hp).2.2⟩
        simp only [List.mem_append, List.mem_cons] at hp ⊢
        rcases hp with hp | hp | hp
        · exact .inl hp
        · exact .inr (.inl hp)
        · exact .inr (.inr (.inr hp))
      rcases hp with hp | hp | rfl | hp
      · exact old p (by simp only [List.mem_append, List.mem_cons]; exact .inl hp)
      · exact old p (by simp only [List.mem_append, List.mem_cons]; exact .inr (.inl hp))
      · exact ⟨hoL, hLC, hL0⟩
      · exact old p (by simp only [List.mem_append, List.mem_cons]; exact .inr (.inr hp))
    · simp only [List.mem_append, List.mem_cons] at hp
      rcases hp with hp | rfl | hp
      · exact st6.off p (by simp [hp]) q hq
      · exact Ne.symm (st6.nw q (List.mem_append_left _ hq)).2.1
      · exact st6.off p (by simp [hp]) q hq
    · rcases List.mem_cons.mp hq with rfl | hq
      · exact (st6.nw p (List.mem_append_right _ (List.mem_append_left _ hp))).2.1
      · exact st6.offT p hp q hq
  have gD : GrC Ms1 T1 (Ms1 ++ [(D, listOf ([] : List Value).toArray 0)]) T1 := gr_lst _
  have lp := fun (Ex' : Value → Shared → Prop) (s5 : Shared) (hs5 : s5.heap = h5) (Q5 : Heap → Nat → Prop) (hQ5 : ∀ h7 tk7 Ms2 T2, VRC c Ms2 T2 (.ref H1.length) (.ref D) → StC c h₀ L cs X ρ H' Ms2 T2 h7 → GrC Ms T Ms2 T2 → Q5 h7 tk7) =>
    loop A (compEnv sc C env) h₀ C L I a D oL X src H1.length H' (Ms1 ++ [(D, listOf ([] : List Value).toArray 0)]) T1 s5 200
      (fun r s' => ∃ m, s'.heap.Ns C m ∧ ∀ h', Heap.SameBut C s'.heap h' → r = .ok .next ∧ s' = { s5 with heap := s'.heap, toks := s'.toks } ∧ Q5 h' s'.toks) act' hD' hfX hIC hI3 (v1.mono gD)
      ⟨0, _, _, _, h5, s5.toks, [], by rw [← hs5], e2, stC, fun p hp => by
          rw [← List.append_assoc] at hp
          rcases List.mem_append.mp hp with hp | hp
          · exact hd6 p hp
          · exact hfX p hp, ⟨_, hg6, rfl, rfl⟩, Gr.refl _ _⟩
      (fun ρ2 Ms2 T2 h6 tk6 stE gE => by
        obtain ⟨m6, F6, _⟩ := stE.fr
        refine ⟨m6, F6.ns, fun h7 hs7 => ⟨rfl, rfl, hQ5 h7 tk6 Ms2 T2 (.ref (gE.a _ _ hD')) ?_ (g1.trans (gD.trans gE))⟩⟩
        refine ⟨⟨m5, ⟨?_, ?_, F5.above⟩, fun i v e => ?_⟩, fun p hp => ?_, stE.ce, fun p hp q hq => ?_, fun p hp q hq => ?_⟩
        · refine F5.ns.at' fun o e => ?_
          rw [hoL] at e
          cases e
          exact hs7.extBut L _ hLC (stE.nw (L, oL) (by simp)).1
        · exact fun b o e => hs7.extBut b o (fun hb => by rw [hb, hC3] at e; cases e) (F6.keep b o e)
        · obtain ⟨x, val, a1, a2, a3⟩ := hloc5 i v e
          exact ⟨x, val, a1, a2, a3.mono gE⟩
        · have hp' : p ∈ Ms2 ++ (T2 ++ ((L, oL) :: X)) := by
            simp only [List.mem_append, List.mem_cons] at hp ⊢
            rcases hp with hp | hp | hp
            · exact .inl hp
            · exact .inr (.inl hp)
            · exact .inr (.inr (.inr hp))
          have n6 := stE.nw p hp'
          refine ⟨hs7.extBut _ _ n6.2.1 n6.1, ?_, n6.2.2⟩
          simp only [List.mem_append] at hp
          rcases hp with hp | hp | hp
          · exact Ne.symm (stE.off (L, oL) (by simp) p hp)
          · exact stE.offT p hp (L, oL) (.head _)
          · exact (st6.nw p (by simp [hp])).2.1
        · simp only [List.mem_append] at hp
          rcases hp with hp | hp
          · exact stE.off p (by simp [hp]) q hq
          · exact stE.off p (by simp [hp]) q hq
        · exact stE.offT p hp q (.tail _ hq))
  refine codeAny_compStart_list (codeAny_mono (lp Ex _ rfl (fun h7 tk7 => Q (.ref D) { s with heap := h7, toks := tk7 }) fun h7 tk7 Ms2 T2 hv7 st7 g7 => post _ h7 tk7 Ms2 T2 hv7 st7 g7) fun r s' hr => ?_) (wpAny_pyIter_listiter ⟨_, hg6, rfl, rfl⟩ (codeAny_mono (lp Ex _ rfl (fun h7 tk7 => Q (.ref D) { s with heap := h7, toks := tk7 }) fun h7 tk7 Ms2 T2 hv7 st7 g7 => post _ h7 tk7 Ms2 T2 hv7 st7 g7) fun r s' hr => ?_))
  · obtain ⟨m, hn, hr⟩ := hr
    refine ⟨m, hn, fun h7 hs7 => ?_⟩
    obtain ⟨rfl, e, q⟩ := hr h7 hs7
    rw [e]
    exact q
  · obtain ⟨m, hn, hr⟩ := hr
    refine ⟨m, hn, fun h7 hs7 => ?_⟩
    obtain ⟨rfl, e, q⟩ := hr h7 hs7
    rw [e]
    exact q
end
section
variable {c : Cx} {cs : Scope} {n W : Nat}

theorem st_bad {e : Expr} : ST c cs n W e .bad := fun _ h => nos h
theorem st_ite {t a b : Expr} {t' a' b' : E} {pos : Pos} (ht : ST c cs n W t t') (ha : ST c cs n W a a') (hb : ST c cs n W b b') : ST c cs n W (.IfExp t a b pos) (.ite t' a' b') := by
  intro A env h₀ L X ρ H Ms T s v H' Q Ex act e st post
  obtain ⟨t, H1, e1, e2⟩ := bnd2 ((t_ite _ _ _).symm.trans e)
  refine isTrue_IfExp (ht act e1 st fun h1 tk1 Ms1 T1 st1 g1 => ?_)
  cases t with
  | true => exact ha act (itt e2) st1 (post.at g1)
  | false => exact hb act (itf e2) st1 (post.at g1)

noncomputable def SB (c : Cx) (cs : Scope) (n W : Nat) (e : Expr) (e' : E) : Prop := SE c cs n W e e' ∧ ST c cs n W e e'
theorem sb_bad {e : Expr} : SB c cs n W e .bad := ⟨se_bad, st_bad⟩

theorem sb_of {e : Expr} {e' : E} (h : SE c cs n W e e') (he : ∀ env whole, isTrue e env whole = (do let v ← whole; standAt e.pos; holding [v] (truthy v)))
    (ht : ∀ ρ H, tst (run c.FT W n) e' ρ H = (ev (run c.FT W n) e' ρ H).bind ofV) : SB c cs n W e e' := ⟨h, st_plain h he ht⟩
theorem sb_name (S : Stat c) {x : Str} {pos : Pos} : SB c cs n W (.Name x pos) (nameE c.G cs x) := by
  refine ⟨se_name S, ?_⟩
  refine st_plain (se_name S) (fun _ _ => rfl) fun ρ H => ?_
  unfold nameE
  cases x == ("__debug__" : Str) with
  | true => rfl
  | false =>
    show tst (run c.FT W n) (nameK c.G cs x (cs.names.lookup x)) ρ H = (ev (run c.FT W n) (nameK c.G cs x (cs.names.lookup x)) ρ H).bind ofV
    cases cs.names.lookup x with
    | none => rfl
    | some k =>
      cases k with
      | «local» =>
        show tst (run c.FT W n) (match (lcs cs).findIdx? (· == x) with | some i => .loc i | Option.none => .bad) ρ H = (ev (run c.FT W n) (match (lcs cs).findIdx? (· == x) with | some i => .loc i | Option.none => .bad) ρ H).bind ofV
        cases (lcs cs).findIdx? (· == x) <;> rfl
      | globalImplicit =>
        show tst (run c.FT W n) (nameG (c.G.lookup x)) ρ H = (ev (run c.FT W n) (nameG (c.G.lookup x)) ρ H).bind ofV
        cases c.G.lookup x with
        | none => rfl
        | some g => cases g <;> rfl
      | _ => rfl

theorem ro_zero : RO c 0 W := by
  intro A cs env h₀ L X ρ H Ms T s f vs vals v H' Q Ex act e
  exact nos e

theorem isSlc_is {i : Expr} (h : isSlc i = true) : ∃ lo hi st p, i = .Slice lo hi st p := by
  cases i <;> first | exact ⟨_, _, _, _, rfl⟩ | exact Bool.noConfusion (show false = true from h)
theorem isName_is {i : Expr} (h : isName i = true) : ∃ x p, i = .Name x p := by
  cases i <;> first | exact ⟨_, _, rfl⟩ | exact Bool.noConfusion (show false = true from h)
section
variable {f : Expr → E} {a b : Expr} {p : Pos}
theorem sb_const {k : Const} {n' : Nat} : SB c cs n W (.Constant k n' p) (cConst k) := by
  cases k with
  | int i => exact ⟨se_int, st_plain se_int (fun _ _ => rfl) fun _ _ => rfl⟩
  | str s => exact ⟨se_str, st_plain se_str (fun _ _ => rfl) fun _ _ => rfl⟩
  | bool s => exact ⟨se_boolc, st_plain se_boolc (fun _ _ => rfl) fun _ _ => rfl⟩
  | none => exact ⟨se_none, st_plain se_none (fun _ _ => rfl) fun _ _ => rfl⟩
  | _ => exact sb_bad
theorem sb_binE {o : Operator} (ha : SE c cs n W a (f a)) (hb : SE c cs n W b (f b)) : SB c cs n W (.BinOp a o b p) (cBin o (f a) (f b)) := by
  unfold cBin
  cases h : opOf o with
  | none => exact sb_bad
  | some q => exact sb_of (se_bin h ha hb) (fun _ _ => rfl) fun _ _ => rfl
theorem sb_cmp (ih : ∀ x, SB c cs n W x (f x)) (os : List CmpOp) (rs : List Expr) : SB c cs n W (.Compare a os rs p) (cCmp f (f a) os rs) := by
  match os, rs with
  | [o], [r] =>
    show SB c cs n W _ (cCmp1 f (f a) o r)
    unfold cCmp1
    cases h : cpOf o with
    | none => exact sb_bad
    | some q =>
      cases hs : isSetD r with
      | true => exact sb_bad
      | false => exact ⟨se_cmp h hs (ih _).1 (ih _).1, st_cmp h hs (ih _).1 (ih _).1⟩
  | [o1, o2], [r1, r2] =>
    show SB c cs n W _ (cCmp2 f (f a) o1 o2 r1 r2)
    unfold cCmp2
    cases h1 : cpOf o1 with
    | none => exact sb_bad
    | some q1 =>
      cases h2 : cpOf o2 with
      | none => exact sb_bad
      | some q2 =>
        cases hs : isSetD r2 with
        | true => exact sb_bad
        | false => exact ⟨se_chain h1 h2 hs (ih _).1 (ih _).1 (ih _).1, st_chain h1 h2 hs (ih _).1 (ih _).1 (ih _).1⟩
  | [], _ => exact sb_bad
  | [_], [] => exact sb_bad
  | [_], _ :: _ :: _ => exact sb_bad
  | [_, _], [] => exact sb_bad
  | [_, _], [_] => exact sb_bad
  | [_, _], _ :: _ :: _ :: _ => exact sb_bad
  | _ :: _ :: _ :: _, _ => exact sb_bad
theorem sb_bool (ih : ∀ x, SB c cs n W x (f x)) (o : BoolOp) (es : List Expr) : SB c cs n W (.BoolOp o es p) (cBool f o p es) := by
  match es with
  | [] => exact sb_bad
  | [x] => exact ⟨se_one (ih _).1, st_one (ih _).2⟩
  | x :: y :: r =>
    cases o with
    | And => exact ⟨se_and (ih _).1 (ih _).1, st_and (ih _).2 (ih _).2⟩
    | Or => exact ⟨se_or (ih _).1 (ih _).1, st_or (ih _).2 (ih _).2⟩
theorem sb_un (ih : ∀ x, SB c cs n W x (f x)) (o : UnaryOp) : SB c cs n W (.UnaryOp o a p) (cUn (f a) o) := by
  cases o with
  | Not => exact ⟨se_not (ih _).1, st_not (ih _).2⟩
  | USub => exact sb_of (se_neg (ih _).1) (fun _ _ => rfl) fun _ _ => rfl
  | _ => exact sb_bad
theorem sb_sub (ih : ∀ x, SB c cs n W x (f x)) : SB c cs n W (.Subscript a b p) (cSub f a b) := by
  unfold cSub
  cases h : isSlc b with
  | false => exact sb_of (se_idx h (ih _).1 (ih _).1) (fun _ _ => rfl) fun _ _ => rfl
  | true =>
    obtain ⟨lo, hi, st, q, rfl⟩ := isSlc_is h
    show SB c cs n W _ (cSlice f a lo hi st)
    match lo, hi, st with
    | some _, some _, Option.none => exact sb_of (se_slcs (ih _).1 (ih _).1 (ih _).1) (fun _ _ => rfl) fun _ _ => rfl
    | some _, Option.none, Option.none => exact sb_of (se_slcf (ih _).1 (ih _).1) (fun _ _ => rfl) fun _ _ => rfl
    | Option.none, some hi, Option.none =>
      show SB c cs n W _ (if isName a = true then .slct (f a) (f hi) else .bad)
      cases hn : isName a with
      | false => exact sb_bad
      | true =>
        obtain ⟨x, q', rfl⟩ := isName_is hn
        exact sb_of (se_slct (ih _).1 (ih _).1) (fun _ _ => rfl) fun _ _ => rfl
    | Option.none, Option.none, Option.none => exact sb_bad
    | some _, some _, some _ => exact sb_bad
    | some _, Option.none, some _ => exact sb_bad
    | Option.none, some _, some _ => exact sb_bad
    | Option.none, Option.none, some _ => exact sb_bad
theorem sb_callN (S : Stat c) (R : RO c n W) (ih : ∀ x, SB c cs n W x (f x)) {g : Str} {q : Pos} (args : List Expr) : SB c cs n W (.Call (.Name g q) args [] p) (cCallN c.G c.bl cs f g args) := by
  match args with
  | [] => exact sb_bad
  | x :: r =>
    show SB c cs n W _ (if (x :: r).any isStar = true then .bad else _)
    cases hs : (x :: r).any isStar with
    | true => exact sb_bad
    | false =>
      show SB c cs n W _ (match fnOfName c.G cs g with | some n => .call n (esOf ((x :: r).map f)) | Option.none => if (isBlt c.bl cs g "len" && r.isEmpty) = true then .len (f x) else .bad)
      cases hg : fnOfName c.G cs g with
      | some k => exact sb_of (se_call S R hg hs (sl_of hs fun x _ => (ih x).1)) (fun _ _ => rfl) fun _ _ => rfl
      | none =>
        show SB c cs n W _ (if (isBlt c.bl cs g "len" && r.isEmpty) = true then .len (f x) else .bad)
        cases hf : isBlt c.bl cs g "len" with
        | false => exact sb_bad
        | true =>
          cases r with
          | nil => exact sb_of (se_len S hf (by rw [List.any_cons, List.any_nil, Bool.or_false] at hs; exact hs) (ih _).1) (fun _ _ => rfl) fun _ _ => rfl
          | cons _ _ => exact sb_bad
theorem sb_meth (ih : ∀ x, SB c cs n W x (f x)) {o : Expr} {name : Str} {apos : Pos} (hb : baseOk o = true) (args : List Expr) (hs : args.any isStar = false) (hl : (apos.endLine == p.line) = true) :
    SB c cs n W (.Call (.Attribute o name apos) args [] p) (cMeth f o name args) := by
  match args with
  | [] =>
    show SB c cs n W _ (if (name == ("pop" : Str)) = true then .pop (f o) else .bad)
    cases hn : name == ("pop" : Str) with
    | false => exact sb_bad
    | true =>
      obtain rfl := beq_iff_eq.mp hn
      exact sb_of (se_pop hb hl (ih _).1) (fun _ _ => rfl) fun _ _ => rfl
  | [x] =>
    rw [List.any_cons, List.any_nil, Bool.or_false] at hs
    show SB c cs n W _ (cM1 f o name x)
    unfold cM1
    cases hn : name == ("append" : Str) with
    | true =>
      obtain rfl := beq_iff_eq.mp hn
      exact sb_of (se_app hb hl hs (ih _).1 (ih _).1) (fun _ _ => rfl) fun _ _ => rfl
    | false =>
      cases hn : name == ("strip" : Str) with
      | true =>
        obtain rfl := beq_iff_eq.mp hn
        exact sb_of (se_strip hb hl hs (ih _).1 (ih _).1) (fun _ _ => rfl) fun _ _ => rfl
      | false =>
        cases hn : name == ("partition" : Str) with
        | true =>
          obtain rfl := beq_iff_eq.mp hn
          exact sb_of (se_part hb hl hs (ih _).1 (ih _).1) (fun _ _ => rfl) fun _ _ => rfl
        | false => exact sb_bad
  | [x, y] =>
    show SB c cs n W _ (if (name == ("get" : Str)) = true then .get (f o) (f x) (f y) else .bad)
    cases hn : name == ("get" : Str) with
    | false => exact sb_bad
    | true =>
      obtain rfl := beq_iff_eq.mp hn
      exact sb_of (se_get hb hl hs (ih _).1 (ih _).1 (ih _).1) (fun _ _ => rfl) fun _ _ => rfl
  | _ :: _ :: _ :: _ => exact sb_bad
theorem sb_call (S : Stat c) (R : RO c n W) (ih : ∀ x, SB c cs n W x (f x)) (args : List Expr) (fn : Expr) : SB c cs n W (.Call fn args [] p) (cCall c.G c.bl cs f args p fn) := by
  cases fn with
  | Name g q => exact sb_callN S R ih args
  | Attribute o name apos =>
    show SB c cs n W _ (if (baseOk o && !args.any isStar && apos.endLine == p.line) = true then cMeth f o name args else .bad)
    cases hb : baseOk o with
    | false => exact sb_bad
    | true =>
      cases hs : args.any isStar with
      | true => exact sb_bad
      | false =>
        cases hl : apos.endLine == p.line with
        | false => exact sb_bad
        | true => exact sb_meth ih hb args hs hl
  | _ => exact sb_bad
theorem sb_comp {sc : Scope} {fs : Expr → E} (ih : ∀ x, SB c cs n W x (f x)) (ih0 : ∀ x, SB c sc 0 W x (fs x)) {el : Expr} (gens : List Comprehension) : SB c cs n W (.ListComp el gens sc p) (cComp cs sc f fs el gens) := by
  match gens with
  | [] => exact sb_bad
  | _ :: _ :: _ => exact sb_bad
  | [⟨tg, it, ifs, k⟩] =>
    show SB c cs n W _ (if (k == 0) = true then cGen cs sc f fs el it ifs tg else .bad)
    cases hk : k == 0 with
    | false => exact sb_bad
    | true =>
      obtain rfl := beq_iff_eq.mp hk
      show SB c cs n W _ (cGen cs sc f fs el it ifs tg)
      cases tg with
      | Name x q =>
        show SB c cs n W _ (cComp1 cs sc f fs el it ifs x q)
        unfold cComp1
        cases hi : locOf sc (.Name x q) with
        | none => exact sb_bad
        | some i =>
          match ifs with
          | [] =>
            cases hc : compOk sc it with
            | false => exact sb_bad
            | true => exact sb_of (se_comp hc (ih _).1 (clo_one (ih0 _).1 ctst_nil hi)) (fun _ _ => rfl) fun _ _ => rfl
          | [t] =>
            cases hc : compOk sc it with
            | false => exact sb_bad
            | true => exact sb_of (se_comp hc (ih _).1 (clo_one (ih0 _).1 (ctst_one (ih0 _).2) hi)) (fun _ _ => rfl) fun _ _ => rfl
          | _ :: _ :: _ => exact sb_bad
      | Tuple ts kk q =>
        show SB c cs n W _ (cComp2 cs sc f fs el it ts ifs)
        match ifs with
        | _ :: _ => exact sb_bad
        | [] =>
          show SB c cs n W _ (match locsOf sc ts with | some is => if compOk sc it = true then .comp (lcs sc).length is true (f it) (fs el) (.lit (.bool true)) else .bad | Option.none => .bad)
          cases hi : locsOf sc ts with
          | none => exact sb_bad
          | some is =>
            cases hc : compOk sc it with
            | false => exact sb_bad
            | true => exact sb_of (se_comp hc (ih _).1 (clo_tup (ih0 _).1 hi)) (fun _ _ => rfl) fun _ _ => rfl
      | _ => exact sb_bad
theorem disp_ok {k : Es → E} {es : List Expr} {P : E → Prop} (h0 : P .bad) (h : es.any isStar = false → es.length ≤ 100 → P (k (esOf (es.map f)))) : P (cDisp f k es) := by
  unfold cDisp
  cases hs : es.any isStar with
  | true => exact h0
  | false =>
    cases hd : decide (100 < es.length) with
    | true => exact h0
    | false => exact h hs (Nat.not_lt.mp (of_decide_eq_false hd))
end
theorem cE_all (S : Stat c) : ∀ (k : Nat) (cs : Scope) (n : Nat), RO c n W → ∀ (e : Expr), SB c cs n W e (cE c.G c.bl k cs e) := by
  intro k
  induction k with
  | zero => intro cs n R e; exact sb_bad
  | succ k ih' =>
    intro cs n R e
    have ih := ih' cs n R
    cases e with
    | Constant k n' p => exact sb_const
    | Name x p => exact sb_name S
    | BinOp l o r p => exact sb_binE (ih _).1 (ih _).1
    | Compare l os rs p => exact sb_cmp ih os rs
    | BoolOp o es p => exact sb_bool ih o es
    | UnaryOp o a p => exact sb_un ih o
    | IfExp t a b p => exact ⟨se_ite (ih _).2 (ih _).1 (ih _).1, st_ite (ih _).2 (ih _).2 (ih _).2⟩
    | Subscript v i p => exact sb_sub ih
    | Call fn args kws p =>
      cases kws with
      | nil => exact sb_call S R ih args fn
      | cons _ _ => exact sb_bad
    | ListComp el gens sc p => exact sb_comp ih (ih' sc 0 ro_zero) gens
    | Tuple es kk p =>
      exact disp_ok (P := SB c cs n W (.Tuple es kk p)) sb_bad fun hs hz => sb_of (se_tup (sl_of hs fun x _ => (ih x).1) fun ρ H vs H' e => by rw [evs_len e]; exact hz) (fun _ _ => rfl) fun _ _ => rfl
    | List es p =>
      exact disp_ok (P := SB c cs n W (.List es p)) sb_bad fun hs hz => sb_of (se_lst (sl_of hs fun x _ => (ih x).1) fun ρ H vs H' e => by rw [evs_len e]; exact hz) (fun _ _ => rfl) fun _ _ => rfl
    | _ => exact sb_bad

theorem cE_ok (S : Stat c) (R : RO c n W) (k : Nat) (e : Expr) : SB c cs n W e (cE c.G c.bl k cs e) := cE_all S k cs n R e
end
noncomputable def FR (c : Cx) (Ms T : Led) : Out → Flow → Prop
  | .next, f => f = .next
  | .brk, f => f = .brk
  | .cont, f => f = .cont
  | .ret v, f => ∃ x, f = .ret x ∧ VRC c Ms T v x

noncomputable def PostS (c : Cx) (h₀ : Heap) (L : Addr) (cs : Scope) (X : Led) (ρ' : Loc) (H' : Hp) (Ms T : Led) (s : Shared) (o : Out) (Q : Flow → Shared → Prop) : Prop :=
  ∀ f h' tk Ms' T', FR c Ms' T' o f → StC c h₀ L cs X ρ' H' Ms' T' h' → GrC Ms T Ms' T' → Q f { s with heap := h', toks := tk }

noncomputable def SS (c : Cx) (cs : Scope) (n W : Nat) (st : Stmt) (st' : S) : Prop :=
  ∀ {A : Around} {env : Env} {h₀ : Heap} {L : Addr} {X : Led} {ρ : Loc} {H : Hp} {Ms T : Led} {s : Shared} {o : Out} {ρ' : Loc} {H' : Hp} {Q : Flow → Shared → Prop} {Ex : Value → Shared → Prop},
    Act c n A cs env h₀ L → ex (run c.FT W n) W st' ρ H = some (o, ρ', H') → StC c h₀ L cs X ρ H Ms T s.heap → PostS c h₀ L cs X ρ' H' Ms T s o Q →
    wpAny (model c.prog c.w) A (exec st env) Q Ex s
noncomputable def SSs (c : Cx) (cs : Scope) (n W : Nat) (sts : List Stmt) (st' : Ss) : Prop :=
  ∀ {A : Around} {env : Env} {h₀ : Heap} {L : Addr} {X : Led} {ρ : Loc} {H : Hp} {Ms T : Led} {s : Shared} {o : Out} {ρ' : Loc} {H' : Hp} {Q : Flow → Shared → Prop} {Ex : Value → Shared → Prop},
    Act c n A cs env h₀ L → exs (run c.FT W n) W st' ρ H = some (o, ρ', H') → StC c h₀ L cs X ρ H Ms T s.heap → PostS c h₀ L cs X ρ' H' Ms T s o Q →
    wpAny (model c.prog c.w) A (execs sts env) Q Ex s

section
variable {c : Cx} {cs : Scope} {n W : Nat}

theorem PostS.at {h₀ : Heap} {L : Addr} {X : Led} {ρ : Loc} {H' : Hp} {Ms T Ms1 T1 : Led} {s : Shared} {o : Out} {Q : Flow → Shared → Prop} {h : Heap} {tk : Nat} (g : GrC Ms T Ms1 T1) (p : PostS c h₀ L cs X ρ H' Ms T s o Q) :
    PostS c h₀ L cs X ρ H' Ms1 T1 { s with heap := h, toks := tk } o Q := fun f h' tk' Ms' T' a b g' => p f h' tk' Ms' T' a b (g.trans g')

theorem ss_bad {st : Stmt} : SS c cs n W st .bad := fun _ h => nos h
theorem ss_pass {pos : Pos} : SS c cs n W (.Pass pos) .pass := by
  intro A env h₀ L X ρ H Ms T s o ρ' H' Q Ex act e st post
  obtain ⟨rfl, rfl, rfl⟩ := so3 e
  exact wpAny_Pass (post .next s.heap s.toks _ _ rfl st (Gr.refl _ _))
theorem ss_brk {pos : Pos} : SS c cs n W (.Break pos) .brk := by
  intro A env h₀ L X ρ H Ms T s o ρ' H' Q Ex act e st post
  obtain ⟨rfl, rfl, rfl⟩ := so3 e
  exact wpAny_Break (post .brk s.heap s.toks _ _ rfl st (Gr.refl _ _))
theorem ss_cont {pos : Pos} : SS c cs n W (.Continue pos) .cont := by
  intro A env h₀ L X ρ H Ms T s o ρ' H' Q Ex act e st post
  obtain ⟨rfl, rfl, rfl⟩ := so3 e
  exact wpAny_Continue (post .cont s.heap s.toks _ _ rfl st (Gr.refl _ _))

theorem ss_nil : SSs c cs n W [] .nil := by
  intro A env h₀ L X ρ H Ms T s o ρ' H' Q Ex act e st post
  obtain ⟨rfl, rfl, rfl⟩ := so3 e
  exact wpAny_execs_nil (post .next s.heap s.toks _ _ rfl st (Gr.refl _ _))
theorem ss_cons {st : Stmt} {r : List Stmt} {st' : S} {r' : Ss} (h1 : SS c cs n W st st') (h2 : SSs c cs n W r r') : SSs c cs n W (st :: r) (.cons st' r') := by
  intro A env h₀ L X ρ H Ms T s o ρ' H' Q Ex act e st post
  obtain ⟨o1, ρ1, H1, e1, e2⟩ := i_exs e
  refine wpAny_execs_cons (h1 act e1 st fun f h' tk Ms1 T1 hf st1 g1 => ?_)
  rcases e2 with ⟨rfl, e2⟩ | ⟨hn, rfl, rfl, rfl⟩
  · obtain rfl : f = .next := hf
    exact h2 act e2 st1 (post.at g1)
  · cases o with
    | next => exact absurd rfl hn
    | brk => obtain rfl : f = .brk := hf; exact post .brk h' tk _ _ rfl st1 g1
    | cont => obtain rfl : f = .cont := hf; exact post .cont h' tk _ _ rfl st1 g1
    | ret v => obtain ⟨x, rfl, hx⟩ := hf; exact post (.ret x) h' tk _ _ ⟨x, rfl, hx⟩ st1 g1
theorem ss_of {l : List Stmt} {f : Stmt → S} (h : ∀ st ∈ l, SS c cs n W st (f st)) : SSs c cs n W l (ssOf (l.map f)) := by
  induction l with
  | nil => exact ss_nil
  | cons st r ih => exact ss_cons (h st (.head _)) (ih fun x hx => h x (.tail _ hx))

theorem swaps_no {v : Expr} {t : Option Expr} {l : Nat} {env : Env} (h : isCompD v = false) : swapsWith v t l env = pure false := by
  cases v <;> first | rfl | cases h

theorem ss_asg {x : Str} {p pos : Pos} {v : Expr} {v' : E} {i : Nat} (hi : locOf cs (.Name x p) = some i) (hc : isCompD v = false) (hv : SE c cs n W v v') : SS c cs n W (.Assign [.Name x p] v pos) (.asg i v') := by
  intro A env h₀ L X ρ H Ms T s o ρ' H' Q Ex act e st post
  obtain ⟨v1, e1, rfl, rfl⟩ := j_asg e
  refine wpAny_Assign_Name (hv act e1 st fun val h' tk Ms1 T1 vv st1 g1 => ?_) (swaps_no hc)
  exact sto_ok act hi vv st1 fun h2 tk2 st2 => post .next h2 tk2 _ _ rfl st2 g1

theorem ss_ret {e : Expr} {e' : E} {pos : Pos} (h : SE c cs n W e e') : SS c cs n W (.Return (some e) pos) (.ret e') := by
  intro A env h₀ L X ρ H Ms T s o ρ' H' Q Ex act e st post
  obtain ⟨v1, e1, rfl, rfl⟩ := j_ret e
  exact wpAny_Return_some (h act e1 st fun val h' tk Ms1 T1 vv st1 g1 => post _ h' tk _ _ ⟨val, rfl, vv⟩ st1 g1)

theorem not_interactive {env : Env} {L : Addr} (e : EnvOk env cs L) (h : cs.kind = .function) : interactive env = false := by
  unfold interactive
  rw [e.sc, h]
  rfl
theorem is_func {env : Env} {L : Addr} (e : EnvOk env cs L) (h : cs.kind = .function) : env.blockKind = .function := by
  unfold Env.blockKind
  rw [e.sc, h]
  rfl
theorem kind_is {env : Env} {L : Addr} {x : Str} (e : EnvOk env cs L) : env.kindOf x = cs.names.lookup x := by
  unfold Env.kindOf
  rw [e.sc]

theorem ss_ex {e : Expr} {e' : E} {pos : Pos} (hc : isCompD e = false) (h : SE c cs n W e e') : SS c cs n W (.Expr e pos) (.ex e') := by
  intro A env h₀ L X ρ H Ms T s o ρ' H' Q Ex act e st post
  obtain ⟨e1, rfl, rfl⟩ := j_ex e
  have hk := act.kind
  refine wpAny_Expr (h act e1 st fun val h' tk Ms1 T1 vv st1 g1 => ?_) (not_interactive act.envE hk) (swaps_no hc)
  rw [vv.i_none]
  exact post .next h' tk _ _ rfl st1 g1

theorem ss_ite {t : Expr} {t' : E} {a b : List Stmt} {a' b' : Ss} {pos : Pos} (ht : ST c cs n W t t') (ha : SSs c cs n W a a') (hb : SSs c cs n W b b') : SS c cs n W (.If t a b pos) (.ite t' a' b') := by
  intro A env h₀ L X ρ H Ms T s o ρ' H' Q Ex act e st post
  obtain ⟨u, H1, e1, e2⟩ := j_ite e
  refine wpAny_If (ht act e1 st fun h1 tk1 Ms1 T1 st1 g1 => ?_)
  rcases e2 with ⟨rfl, e2⟩ | ⟨rfl, e2⟩
  · exact ha act e2 st1 (post.at g1)
  · exact hb act e2 st1 (post.at g1)

inductive WInv (c : Cx) (cs : Scope) (h₀ : Heap) (L : Addr) (X : Led) (tf : Loc → Hp → Option (Bool × Hp)) (bf : Loc → Hp → Rs) (o : Out) (ρ' : Loc) (H' : Hp) (Ms T : Led) (s : Shared) (k : Nat) (s' : Shared) : Prop where
  | mk (ρ1 : Loc) (H1 : Hp) (Ms1 T1 : Led) (h1 : Heap) (tk1 : Nat) (hs : s' = { s with heap := h1, toks := tk1 }) (e : wloop tf bf k ρ1 H1 = some (o, ρ', H')) (st : StC c h₀ L cs X ρ1 H1 Ms1 T1 h1) (g : GrC Ms T Ms1 T1)
theorem ss_whl {t : Expr} {t' : E} {b : List Stmt} {b' : Ss} {pos : Pos} (ht : ST c cs n W t t') (hb : SSs c cs n W b b') : SS c cs n W (.While t b [] pos) (.whl t' b') := by
  intro A env h₀ L X ρ H Ms T s o ρ' H' Q Ex act e st post
  refine wpAny_While (codeAny_whileLoop (WInv c cs h₀ L X (tst (run c.FT W n) t') (exs (run c.FT W n) W b') o ρ' H' Ms T s) ?_ W ⟨ρ, H, Ms, T, s.heap, s.toks, rfl, e, st, Gr.refl _ _⟩)
  rintro k s' ⟨ρ1, H1, Ms1, T1, h1, tk1, rfl, e1, st1, g1⟩
  cases k with
  | zero => exact nos e1
  | succ k =>
    obtain ⟨u, H2, e2, e3⟩ := bnd2 (x := tst (run c.FT W n) t' ρ1 H1) e1
    refine ht act e2 st1 fun h2 tk2 Ms2 T2 st2 g2 => ?_
    cases u with
    | false =>
      obtain ⟨rfl, rfl, rfl⟩ := so3 (itf e3)
      exact wpAny_execs_nil (post .next h2 tk2 _ _ rfl st2 (g1.trans g2))
    | true =>
      obtain ⟨o3, ρ3, H3, e4, e5⟩ := bnd3 (itt e3)
      refine hb act e4 st2 fun f h3 tk3 Ms3 T3 hf st3 g3 => ?_
      have g := (g1.trans g2).trans g3
      rcases i_lp e5 with ⟨rfl | rfl, e5⟩ | ⟨rfl, rfl, ⟨rfl, rfl⟩ | ⟨v, rfl, rfl⟩⟩
      · obtain rfl : f = .next := hf
        exact ⟨k, Nat.lt_succ_self _, ρ3, H3, Ms3, T3, h3, tk3, rfl, e5, st3, g⟩
      · obtain rfl : f = .cont := hf
        exact ⟨k, Nat.lt_succ_self _, ρ3, H3, Ms3, T3, h3, tk3, rfl, e5, st3, g⟩
      · obtain rfl : f = .brk := hf
        exact post .next h3 tk3 _ _ rfl st3 g
      · obtain ⟨x, rfl, hx⟩ := hf
        exact post (.ret x) h3 tk3 _ _ ⟨x, rfl, hx⟩ st3 g
end
section
variable {c : Cx} {cs : Scope} {n W : Nat}

theorem sole_no {t v : Expr} {l : Nat} {env : Env} (h : isCompD v = false) : swapsWithSole [t] v l env = pure false := swaps_no h
theorem stores_no {ts : List Expr} {k : Nat} {p : Pos} {v : Expr} {env : Env} (h : isTupD v = false) : swappedStores [.Tuple ts k p] v env = pure none := by
  cases v <;> first | rfl | cases h

theorem ss_asgT {ts : List Expr} {k : Nat} {p pos : Pos} {v : Expr} {v' : E} {is : List Nat} (hi : locsOf cs ts = some is) (hc : isCompD v = false) (hw : ∀ env : Env, env.blockKind = .function → swappedStores [.Tuple ts k p] v env = pure none) (hv : SE c cs n W v v') :
    SS c cs n W (.Assign [.Tuple ts k p] v pos) (.asgT is v') := by
  intro A env h₀ L X ρ H Ms T s o ρ' H' Q Ex act e st post
  obtain ⟨v1, H1, e1, e2⟩ := bnd2 (x := ev (run c.FT W n) v' ρ H) e
  have hb : env.blockKind = .function := is_func act.envE act.kind
  refine Assign_Tuple (hv act e1 st fun val h' tk Ms1 T1 vv st1 g1 => ?_) (sole_no hc) (hw _ hb)
  obtain ⟨l1, l2, l3⟩ := each_names (env := env) hi
  obtain ⟨rfl, rfl, ⟨vs, rfl, h1⟩ | ⟨r, vs, rfl, hl, h1⟩⟩ := i_asgV e2
  · obtain ⟨a, vals, k', rfl, hs, hr⟩ := vv.i_tup
    obtain ⟨m, F, N, back⟩ := st1.go
    have it : IsTup h' a vals.toArray := ⟨_, st1.std act.kb hs, rfl, _, rfl⟩
    refine assign_Tuple_tuple act.hh it (by rw [l1, setAll_len h1, hr.length, List.size_toArray]) l2 fun h2 he => ?_
    exact aio_ok act hi hr h1 (back h2 (F.extBut he (Nat.le_refl _)) (N.extBut he (Nat.le_refl _))) fun h3 tk3 st3 => post .next h3 tk3 _ _ rfl st3 g1
  · obtain ⟨a, rfl, ha⟩ := vv.i_ref
    obtain ⟨vals, k', hm, hr, hg⟩ := st1.cell ha hl
    obtain ⟨m, F, N, back⟩ := st1.go
    refine kun_list F N ⟨_, hg, rfl, _, rfl⟩ act.hh (by rw [l1, setAll_len h1, hr.length, List.size_toArray]) l2 fun h2 F' N' => ?_
    exact aio_ok act hi hr h1 (back h2 F' N') fun h3 tk3 st3 => post .next h3 tk3 _ _ rfl st3 g1

theorem stores_yes {x y : Str} {p q p2 p3 : Pos} {k k2 : Nat} {vs : List Expr} {env : Env} (hb : env.blockKind = .function) (hx : env.kindOf x = some .local) (hy : env.kindOf y = some .local) (h : swapOk [.Name x p, .Name y q] vs = true) :
    swappedStores [.Tuple [.Name x p, .Name y q] k p2] (.Tuple vs k2 p3) env = pure (some [x, y]) := by
  obtain ⟨h, h67⟩ := Bool.and_eq_true_iff.mp h
  obtain ⟨h, h5⟩ := Bool.and_eq_true_iff.mp h
  obtain ⟨h, h4⟩ := Bool.and_eq_true_iff.mp h
  obtain ⟨h, h3⟩ := Bool.and_eq_true_iff.mp h
  obtain ⟨_, h2⟩ := Bool.and_eq_true_iff.mp h
  have h2 := beq_iff_eq.mp h2
  rw [Bool.not_eq_true'] at h3 h4 h5
  have h67 : (!(x == y) && q.line == p.line) = true := h67
  obtain ⟨h6, h7⟩ := Bool.and_eq_true_iff.mp h67
  have h6 : ¬ x = y := fun e => by rw [e, beq_self_eq_true] at h6; exact Bool.noConfusion h6
  have h7 := beq_iff_eq.mp h7
  have hxy : ([x, y].eraseDups.length != 2) = false := by
    have : (y == x) = false := by simpa using fun e => h6 e.symm
    simp [List.eraseDups_cons, this]
  have hn : ([Expr.Name x p, .Name y q].filterMap fun e => match e with
    | .Name id pos => if (env.kindOf id == some .local && pos.line == p.line) = true then some id else none
    | _ => none) = [x, y] := by
    simp only [List.filterMap_cons, hx, hy, h7, beq_self_eq_true, Bool.and_self, if_true, List.filterMap_nil]
  refine (if_neg ?_).trans ((if_neg ?_).trans ((if_neg ?_).trans ((if_neg ?_).trans ((if_neg ?_).trans ?_))))
  · show ¬ ((!(2 == 2 || 2 == 3) || vs.length != 2 || env.blockKind != .function) = true)
    rw [h2, hb]
    decide
  · exact Bool.eq_false_iff.mp h3
  · show ¬ ((([Expr.Name x p, .Name y q].filterMap fun e => match e with
      | .Name id pos => if (env.kindOf id == some .local && pos.line == p.line) = true then some id else none
      | _ => none).length != 2 || ([Expr.Name x p, .Name y q].filterMap fun e => match e with
      | .Name id pos => if (env.kindOf id == some .local && pos.line == p.line) = true then some id else none
      | _ => none).eraseDups.length != ([Expr.Name x p, .Name y q].filterMap fun e => match e with
      | .Name id pos => if (env.kindOf id == some .local && pos.line == p.line) = true then some id else none
      | _ => none).length) = true)
    rw [hn]
    have hxy : ([x, y].eraseDups.length != [x, y].length) = false := hxy
    rw [hxy]
    exact fun h => Bool.noConfusion (show false = true from h)
  · exact Bool.eq_false_iff.mp h4
  · exact Bool.eq_false_iff.mp h5
  · exact congrArg (fun z => pure (some z)) hn

theorem two_of {α : Type} {i j : Nat} {ws : List α} (h : [i, j].length = ws.length) : ∃ a b, ws = [a, b] := match ws, h with | [a, b], _ => ⟨a, b, rfl⟩
theorem ss_asgR {x y : Str} {p q p2 p3 pos : Pos} {k k2 : Nat} {vs : List Expr} {v' : E} {is : List Nat} (hi : locsOf cs [.Name x p, .Name y q] = some is) (hw : swapOk [.Name x p, .Name y q] vs = true) (hv : SE c cs n W (.Tuple vs k2 p3) v') :
    SS c cs n W (.Assign [.Tuple [.Name x p, .Name y q] k p2] (.Tuple vs k2 p3) pos) (.asgR is v') := by
  intro A env h₀ L X ρ H Ms T s o ρ' H' Q Ex act e st post
  obtain ⟨v1, H1, e1, e2⟩ := bnd2 (x := ev (run c.FT W n) v' ρ H) e
  obtain ⟨i, hi1, hi⟩ := bnd1 (x := locOf cs (.Name x p)) hi
  obtain ⟨js, hj, rfl⟩ := omm hi
  obtain ⟨j, hj1, hj⟩ := bnd1 (x := locOf cs (.Name y q)) hj
  obtain ⟨_, hj2, rfl⟩ := omm hj
  obtain rfl := so1 hj2
  have hb : env.blockKind = .function := is_func act.envE act.kind
  have hkx' : env.kindOf x = some .local := (kind_is act.envE).trans (loc_inv hi1).1
  have hky' : env.kindOf y = some .local := (kind_is act.envE).trans (loc_inv hj1).1
  refine Assign_Tuple_swapped (names := [x, y]) (hv act e1 st fun val h' tk Ms1 T1 vv st1 g1 => ?_) (sole_no rfl) (stores_yes hb hkx' hky' hw)
  obtain ⟨rfl, rfl, ws, rfl, h1⟩ := i_asgRV e2
  obtain ⟨a, vals, k', rfl, hs, hr⟩ := vv.i_tup
  have hl := setAll_len h1
  rw [List.length_reverse, List.length_reverse] at hl
  obtain ⟨w1, w2, rfl⟩ := two_of hl
  obtain ⟨b1, _, rfl, r1, hr⟩ := hr.i_cons
  obtain ⟨b2, _, rfl, r2, hr⟩ := hr.i_cons
  obtain rfl := hr.i_nil
  obtain rfl := so1 h1
  obtain ⟨m, F, N, back⟩ := st1.go
  have it : IsTup h' a [b1, b2].toArray := ⟨_, st1.std act.kb hs, rfl, _, rfl⟩
  refine unpackItemsN_ F N it act.hh rfl fun h2 F' N' => ?_
  show wpAny _ _ (do holding [b1] (bindName env y b2); assignInOrder [fun v => bindName env x v] [b1]) _ _ _
  refine wpAny_bind (wpAny_holding (wpAny_bindName (sto_ok act hj1 r2 (back h2 F' N') fun h3 tk3 st3 => ?_)))
  show wpAny _ _ (do holding [] (bindName env x b1); assignInOrder [] []) _ _ _
  refine wpAny_bind (wpAny_holding (wpAny_bindName (sto_ok act hi1 r1 st3 fun h4 tk4 st4 => ?_)))
  exact wpAny_pure (post .next h4 tk4 _ _ rfl st4 g1)
end
section
variable {c : Cx} {cs : Scope} {n W : Nat}

theorem setL_is : ∀ {l : List Value} {k : Nat} {v : Value}, k < l.length → ki_setL l k v = some (l.set k v)
  | [], _, _, h => absurd h (Nat.not_lt_zero _)
  | _ :: _, 0, _, _ => rfl
  | x :: r, k + 1, v, h => by
    show ki_setL (x :: r) (k + 1) v = _
    unfold ki_setL
    rw [setL_is (Nat.lt_of_succ_lt_succ h)]
    rfl

theorem setI_ok {A : Around} {env : Env} {h₀ : Heap} {L : Addr} {X : Led} {ρ : Loc} {H : Hp} {Ms T : Led} {s : Shared} {r : Nat} {l : List V} {k : Int} {t : Tok} {x val : Value} {v : V} {Q : Unit → Shared → Prop} {Ex : Value → Shared → Prop}
    (st : StC c h₀ L cs X ρ H Ms T s.heap) (hx : VRC c Ms T (.ref r) x) (hl : H[r]? = some l) (hk : 0 ≤ k ∧ k < l.length) (hz : l.length ≤ lim) (hv : VRC c Ms T v val)
    (post : ∀ h' tk Ms', StC c h₀ L cs X ρ (H.set r (l.set k.toNat v)) Ms' T h' → Ms'.map (·.1) = Ms.map (·.1) → Q () { s with heap := h', toks := tk }) :
    wpAny (model c.prog c.w) A (setItem x (.int k t) val) Q Ex s := by
  obtain ⟨a1, vals, k', rfl, hm, hr, hg⟩ := list_base st hx hl
  obtain ⟨m, F, hloc⟩ := st.fr
  have hlt : k.toNat < vals.length := by rw [← hr.length]; omega
  have U := upd_at (o' := PySem.W.listOf (vals.set k.toNat val).toArray k') hm st.ce.nodup st.off
  refine ki_set F st.nw hk.1 (by rw [lim_eq] at hz; omega) (by simpa using setL_is hlt) U fun h' F' N' => ?_
  exact post h' s.toks _ (St.upd st hm hloc F' N' (hr.set hv)) (map_set hm)

theorem setN_ok {A : Around} {env : Env} {h₀ : Heap} {L : Addr} {X : Led} {ρ : Loc} {H : Hp} {Ms T : Led} {s : Shared} {r : Nat} {l : List V} {t : Tok} {x val : Value} {v : V} {Q : Unit → Shared → Prop} {Ex : Value → Shared → Prop}
    (st : StC c h₀ L cs X ρ H Ms T s.heap) (hx : VRC c Ms T (.ref r) x) (hl : H[r]? = some l) (h0 : 0 < l.length) (hv : VRC c Ms T v val)
    (post : ∀ h' tk Ms', StC c h₀ L cs X ρ (H.set r (l.set (l.length - 1) v)) Ms' T h' → Ms'.map (·.1) = Ms.map (·.1) → Q () { s with heap := h', toks := tk }) :
    wpAny (model c.prog c.w) A (setItem x (.int (-1) t) val) Q Ex s := by
  obtain ⟨a1, vals, k', rfl, hm, hr, hg⟩ := list_base st hx hl
  obtain ⟨m, F, hloc⟩ := st.fr
  have hlt : l.length - 1 < vals.length := by rw [← hr.length]; omega
  have U := upd_at (o' := PySem.W.listOf (vals.set (l.length - 1) val).toArray k') hm st.ce.nodup st.off
  refine ki_setNeg (j := l.length - 1) F st.nw (by decide) (by decide) ?_ (by simpa using setL_is hlt) U fun h' F' N' => ?_
  · rw [List.size_toArray, ← hr.length]
    unfold seqIndex?
    simp only [show ((-1 : Int) < 0) = True from by simp, if_true]
    have a1 : (0 : Int) ≤ -1 + (l.length : Nat) := by omega
    have a2 : -1 + ((l.length : Nat) : Int) < (l.length : Nat) := by omega
    rw [if_pos (by simp [a1, a2])]
    congr 1
    omega
  · exact post h' s.toks _ (St.upd st hm hloc F' N' (hr.set hv)) (map_set hm)

theorem ss_set {a i v : Expr} {a' i' v' : E} {p pos : Pos} (hc : isCompD v = false) (hv : SE c cs n W v v') (ha : SE c cs n W a a') (hi : SE c cs n W i i') : SS c cs n W (.Assign [.Subscript a i p] v pos) (.set a' i' v') := by
  intro A env h₀ L X ρ H Ms T s o ρ' H' Q Ex act e st post
  obtain ⟨w, H1, e1, e⟩ := bnd2 (x := ev (run c.FT W n) v' ρ H) e
  obtain ⟨x, H2, e2, e⟩ := bnd2 e
  obtain ⟨k, H3, e3, e4⟩ := bnd2 e
  refine wpAny_Assign_Subscript (hv act e1 st fun val1 h1 tk1 Ms1 T1 v1 st1 g1 => ha act e2 st1 fun val2 h2 tk2 Ms2 T2 v2 st2 g2 => hi act e3 st2 fun val3 h3 tk3 Ms3 T3 v3 st3 g3 => ?_) (swaps_no hc)
  have v1' := v1.mono (g2.trans g3)
  have v2' := v2.mono g3
  obtain ⟨rfl, rfl, r, kk, l, rfl, rfl, hl, ⟨hk, rfl⟩ | ⟨⟨rfl, hk0, hz⟩, rfl⟩⟩ := i_setV e4
  · obtain ⟨_, rfl⟩ := v3.i_int
    exact setI_ok (env := env) st3 v2' hl ⟨hk.1, hk.2.1⟩ hk.2.2 v1' fun h' tk Ms' st' hm => post .next h' tk Ms' T3 rfl st' (by rw [GrC, hm]; exact (g1.trans g2).trans g3)
  · obtain ⟨_, rfl⟩ := v3.i_int
    exact setN_ok (env := env) st3 v2' hl hk0 v1' fun h' tk Ms' st' hm => post .next h' tk Ms' T3 rfl st' (by rw [GrC, hm]; exact (g1.trans g2).trans g3)

theorem inp_ok {A : Around} {h₀ : Heap} {L : Addr} {X : Led} {ρ : Loc} {H : Hp} {Ms T : Led} {s : Shared} {op : Operator} {p : Op2} {a b v : V} {x y : Value} {H' : Hp} {Q Ex : Value → Shared → Prop}
    (st : StC c h₀ L cs X ρ H Ms T s.heap) (hp : augOf op = some p) (e : bin2 p a b H = some (v, H')) (ha : (∃ i, a = .int i) ∨ ∃ s, a = .str s) (va : VRC c Ms T a x) (vb : VRC c Ms T b y)
    (hq : ∀ val tk, VRC c Ms T v val → H' = H → Q val { s with toks := tk }) : wpAny (model c.prog c.w) A (inplaceOp op x y) Q Ex s := by
  cases op with
  | Add =>
    obtain rfl := so1 hp
    rcases b_add e with ⟨_, _, rfl, rfl, rfl, rfl⟩ | ⟨_, _, rfl, rfl, hz, rfl, rfl⟩ | ⟨l1, h1, l2, h2, hl, rfl, rfl⟩
    · obtain ⟨_, rfl⟩ := va.i_int
      obtain ⟨_, rfl⟩ := vb.i_int
      exact wpAny_iadd_int (hq _ _ (.int _ _) rfl)
    · obtain ⟨_, rfl⟩ := va.i_str
      obtain ⟨_, rfl⟩ := vb.i_str
      refine iadd_str (fun t' tk => ?_) (by rw [toS_len, toS_len]; exact lim_line hz)
      rw [toS_app]
      exact hq _ _ (.str _ _) rfl
    · rcases ha with ⟨_, rfl⟩ | ⟨_, rfl⟩
      · exact nos h1
      · exact nos h1
  | Sub =>
    obtain rfl := so1 hp
    obtain ⟨_, _, rfl, rfl, rfl, rfl⟩ := b_sub e
    obtain ⟨_, rfl⟩ := va.i_int
    obtain ⟨_, rfl⟩ := vb.i_int
    exact isub_int (hq _ _ (.int _ _) rfl)
  | _ => exact nos hp

theorem ss_augN {x : Str} {p pos : Pos} {op : Operator} {o2 : Op2} {v : Expr} {v' : E} {i : Nat} (hi : locOf cs (.Name x p) = some i) (hp : augOf op = some o2) (hv : SE c cs n W v v') : SS c cs n W (.AugAssign (.Name x p) op v pos) (.augN i o2 v') := by
  intro A env h₀ L X ρ H Ms T s o ρ' H' Q Ex act e st post
  obtain ⟨u, h1, w, H1, e1, z, e2, rfl, rfl⟩ := j_augN e
  obtain ⟨e2, hu⟩ := i_augV e2
  obtain ⟨hk, hf⟩ := loc_inv hi
  refine wpAny_AugAssign_Name ?_
  obtain ⟨m, F, hloc⟩ := st.fr
  obtain ⟨y, val, h2, h3, h4⟩ := hloc _ _ h1
  obtain rfl := so1 ((idx_of_find hf).symm.trans h2)
  have ld : ∀ {Q : Value → Shared → Prop}, Q val s → wpAny (model c.prog c.w) A (loadName env x) Q Ex s := fun h => act.envE.ldn act.kind F h3 hk h
  refine ld (hv act e1 st fun val2 h2 tk2 Ms2 T2 v2 st2 g2 => ?_)
  refine inp_ok st2 hp e2 hu (h4.mono g2) v2 fun val3 tk3 v3 hH => ?_
  subst hH
  exact sto_ok act hi v3 st2 fun h4 tk4 st4 => post .next h4 tk4 _ _ rfl st4 g2

theorem aug_store {i : Expr} {ov iv new : Value} (h : isSlc i = false) : augStore i ov iv new = (do holding [new, ov, iv] (setItem ov iv new); release [new, ov, iv] []; pure .next) := by
  cases i <;> first | rfl | cases h

theorem lt_big {i : Int} {k : Nat} (h : i < k ∧ k ≤ lim) : i < 2 ^ 63 := by have := h.1; have := h.2; rw [lim_eq] at this; omega
theorem ss_augS {a i v : Expr} {a' i' v' : E} {op : Operator} {o2 : Op2} {p pos : Pos} (hs : isSlc i = false) (hp : augOf op = some o2) (ha : SE c cs n W a a') (hi : SE c cs n W i i') (hv : SE c cs n W v v') :
    SS c cs n W (.AugAssign (.Subscript a i p) op v pos) (.augS a' i' o2 v') := by
  intro A env h₀ L X ρ H Ms T s o ρ' H' Q Ex act e st post
  obtain ⟨x, H1, e1, e⟩ := bnd2 (x := ev (run c.FT W n) a' ρ H) e
  obtain ⟨k, H2, e2, e3⟩ := bnd2 e
  refine wpAny_AugAssign_Subscript_any (ha act e1 st fun val1 h1 tk1 Ms1 T1 v1 st1 g1 => hi act e2 st1 fun val2 h2 tk2 Ms2 T2 v2 st2 g2 => ?_) (fun _ _ _ => aug_store hs)
  have v1' := v1.mono g2
  obtain ⟨r, kk, l, rfl, rfl, hl, hk, j, hu, w, H3, e5, z, H4, e6, l', hl', hk2, rfl, rfl, rfl⟩ := i_aug1 e3
  obtain ⟨_, rfl⟩ := v2.i_int
  obtain ⟨a1, vals, k', rfl, hm, hr, hg⟩ := list_base st2 v1' hl
  obtain ⟨y, hy, vy⟩ := hr.get hu
  refine getItem_listL (x := y) ⟨_, hg, rfl, _, rfl⟩ hk.1 (lt_big hk.2) hy ?_
  refine hv act e5 st2 fun val3 h3 tk3 Ms3 T3 v3 st3 g3 => ?_
  refine inp_ok st3 hp e6 (.inl ⟨_, rfl⟩) (vy.mono g3) v3 fun val4 tk4 v4 hH => ?_
  subst hH
  exact setI_ok (env := env) st3 (v1'.mono g3) hl' ⟨hk.1, hk2.1⟩ hk2.2 v4 fun h' tk Ms' st' hm => post .next h' tk Ms' T3 rfl st' (by rw [GrC, hm]; exact (g1.trans g2).trans g3)
end
section
variable {c : Cx} {cs : Scope} {n W : Nat}

inductive FInv (c : Cx) (cs : Scope) (h₀ : Heap) (L I : Addr) (X : Led) (lf : List V → Loc → Hp → Rs) (vs : List V) (SI : Nat → Heap → Prop) (o : Out) (ρ' : Loc) (H' : Hp) (Ms T : Led) (s : Shared) (k : Nat) (s' : Shared) : Prop where
  | mk (j : Nat) (ρ1 : Loc) (H1 : Hp) (Ms1 T1 : Led) (h1 : Heap) (tk1 : Nat) (hs : s' = { s with heap := h1, toks := tk1 }) (hj : j ≤ vs.length) (hk : k = vs.length + 1 - j) (e : lf (vs.drop j) ρ1 H1 = some (o, ρ', H'))
    (st : StC c h₀ L cs X ρ1 H1 Ms1 T1 h1) (hf : ∀ p ∈ Ms1 ++ (T1 ++ X), p.1 ≠ I) (hS : SI j h1) (g : GrC Ms T Ms1 T1)
inductive RInv (c : Cx) (cs : Scope) (h₀ : Heap) (L I a : Addr) (X : Led) (lf : Nat → Nat → Loc → Hp → Rs) (o : Out) (ρ' : Loc) (H' : Hp) (Ms T : Led) (s : Shared) (k : Nat) (s' : Shared) : Prop where
  | mk (j : Nat) (ρ1 : Loc) (H1 : Hp) (Ms1 T1 : Led) (h1 : Heap) (tk1 : Nat) (hs : s' = { s with heap := h1, toks := tk1 }) (e : lf k j ρ1 H1 = some (o, ρ', H'))
    (st : StC c h₀ L cs X ρ1 H1 Ms1 T1 h1) (hf : ∀ p ∈ Ms1 ++ (T1 ++ X), p.1 ≠ I) (hi : h1.IsListIter I a j) (g : GrC Ms T Ms1 T1)
theorem dropX_off {Ms4 T4 X : Led} {I : Addr} (hd : ∀ p ∈ Ms4 ++ T4, p.1 ≠ I) (fX : ∀ p ∈ X, p.1 ≠ I) : ∀ p ∈ Ms4 ++ (T4 ++ X), p.1 ≠ I := fun p hp => by
  rw [← List.append_assoc] at hp
  rcases List.mem_append.mp hp with hp | hp
  · exact hd p hp
  · exact fX p hp
theorem appX {Ms T X : Led} {I : Addr} (hf : ∀ p ∈ Ms ++ (T ++ X), p.1 ≠ I) : ∀ p ∈ X, p.1 ≠ I := fun p hp => hf p (List.mem_append_right _ (List.mem_append_right _ hp))
theorem floop_ok {A : Around} {env : Env} {h₀ : Heap} {L I : Addr} {X : Led} {ρ : Loc} {H : Hp} {Ms T : Led} {s : Shared} {o : Out} {ρ' : Loc} {H' : Hp} {Q : Flow → Shared → Prop} {R : Result → Shared → Prop}
    {x : Str} {p : Pos} {i : Nat} {b : List Stmt} {b' : Ss} {P : Nat → Value → Prop} {SI : Nat → Heap → Prop} {vs : List V}
    (act : Act c n A cs env h₀ L) (hi : locOf cs (.Name x p) = some i) (hb : SSs c cs n W b b') (Wk : Walks c.prog c.w A I [I] [I] vs.length P SI)
    (hP : ∀ k v, k < vs.length → P k v → ∃ w, vs[k]? = some w ∧ ∀ ads T, VR c.K c.w.params c.hb ads T w v) (hIo : ∀ k h, SI k h → ∃ o, h.get? I = some o)
    (e : floop i (exs (run c.FT W n) W b') vs ρ H = some (o, ρ', H')) (st : StC c h₀ L cs X ρ H Ms T s.heap) (hS : SI 0 s.heap) (hf : ∀ p ∈ Ms ++ (T ++ X), p.1 ≠ I) (hIL : I ≠ L) (h0 : h₀.get? I = none)
    (post : PostS c h₀ L cs X ρ' H' Ms T s o Q) (hR : ∀ f s', Q f s' → R (.ok f) s') : codeAny (model c.prog c.w) A (.forLoop (.Name x p) (.ref I) b [] env) R s := by
  have fX := appX hf
  refine codeAny_forLoop (FInv c cs h₀ L I X (floop i (exs (run c.FT W n) W b')) vs SI o ρ' H' Ms T s) ?_ (vs.length + 1) ⟨0, ρ, H, Ms, T, s.heap, s.toks, rfl, Nat.zero_le _, rfl, e, st, hf, hS, Gr.refl _ _⟩
  rintro k s' ⟨j, ρ1, H1, Ms1, T1, h1, tk1, rfl, hj, rfl, e1, st1, hf1, hS1, g1⟩
  by_cases hlt : j < vs.length
  · refine Wk.item j _ _ _ hlt hS1 fun v h2 tk2 hPv hS2 hk2 => ?_
    obtain ⟨w, hw, hv⟩ := hP j v hlt hPv
    have hd : vs.drop j = w :: vs.drop (j + 1) := by
      rw [List.drop_eq_getElem_cons hlt]
      have : vs[j] = w := by rw [List.getElem?_eq_getElem hlt] at hw; exact Option.some.inj hw
      rw [this]
    rw [hd] at e1
    obtain ⟨o3, ρ3, H3, e2, e3⟩ := bnd3 (x := exs (run c.FT W n) W b' (ρ1.set i (some w)) H1) e1
    obtain ⟨oI, hoI⟩ := hIo _ _ hS2
    have st2 := (st1.but hk2 hf1 hIL h0).addX hf1 hoI hIL h0
    refine PySem.wpAny_assign_Name (sto_ok act hi (hv _ _) st2 fun h3 tk3 st3 => ?_)
    refine hb act e2 st3 fun f h4 tk4 Ms4 T4 hf4 st4 g4 => ?_
    obtain ⟨st5, hd5, hg5⟩ := st4.dropX
    have hf5 := dropX_off hd5 fX
    have hS5 : SI (j + 1) h4 := Wk.frame _ _ _ hS2 fun b hb o ho => by
      rw [List.mem_singleton.mp hb] at ho ⊢
      rw [hoI] at ho
      cases ho
      exact hg5
    have g5 := g1.trans g4
    rcases i_lp e3 with ⟨ho, e3⟩ | ⟨rfl, rfl, ⟨rfl, rfl⟩ | ⟨v, rfl, rfl⟩⟩
    · have K : FInv c cs h₀ L I X (floop i (exs (run c.FT W n) W b')) vs SI o ρ' H' Ms T s (vs.length + 1 - (j + 1)) { s with heap := h4, toks := tk4 } := ⟨j + 1, ρ3, H3, Ms4, T4, h4, tk4, rfl, hlt, rfl, e3, st5, hf5, hS5, g5⟩
      have hlt' : vs.length + 1 - (j + 1) < vs.length + 1 - j := by omega
      rcases ho with rfl | rfl
      · obtain rfl : f = .next := hf4
        exact ⟨_, hlt', K⟩
      · obtain rfl : f = .cont := hf4
        exact ⟨_, hlt', K⟩
    · obtain rfl : f = .brk := hf4
      exact hR _ _ (post .next h4 tk4 _ _ rfl st5 g5)
    · obtain ⟨y, rfl, hy⟩ := hf4
      exact hR _ _ (post (.ret y) h4 tk4 _ _ ⟨y, rfl, hy⟩ st5 g5)
  · have hjn : j = vs.length := by omega
    subst hjn
    refine Wk.done _ _ _ hS1 fun h2 tk2 hk2 => wpAny_execs_nil (hR _ _ ?_)
    rw [List.drop_length] at e1
    obtain ⟨rfl, rfl, rfl⟩ := so3 e1
    exact post .next h2 tk2 _ _ rfl (st1.but hk2 hf1 hIL h0) g1

theorem rloop_ok {A : Around} {env : Env} {h₀ : Heap} {L I a : Addr} {X : Led} {ρ : Loc} {H : Hp} {Ms T : Led} {s : Shared} {o : Out} {ρ' : Loc} {H' : Hp} {Q : Flow → Shared → Prop} {R : Result → Shared → Prop}
    {x : Str} {p : Pos} {i r : Nat} {b : List Stmt} {b' : Ss} {F : Nat}
    (act : Act c n A cs env h₀ L) (hi : locOf cs (.Name x p) = some i) (hb : SSs c cs n W b b') (ha : (Ms.map (·.1))[r]? = some a)
    (e : rloop i r (exs (run c.FT W n) W b') F 0 ρ H = some (o, ρ', H')) (st : StC c h₀ L cs X ρ H Ms T s.heap) (hS : s.heap.IsListIter I a 0) (hf : ∀ p ∈ Ms ++ (T ++ X), p.1 ≠ I) (hIL : I ≠ L) (h0 : h₀.get? I = none)
    (post : PostS c h₀ L cs X ρ' H' Ms T s o Q) (hR : ∀ f s', Q f s' → R (.ok f) s') : codeAny (model c.prog c.w) A (.forLoop (.Name x p) (.ref I) b [] env) R s := by
  have fX := appX hf
  refine codeAny_forLoop (RInv c cs h₀ L I a X (rloop i r (exs (run c.FT W n) W b')) o ρ' H' Ms T s) ?_ F ⟨0, ρ, H, Ms, T, s.heap, s.toks, rfl, e, st, hf, hS, Gr.refl _ _⟩
  rintro k s' ⟨j, ρ1, H1, Ms1, T1, h1, tk1, rfl, e1, st1, hf1, hS1, g1⟩
  cases k with
  | zero => exact nos e1
  | succ k =>
    obtain ⟨l, hl, e2⟩ := bnd1 (x := H1[r]?) e1
    obtain ⟨vals, n', hm, hr, hg⟩ := st1.cell (g1.a _ _ ha) hl
    have hL1 : h1.IsList a vals.toArray := ⟨_, hg, rfl, _, rfl⟩
    cases hv : l[j]? with
    | none =>
      rw [hv] at e2
      obtain ⟨rfl, rfl, rfl⟩ := so3 e2
      exact wpAny_pyNext_list_end act.hh hS1 hL1 (get_none hr.length hv) fun h2 he2 => wpAny_execs_nil (hR _ _ (post .next h2 tk1 _ _ rfl (st1.but (fun b o hb e => he2 b o (not_one hb) e) hf1 hIL h0) g1))
    | some w =>
      rw [hv] at e2
      obtain ⟨o3, ρ3, H3, e3, e4⟩ := bnd3 (x := exs (run c.FT W n) W b' (ρ1.set i (some w)) H1) e2
      obtain ⟨y, hy, vy⟩ := hr.get hv
      refine wpAny_pyNext_list_item hS1 hL1 (x := y) (List.getElem?_toArray.trans hy) fun h2 hS2 hs2 => ?_
      obtain ⟨oI, hoI, hoI2⟩ := id hS2
      have st2 := (st1.but (fun b o hb e => hs2.extBut b o (not_one hb) e) hf1 hIL h0).addX hf1 hoI hIL h0
      refine PySem.wpAny_assign_Name (sto_ok act hi vy st2 fun h3 tk3 st3 => ?_)
      refine hb act e3 st3 fun f h4 tk4 Ms4 T4 hf4 st4 g4 => ?_
      obtain ⟨st5, hd5, hg5⟩ := st4.dropX
      have hf5 := dropX_off hd5 fX
      have g5 := g1.trans g4
      rcases i_lp e4 with ⟨ho, e4⟩ | ⟨rfl, rfl, ⟨rfl, rfl⟩ | ⟨v, rfl, rfl⟩⟩
      · have K : RInv c cs h₀ L I a X (rloop i r (exs (run c.FT W n) W b')) o ρ' H' Ms T s k { s with heap := h4, toks := tk4 } := ⟨j + 1, ρ3, H3, Ms4, T4, h4, tk4, rfl, e4, st5, hf5, ⟨oI, hg5, hoI2⟩, g5⟩
        rcases ho with rfl | rfl
        · obtain rfl : f = .next := hf4
          exact ⟨k, Nat.lt_succ_self _, K⟩
        · obtain rfl : f = .cont := hf4
          exact ⟨k, Nat.lt_succ_self _, K⟩
      · obtain rfl : f = .brk := hf4
        exact hR _ _ (post .next h4 tk4 _ _ rfl st5 g5)
      · obtain ⟨y, rfl, hy⟩ := hf4
        exact hR _ _ (post (.ret y) h4 tk4 _ _ ⟨y, rfl, hy⟩ st5 g5)
end
section
variable {c : Cx} {cs : Scope} {n W : Nat}

theorem i_forR {i : Nat} {b : Loc → Hp → Rs} {ρ : Loc} {v : V} {H : Hp} {r : Out × Loc × Hp} (h : forRX i b ρ v H = some r) : ∃ n, v = .int n ∧ (0 ≤ n ∧ n ≤ lim) ∧ floop i b ((List.range n.toNat).map fun (k : Nat) => V.int (k : Int)) ρ H = some r := by
  cases v with
  | int n => obtain ⟨hp, h⟩ := ifs h; exact ⟨n, rfl, hp, h⟩
  | _ => exact nos h
theorem i_forE {W i : Nat} {b : Loc → Hp → Rs} {ρ : Loc} {v : V} {H : Hp} {r : Out × Loc × Hp} (h : forX W i b ρ v H = some r) : (∃ l, v = .str l ∧ floop i b (l.map fun c => .str [c]) ρ H = some r) ∨ ∃ k, v = .ref k ∧ rloop i k b W 0 ρ H = some r := by
  cases v with
  | str l => obtain ⟨hp, h⟩ := ifs h; exact .inl ⟨l, rfl, h⟩
  | ref k => exact .inr ⟨k, rfl, h⟩
  | _ => exact nos h
theorem ss_forR (S : Stat c) {x f : Str} {p q rp pos : Pos} {a : Expr} {a' : E} {i : Nat} {b : List Stmt} {b' : Ss} (hi : locOf cs (.Name x p) = some i) (hf : isBlt c.bl cs f "range" = true) (hs : isStar a = false) (ha : SE c cs n W a a') (hb : SSs c cs n W b b') :
    SS c cs n W (.For (.Name x p) (.Call (.Name f q) [a] [] rp) b [] pos) (.forR i a' b') := by
  intro A env h₀ L X ρ H Ms T s o ρ' H' Q Ex act e st post
  obtain ⟨v, H1, e1, e2⟩ := bnd2 (x := ev (run c.FT W n) a' ρ H) e
  obtain ⟨rfl, hd, hm, hk⟩ := blt_inv hf
  obtain ⟨h1, h2⟩ := S.blt _ hm
  refine wpAny_For ?_ (fun _ => rfl)
  have nm : ∀ {Q : Value → Shared → Prop}, Q (.type "range") s → wpAny (model c.prog c.w) A (eval (.Name "range" q) env) Q Ex s := fun h => by
    obtain ⟨m, F, hloc⟩ := st.fr
    exact act.envE.bn (v := .type "range") act.kind F act.X (topRead_of act.T) h1 (by boot_fast) h2 hk hd h
  refine Call_ (nm ?_) rfl
  rw [star_ne hs]
  refine PySem.callWith_type rfl (Calls.evalArgs_plain (Calls.spliced_cons (ha act e1 st fun val1 h1 tk1 Ms1 T1 v1 st1 g1 => Calls.spliced_nil ?_)))
  obtain ⟨N, rfl, hN, e2⟩ := i_forR e2
  obtain ⟨tN, rfl⟩ := v1.i_int
  · have hlo : -(2 ^ 62 : Int) ≤ N := by omega
    · refine call_range_1 ?_
      refine wpAny_pyIter_range (IsRange.new ..) (small_one (by decide) (by decide) hlo (by have := hN.2; rw [lim_eq] at this; omega)) ?_
      have hsz : Builtin.Range.rangeSize 0 N 1 = (N.toNat : Int) := by rw [rangeSize_one]; split <;> omega
      have hl : ((List.range N.toNat).map fun (k : Nat) => V.int (k : Int)).length = N.toNat := by simp
      refine floop_ok (vs := (List.range N.toNat).map fun (k : Nat) => V.int (k : Int)) (P := fun i v => ∃ t, v = .int (0 + i * 1) t) (SI := fun i h => IsRangeIter h _ (0 + (i : Nat) * 1) ((N.toNat : Int) - (i : Nat)) 1) (Q := Q) act hi hb (by rw [hl]; exact Walks.range act.hh _ 0 1 N.toNat) (fun k v hk hv => ?_) (fun k h hI => ⟨_, hI⟩) e2 ((st1.push _).push _) ?_ ?_ ?_ ?_ (post.at g1) (fun _ _ h => h)
      · obtain ⟨t, rfl⟩ := hv
        rw [hl] at hk
        refine ⟨.int k, by simp [hk], fun ads T => ?_⟩
        have : (0 + (k : Int) * 1) = (k : Int) := by omega
        rw [this]
        exact .int _ _
      · have e1 : (0 + ((0 : Nat) : Int) * 1) = 0 := by simp
        have e2 : ((N.toNat : Int) - ((0 : Nat) : Int)) = Builtin.Range.rangeSize 0 N 1 := by rw [hsz]; simp
        rw [e1, e2]
        exact Heap.get?_push_size _ rfl
      · exact ((st1.push _).new (Nat.le_refl _)).1
      · exact ((st1.push _).new (Nat.le_refl _)).2.1
      · exact ((st1.push _).new (Nat.le_refl _)).2.2

theorem ss_forE (S : Stat c) {x y : Str} {p q pos : Pos} {a' : E} {i : Nat} {b : List Stmt} {b' : Ss} (hi : locOf cs (.Name x p) = some i) (ha : SE c cs n W (.Name y q) a') (hb : SSs c cs n W b b') :
    SS c cs n W (.For (.Name x p) (.Name y q) b [] pos) (.forE i a' b') := by
  intro A env h₀ L X ρ H Ms T s o ρ' H' Q Ex act e st post
  obtain ⟨v, H1, e1, e2⟩ := bnd2 (x := ev (run c.FT W n) a' ρ H) e
  refine wpAny_For (ha act e1 st fun val1 h1 tk1 Ms1 T1 v1 st1 g1 => ?_) (fun _ => rfl)
  rcases i_forE e2 with ⟨l, rfl, e2⟩ | ⟨r, rfl, e2⟩
  · obtain ⟨t, rfl⟩ := v1.i_str
    · have hl : (l.map fun c => V.str [c]).length = (toS l).cps.size := by simp [toS]
      have hP : ∀ k v, k < (l.map fun c => V.str [c]).length → SignAt (toS l) k v → ∃ w, (l.map fun c => V.str [c])[k]? = some w ∧ ∀ ads T, VR c.K c.w.params c.hb ads T w v := fun k v hk hv => by
        obtain ⟨cc, u, hc, rfl⟩ := hv
        have hc' : l[k]? = some cc := by simpa [toS] using hc
        exact ⟨.str [cc], by simp [hc'], fun ads T => .str [cc] u⟩
      have n1 := st1.new (Nat.le_refl _)
      cases hasc : (toS l).cps.all (· < 128)
      · refine wpAny_pyIter_wide hasc ?_
        exact floop_ok (vs := l.map fun c => V.str [c]) (SI := fun i h => h.IsStrIter h1.objs.size "str_iterator" (toS l) t i) (Q := Q) act hi hb (by rw [hl]; exact Walks.strWide act.hh _ (toS l) t) hP (fun k h hI => let ⟨o, ho, _⟩ := hI; ⟨o, ho⟩) e2 (st1.push _) ⟨_, Heap.get?_push_size _ rfl, rfl, rfl⟩ n1.1 n1.2.1 n1.2.2 (post.at g1) (fun _ _ h => h)
      · refine wpAny_pyIter_ascii hasc ?_
        exact floop_ok (vs := l.map fun c => V.str [c]) (SI := fun i h => h.IsStrIter h1.objs.size "str_ascii_iterator" (toS l) t i) (Q := Q) act hi hb (by rw [hl]; exact Walks.strAscii act.hh _ (toS l) t) hP (fun k h hI => let ⟨o, ho, _⟩ := hI; ⟨o, ho⟩) e2 (st1.push _) ⟨_, Heap.get?_push_size _ rfl, rfl, rfl⟩ n1.1 n1.2.1 n1.2.2 (post.at g1) (fun _ _ h => h)
  · obtain ⟨a, rfl, ha1⟩ := v1.i_ref
    have n1 := st1.new (Nat.le_refl _)
    have hr : r < H1.length := by
      have := (List.getElem?_eq_some_iff.mp ha1).1
      rw [← st1.ce.len]; simpa using this
    obtain ⟨vals, k', hm, hr', hg⟩ := st1.cell ha1 (List.getElem?_eq_getElem hr)
    refine wpAny_pyIter_list (items := vals.toArray) ⟨_, hg, rfl, _, rfl⟩ ?_
    exact rloop_ok (Q := Q) act hi hb ha1 e2 (st1.push _) ⟨_, Heap.get?_push_size _ rfl, rfl, rfl⟩ n1.1 n1.2.1 n1.2.2 (post.at g1) (fun _ _ h => h)
end
section
variable {c : Cx} {cs : Scope} {n W : Nat}

theorem stores_four {ts vs : List Expr} {k k2 : Nat} {p q : Pos} {env : Env} (h : ts.length = 4) : swappedStores [.Tuple ts k p] (.Tuple vs k2 q) env = pure none := by
  unfold swappedStores
  simp [h]

theorem swap_nm {ts vs : List Expr} (h : swapOk ts vs = true) : nm2 ts = true := (Bool.and_eq_true_iff.mp h).2
theorem nm2_is {ts : List Expr} (h : nm2 ts = true) : ∃ a b, ts = [a, b] ∧ nmOk a b = true := match ts, h with
  | [a, b], h => ⟨a, b, rfl, h⟩
theorem nmOk_is {a b : Expr} (h : nmOk a b = true) : ∃ x p y q, a = .Name x p ∧ b = .Name y q ∧ (!(x == y) && q.line == p.line) = true := by
  cases ha : isName a with
  | true =>
    obtain ⟨x, p, rfl⟩ := isName_is ha
    cases hb : isName b with
    | true =>
      obtain ⟨y, q, rfl⟩ := isName_is hb
      exact ⟨x, p, y, q, rfl, rfl, h⟩
    | false => cases b <;> first | exact Bool.noConfusion (show false = true from h) | exact Bool.noConfusion (show true = false from hb)
  | false => cases a <;> first | exact Bool.noConfusion (show false = true from h) | exact Bool.noConfusion (show true = false from ha)
theorem isTup_is {v : Expr} (h : isTupD v = true) : ∃ vs k q, v = .Tuple vs k q := by
  cases v <;> first | exact ⟨_, _, _, rfl⟩ | exact Bool.noConfusion (show false = true from h)
section
variable {f : Expr → E} {v : Expr} {pos : Pos}
theorem ss_asgs (E : ∀ e, SE c cs n W e (f e)) (ts : List Expr) : SS c cs n W (.Assign ts v pos) (cAsgs cs f v ts) := by
  match ts with
  | [] => exact @ss_bad _ _ _ _ _
  | _ :: _ :: _ => exact @ss_bad _ _ _ _ _
  | [t] =>
    show SS c cs n W _ (cAsg cs f v t)
    cases t with
    | Name x p =>
      show SS c cs n W _ (cAsgN cs f v (.Name x p))
      unfold cAsgN
      cases hc : isCompD v with
      | true => exact @ss_bad _ _ _ _ _
      | false =>
        cases hi : locOf cs (.Name x p) with
        | none => exact @ss_bad _ _ _ _ _
        | some i => exact ss_asg hi hc (E _)
    | Tuple ts k p =>
      show SS c cs n W _ (cAsgT cs f v ts)
      unfold cAsgT
      cases hi : locsOf cs ts with
      | none => exact @ss_bad _ _ _ _ _
      | some is =>
        cases ht : isTupD v with
        | true =>
          obtain ⟨vs, k2, q, rfl⟩ := isTup_is ht
          show SS c cs n W _ (if swapOk ts vs = true then .asgR is (f (.Tuple vs k2 q)) else if (ts.length == 4) = true then .asgT is (f (.Tuple vs k2 q)) else .bad)
          cases hw : swapOk ts vs with
          | true =>
            obtain ⟨a, b, rfl, h⟩ := nm2_is (swap_nm hw)
            obtain ⟨x, p1, y, q1, rfl, rfl, _⟩ := nmOk_is h
            exact ss_asgR hi hw (E _)
          | false =>
            cases h4 : ts.length == 4 with
            | true => exact ss_asgT hi rfl (fun env _ => stores_four (beq_iff_eq.mp h4)) (E _)
            | false => exact @ss_bad _ _ _ _ _
        | false =>
          cases hc : isCompD v with
          | true => exact @ss_bad _ _ _ _ _
          | false => exact ss_asgT hi hc (fun env _ => stores_no ht) (E _)
    | Subscript a i p =>
      show SS c cs n W _ (if (isCompD v || isSlc i) = true then .bad else .set (f a) (f i) (f v))
      cases hc : isCompD v with
      | true => exact @ss_bad _ _ _ _ _
      | false =>
        cases hs : isSlc i with
        | true => exact @ss_bad _ _ _ _ _
        | false => exact ss_set hc (E _) (E _) (E _)
    | _ => exact @ss_bad _ _ _ _ _
theorem ss_aug (E : ∀ e, SE c cs n W e (f e)) {t : Expr} {o : Operator} : SS c cs n W (.AugAssign t o v pos) (cAugO cs f v t o) := by
  unfold cAugO
  cases hp : augOf o with
  | none => exact @ss_bad _ _ _ _ _
  | some p =>
    show SS c cs n W _ (cAug cs f v p t)
    cases t with
    | Name x q =>
      show SS c cs n W _ (cAugN cs f v (.Name x q) p)
      unfold cAugN
      cases hi : locOf cs (.Name x q) with
      | none => exact @ss_bad _ _ _ _ _
      | some i => exact ss_augN hi hp (E _)
    | Subscript a i q =>
      show SS c cs n W _ (if isSlc i = true then .bad else .augS (f a) (f i) p (f v))
      cases hs : isSlc i with
      | true => exact @ss_bad _ _ _ _ _
      | false => exact ss_augS hs hp (E _) (E _) (E _)
    | _ => exact @ss_bad _ _ _ _ _
theorem ss_for (S : Stat c) (E : ∀ e, SE c cs n W e (f e)) {t it : Expr} {b : List Stmt} {b' : Ss} (hb : SSs c cs n W b b') : SS c cs n W (.For t it b [] pos) (cFor c.bl cs f it b' t) := by
  cases t with
  | Name x p =>
    show SS c cs n W _ (cForT c.bl cs f it b' (.Name x p))
    unfold cForT
    cases hi : locOf cs (.Name x p) with
    | none => exact @ss_bad _ _ _ _ _
    | some i =>
      show SS c cs n W _ (cIter c.bl cs f i b' it)
      cases it with
      | Name y q => exact ss_forE S hi (E _) hb
      | Call g args kws q =>
        cases kws with
        | cons _ _ => exact @ss_bad _ _ _ _ _
        | nil =>
          show SS c cs n W _ (cRange c.bl cs f i b' g args)
          cases g with
          | Name g' q' =>
            match args with
            | [] => exact @ss_bad _ _ _ _ _
            | _ :: _ :: _ => exact @ss_bad _ _ _ _ _
            | [a] =>
              show SS c cs n W _ (if (isBlt c.bl cs g' "range" && !isStar a) = true then .forR i (f a) b' else .bad)
              cases hf : isBlt c.bl cs g' "range" with
              | false => exact @ss_bad _ _ _ _ _
              | true =>
                cases hs : isStar a with
                | true => exact @ss_bad _ _ _ _ _
                | false => exact ss_forR S hi hf hs (E _) hb
          | _ => exact @ss_bad _ _ _ _ _
      | _ => exact @ss_bad _ _ _ _ _
  | _ => exact @ss_bad _ _ _ _ _
end
theorem cS_ok (S : Stat c) (R : RO c n W) : ∀ (k : Nat) (st : Stmt), SS c cs n W st (cS c.G c.bl cs k st) ∧ True := by
  intro k
  induction k with
  | zero => intro st; exact ⟨ss_bad, trivial⟩
  | succ k ih =>
    intro st
    have E : ∀ e, SE c cs n W e (cE c.G c.bl 40 cs e) := fun e => (cE_ok (cs := cs) S R 40 e).1
    have Tt : ∀ e, ST c cs n W e (cE c.G c.bl 40 cs e) := fun e => (cE_ok (cs := cs) S R 40 e).2
    have B : ∀ l : List Stmt, SSs c cs n W l (ssOf (l.map (cS c.G c.bl cs k))) := fun l => ss_of fun x _ => (ih x).1
    refine ⟨?_, trivial⟩
    cases st with
    | Assign ts v pos => exact ss_asgs E ts
    | AugAssign t o v pos => exact ss_aug E
    | If t a b pos => exact ss_ite (Tt _) (B _) (B _)
    | While t b el pos =>
      cases el with
      | nil => exact ss_whl (Tt _) (B _)
      | cons _ _ => exact @ss_bad _ _ _ _ _
    | For t it b el pos =>
      cases el with
      | nil => exact ss_for S E (B _)
      | cons _ _ => exact @ss_bad _ _ _ _ _
    | Return e pos =>
      cases e with
      | none => exact @ss_bad _ _ _ _ _
      | some e => exact ss_ret (E _)
    | Expr e pos =>
      show SS c cs n W _ (if isCompD e = true then .bad else .ex (cE c.G c.bl 40 cs e))
      cases hc : isCompD e with
      | true => exact @ss_bad _ _ _ _ _
      | false => exact ss_ex hc (E _)
    | Pass pos => exact ss_pass
    | Break pos => exact ss_brk
    | Continue pos => exact ss_cont
    | _ => exact @ss_bad _ _ _ _ _

structure Good (c : Cx) (f : Nat) (d : Df) : Prop where
  ex : ∃ (name qual : Str) (params : Arguments) (body : List Stmt) (scope : Scope) (dV kV doc pm : Value) (an : Option Addr) (cdv ct oc : Value) (od : Option Addr) (osl : Array (Option Value)) (names : List Str),
    c.K.lookup f = some ⟨oc, od, .func (fnOf name qual params body scope dV kV doc pm an cdv ct), osl⟩ ∧ codeIn c.K cdv qual = true ∧
    scope.kind = .function ∧ scope.isCoroutine = false ∧ scope.isGenerator = false ∧ (∀ x ∈ scope.names, x.2 ≠ .cell) ∧ (lcs scope).Nodup ∧
    names.length = d.ps ∧ (∀ vals : List Value, vals.length = d.ps → bindArgs (fnOf name qual params body scope dV kV doc pm an cdv ct) ⟨vals, []⟩ = pure (names.zip vals)) ∧
    (lcs scope).take d.ps = names ∧ (∀ y ∈ names, scope.names.lookup y = some .local) ∧ d.body = ssOf (body.map (cS c.G c.bl scope 40))

theorem zip_look : ∀ {names : List Str} {vals : List Value} {i : Nat} {x : Str} {v : Value}, names.Nodup → names[i]? = some x → vals[i]? = some v → (names.zip vals).reverse.lookup x = some v
  | [], _, _, _, _, _, h, _ => by simp at h
  | _ :: _, [], _, _, _, _, _, h => by simp at h
  | y :: names, w :: vals, 0, x, v, hn, h1, h2 => by
    simp only [List.getElem?_cons_zero, Option.some.injEq] at h1 h2
    subst h1 h2
    simp only [List.zip_cons_cons, List.reverse_cons, List.lookup_append]
    have : (names.zip vals).reverse.lookup y = none := by
      rw [List.lookup_eq_none_iff]
      intro p hp
      have hp' : p ∈ names.zip vals := by simpa using hp
      have := (List.of_mem_zip (a := p.1) (b := p.2) hp').1
      rw [List.nodup_cons] at hn
      have hne : y ≠ p.1 := fun e => hn.1 (by rw [e]; exact this)
      simpa using hne
    rw [this]
    simp
  | y :: names, w :: vals, i + 1, x, v, hn, h1, h2 => by
    rw [List.nodup_cons] at hn
    simp only [List.zip_cons_cons, List.reverse_cons, List.lookup_append]
    rw [zip_look hn.2 (by simpa using h1) (by simpa using h2)]
    rfl

theorem ro_ok (S : Stat c) (G : ∀ f d, c.FT f = some d → Good c f d) (W : Nat) : ∀ n, RO c n W := by
  intro n
  induction n with
  | zero => intro A cs env h₀ L X ρ H Ms T s f vs vals v H' Q Ex act e; exact nos e
  | succ n ih =>
    intro A cs env h₀ L X ρ H Ms T s f vs vals v H' Q Ex act e hv st post
    obtain ⟨d, hd, e1⟩ := bnd1 (x := c.FT f) e
    · obtain ⟨hlen, e1⟩ := ifs e1
      obtain ⟨o, ρ2, H2, e2, e3⟩ := bnd3 e1
      obtain ⟨name, qual, params, body, scope, dV, kV, doc, pm, an, cdv, ct, oc, od, osl, names, g1, g2, g3, g4, g5, g6, g7, g8, g9, g10, g11, g12⟩ := (G f d hd).ex
      obtain ⟨hfr, A₀, outer, B, hA⟩ := act.bel (Nat.zero_lt_succ _)
      obtain ⟨m, F, hloc⟩ := st.fr
      have hvl : vals.length = d.ps := by rw [← hv.length, hlen]
      have hke : env.scope.kind = .function := by rw [act.envE.sc]; exact act.kind
      refine wpAny_call (code_def B F act.X st.nw act.T hA hfr hke g1 g2 (by have := act.dep; omega) (BindsTo.of_eq (g9 vals hvl)) (fun y hy => ?_) (fun g L' h₁ FG F' N' B' X' T' => ?_) g4 g5 g3 g6)
      · obtain ⟨y1, y2⟩ := y
        exact g11 _ (List.of_mem_zip hy).1
      · have act' : Act c n (A.deeper (envOf qual scope L' f cdv)) scope (envOf qual scope L' f cdv) g L' := {
          envE := envOf_ok
          kind := g3
          bel := fun _ => ⟨rfl, A, env :: outer, B', Around.frames_deeper hA⟩
          kb := B'.stays
          X := X'
          T := T'
          hh := act.hh
          dep := by have := act.dep; show A.depth + 1 + n < _; omega
          uni := by have := act.uni; show A.units + 3 + 8 * n + 200 < _; omega
          nd := g7 }
        have hnn : names.Nodup := by rw [← g10]; exact List.Nodup.sublist (List.take_sublist _ _) g7
        have st' : StC c g L' scope X (unb vs ++ List.replicate (d.ls - d.ps) Option.none) H Ms T h₁ := {
          fr := ⟨_, F', fun i w hw => by
            have hi : i < vs.length := by
              false_or_by_contra
              rename_i hc
              rw [List.getElem?_append_right (by simp [unb]; omega)] at hw
              have := List.mem_of_getElem? hw
              rw [List.mem_replicate] at this
              cases this.2
            rw [List.getElem?_append_left (by simpa [unb] using hi)] at hw
            simp only [unb, List.getElem?_map, Option.map_eq_some_iff, Option.some.injEq] at hw
            obtain ⟨w', hw, rfl⟩ := hw
            obtain ⟨x, hx, hvx⟩ := hv.get hw
            have hin : i < names.length := by rw [g8, ← hlen]; exact hi
            obtain ⟨nm, hnm⟩ : ∃ nm, names[i]? = some nm := ⟨_, List.getElem?_eq_getElem hin⟩
            refine ⟨nm, x, ?_, zip_look hnn hnm hx, hvx⟩
            rw [← g10, List.getElem?_take] at hnm
            split at hnm
            · exact hnm
            · cases hnm⟩
          nw := N'
          ce := st.ce
          off := st.off
          offT := st.offT }
        rw [g12] at e2
        refine (ss_of fun x _ => (cS_ok S ih 40 x).1) act' e2 st' fun fl h' tk Ms' T' hf st2 gr => ?_
        obtain ⟨m2, F2, _⟩ := st2.fr
        refine leaveK_ F2 st2.nw fun F3 N3 => ?_
        have st3 : StC c h₀ L cs X ρ H2 Ms' T' h' := ⟨⟨m, F3, fun i w hw => let ⟨x, val, a1, a2, a3⟩ := hloc i w hw; ⟨x, val, a1, a2, a3.mono gr⟩⟩, N3, st2.ce, st2.off, st2.offT⟩
        cases o with
        | ret w =>
          obtain ⟨x, rfl, hx⟩ := hf
          obtain ⟨rfl, rfl⟩ := so2 e3
          exact post x h' tk _ _ hx st3 gr
        | next =>
          obtain rfl : fl = .next := hf
          obtain ⟨rfl, rfl⟩ := so2 e3
          exact post .none h' tk _ _ .none st3 gr
        | brk => exact nos e3
        | cont => exact nos e3
end
set_option maxRecDepth 100000

noncomputable def g_CLOSERS : V := (.dct [([40], [41]), ([91], [93]), ([123], [125]), ([60], [62])])
noncomputable def g_SHORT_ESCAPES : V := (.dct [([110], [10]), ([116], [9]), ([114], [13]), ([102], [12]), ([98], [8]), ([97], [7]), ([101], [27])])
noncomputable def g_CODE_FIGURES : V := (.str [48, 49, 50, 51, 52, 53, 54, 55, 56, 57, 97, 98, 99, 100, 101, 102])
noncomputable def g_TOP_CODE : V := (.int (1114111))
noncomputable def g_SHORT_CASES : V := (.str [117, 108])
noncomputable def g_MOST_CASES : V := (.int (40))
noncomputable def g_MOST_GUARDS : V := (.int (8))
noncomputable def g_PUNCTUATION : V := (.str [38, 44, 59, 33, 64, 47, 34])
noncomputable def g_TOLD_SIGNS : V := (.str [96, 39, 43, 124, 46])
noncomputable def g__law_pieces : V := (.fl [(.tup [(.str [36, 96]), (.fl [(.tup [(.str [101, 120, 112, 114]), (.str [36, 96])])]), .none]), (.tup [(.str [36, 39]), (.fl [(.tup [(.str [101, 120, 112, 114]), (.str [36, 39])])]), .none]), (.tup [(.str [36, 43]), (.fl [(.tup [(.str [101, 120, 112, 114]), (.str [36, 43])])]), .none]), (.tup [(.str [36, 43, 123, 120, 125]), (.fl [(.tup [(.str [101, 120, 112, 114]), (.str [36, 43, 123, 120, 125])])]), .none]), (.tup [(.str [36, 43, 123, 39, 97, 125, 98, 39, 125, 91, 49, 93, 45, 62, 123, 99, 125]), (.fl [(.tup [(.str [101, 120, 112, 114]), (.str [36, 43, 123, 39, 97, 125, 98, 39, 125, 91, 49, 93, 45, 62, 123, 99, 125])])]), .none]), (.tup [(.str [36, 43, 91, 48, 93]), (.fl [(.tup [(.str [116, 101, 120, 116]), (.str [36, 43, 91, 48, 93])])]), .none]), (.tup [(.str [36, 43, 123, 125]), (.fl [(.tup [(.str [101, 120, 112, 114]), (.str [36, 43])]), (.tup [(.str [116, 101, 120, 116]), (.str [123, 125])])]), .none]), (.tup [(.str [36, 43, 32, 123, 120, 125]), (.fl [(.tup [(.str [101, 120, 112, 114]), (.str [36, 43])]), (.tup [(.str [116, 101, 120, 116]), (.str [32, 123, 120, 125])])]), .none]), (.tup [(.str [36, 43, 45, 62, 123, 120, 125]), (.fl [(.tup [(.str [101, 120, 112, 114]), (.str [36, 43, 45, 62, 123, 120, 125])])]), .none]), (.tup [(.str [36, 96, 96]), (.fl [(.tup [(.str [101, 120, 112, 114]), (.str [36, 96])]), (.tup [(.str [116, 101, 120, 116]), (.str [96])])]), .none]), (.tup [(.str [36, 39, 39, 91, 48, 93]), (.fl [(.tup [(.str [101, 120, 112, 114]), (.str [36, 39])]), (.tup [(.str [116, 101, 120, 116]), (.str [39, 91, 48, 93])])]), .none]), (.tup [(.str [36, 43, 123, 32, 121, 32, 125, 123, 122, 125, 43]), (.fl [(.tup [(.str [101, 120, 112, 114]), (.str [36, 43, 123, 32, 121, 32, 125, 123, 122, 125])]), (.tup [(.str [116, 101, 120, 116]), (.str [43])])]), .none]), (.tup [(.str [43, 39, 96]), (.fl [(.tup [(.str [116, 101, 120, 116]), (.str [43, 39, 96])])]), .none]), (.tup [(.str [36, 43, 36, 43]), (.fl [(.tup [(.str [101, 120, 112, 114]), (.str [36, 43])]), (.tup [(.str [101, 120, 112, 114]), (.str [36, 43])])]), .none]), (.tup [(.str [36, 124]), (.fl [(.tup [(.str [101, 120, 112, 114]), (.str [36, 124])])]), .none])])
noncomputable def g__law_both : V := (.fl [(.tup [(.str [36, 123, 120, 125, 91, 48, 93]), (.fl [(.tup [(.str [101, 120, 112, 114]), (.str [36, 123, 120, 125])]), (.tup [(.str [116, 101, 120, 116]), (.str [91, 48, 93])])])]), (.tup [(.str [36, 123, 120, 125, 123, 107, 125]), (.fl [(.tup [(.str [101, 120, 112, 114]), (.str [36, 123, 120, 125])]), (.tup [(.str [116, 101, 120, 116]), (.str [123, 107, 125])])])]), (.tup [(.str [64, 123, 120, 125, 91, 48, 93]), (.fl [(.tup [(.str [101, 120, 112, 114]), (.str [64, 123, 120, 125])]), (.tup [(.str [116, 101, 120, 116]), (.str [91, 48, 93])])])]), (.tup [(.str [36, 123, 32, 65, 58, 58, 98, 9, 125, 91, 49, 93]), (.fl [(.tup [(.str [101, 120, 112, 114]), (.str [36, 123, 32, 65, 58, 58, 98, 9, 125])]), (.tup [(.str [116, 101, 120, 116]), (.str [91, 49, 93])])])]), (.tup [(.str [36, 123, 49, 50, 125, 123, 107, 125]), (.fl [(.tup [(.str [101, 120, 112, 114]), (.str [36, 123, 49, 50, 125])]), (.tup [(.str [116, 101, 120, 116]), (.str [123, 107, 125])])])]), (.tup [(.str [36, 123, 120, 125, 45, 62, 91, 48, 93, 123, 107, 125]), (.fl [(.tup [(.str [101, 120, 112, 114]), (.str [36, 123, 120, 125, 45, 62, 91, 48, 93, 123, 107, 125])])])]), (.tup [(.str [36, 123, 36, 114, 125, 123, 107, 125, 91, 50, 93]), (.fl [(.tup [(.str [101, 120, 112, 114]), (.str [36, 123, 36, 114, 125, 123, 107, 125, 91, 50, 93])])])]), (.tup [(.str [64, 123, 36, 114, 125, 91, 48, 93]), (.fl [(.tup [(.str [101, 120, 112, 114]), (.str [64, 123, 36, 114, 125, 91, 48, 93])])])]), (.tup [(.str [36, 123, 120, 125, 45, 91, 48, 93]), (.fl [(.tup [(.str [101, 120, 112, 114]), (.str [36, 123, 120, 125])]), (.tup [(.str [116, 101, 120, 116]), (.str [45, 91, 48, 93])])])]), (.tup [(.str [36, 49, 91, 48, 93]), (.fl [(.tup [(.str [101, 120, 112, 114]), (.str [36, 49, 91, 48, 93])])])]), (.tup [(.str [36, 50, 51, 123, 107, 125, 45, 62, 91, 49, 93]), (.fl [(.tup [(.str [101, 120, 112, 114]), (.str [36, 50, 51, 123, 107, 125, 45, 62, 91, 49, 93])])])]), (.tup [(.str [36, 38, 91, 48, 93, 123, 107, 125]), (.fl [(.tup [(.str [101, 120, 112, 114]), (.str [36, 38, 91, 48, 93, 123, 107, 125])])])]), (.tup [(.str [36, 64, 45, 62, 123, 107, 125]), (.fl [(.tup [(.str [101, 120, 112, 114]), (.str [36, 64, 45, 62, 123, 107, 125])])])]), (.tup [(.str [36, 38, 43, 123, 120, 125]), (.fl [(.tup [(.str [101, 120, 112, 114]), (.str [36, 38])]), (.tup [(.str [116, 101, 120, 116]), (.str [43, 123, 120, 125])])])]), (.tup [(.str [36, 114, 45, 62, 123, 50, 125]), (.fl [(.tup [(.str [101, 120, 112, 114]), (.str [36, 114, 45, 62, 123, 50, 125])])])]), (.tup [(.str [36, 114, 45, 62, 91, 97, 98, 99, 40, 41, 93]), (.fl [(.tup [(.str [101, 120, 112, 114]), (.str [36, 114, 45, 62, 91, 97, 98, 99, 40, 41, 93])])])]), (.tup [(.str [36, 120, 91, 45, 36, 105, 93]), (.fl [(.tup [(.str [101, 120, 112, 114]), (.str [36, 120, 91, 45, 36, 105, 93])])])]), (.tup [(.str [36, 120, 91, 49, 50, 93]), (.fl [(.tup [(.str [101, 120, 112, 114]), (.str [36, 120, 91, 49, 50, 93])])])])])
noncomputable def g__law_guessed : V := (.fl [(.tup [(.str [36, 120, 91, 50, 51, 52, 53, 93]), (.fl [(.tup [(.str [101, 120, 112, 114]), (.str [36, 120, 91, 50, 51, 52, 53, 93])])]), (.fl [(.tup [(.str [101, 120, 112, 114]), (.str [36, 120])]), (.tup [(.str [116, 101, 120, 116]), (.str [91, 50, 51, 52, 53, 93])])])]), (.tup [(.str [36, 120, 91, 45, 49, 50, 51, 93]), (.fl [(.tup [(.str [101, 120, 112, 114]), (.str [36, 120, 91, 45, 49, 50, 51, 93])])]), (.fl [(.tup [(.str [101, 120, 112, 114]), (.str [36, 120])]), (.tup [(.str [116, 101, 120, 116]), (.str [91, 45, 49, 50, 51, 93])])])]), (.tup [(.str [36, 49, 123, 50, 125]), (.fl [(.tup [(.str [101, 120, 112, 114]), (.str [36, 49, 123, 50, 125])])]), (.fl [(.tup [(.str [101, 120, 112, 114]), (.str [36, 49])]), (.tup [(.str [116, 101, 120, 116]), (.str [123, 50, 125])])])]), (.tup [(.str [36, 114, 45, 62, 123, 50, 125, 123, 51, 125]), (.fl [(.tup [(.str [101, 120, 112, 114]), (.str [36, 114, 45, 62, 123, 50, 125, 123, 51, 125])])]), (.fl [(.tup [(.str [101, 120, 112, 114]), (.str [36, 114, 45, 62, 123, 50, 125])]), (.tup [(.str [116, 101, 120, 116]), (.str [123, 51, 125])])])]), (.tup [(.str [36, 38, 91, 97, 98, 93]), (.fl [(.tup [(.str [101, 120, 112, 114]), (.str [36, 38, 91, 97, 98, 93])])]), (.fl [(.tup [(.str [101, 120, 112, 114]), (.str [36, 38])]), (.tup [(.str [116, 101, 120, 116]), (.str [91, 97, 98, 93])])])])])
noncomputable def g__law_marked : V := (.fl [(.tup [(.str [92, 36, 96]), (.fl [(.tup [(.str [116, 101, 120, 116]), (.str [36, 96])])])]), (.tup [(.str [92, 36, 43, 123, 120, 125]), (.fl [(.tup [(.str [116, 101, 120, 116]), (.str [36, 43, 123, 120, 125])])])]), (.tup [(.str [92, 85, 36, 39, 92, 69]), (.fl [(.tup [(.str [99, 97, 115, 101]), (.str [85]), (.fl [(.tup [(.str [101, 120, 112, 114]), (.str [36, 39])])])])])]), (.tup [(.str [92, 81, 97, 36, 43, 46, 92, 69]), (.fl [(.tup [(.str [99, 97, 115, 101]), (.str [81]), (.fl [(.tup [(.str [116, 101, 120, 116]), (.str [97])]), (.tup [(.str [101, 120, 112, 114]), (.str [36, 43])]), (.tup [(.str [116, 101, 120, 116]), (.str [46])])])])])])])
noncomputable def gt : Gt := [(("CLOSERS" : Str), .val g_CLOSERS),
  (("SHORT_ESCAPES" : Str), .val g_SHORT_ESCAPES),
  (("CODE_FIGURES" : Str), .val g_CODE_FIGURES),
  (("TOP_CODE" : Str), .val g_TOP_CODE),
  (("closer_of" : Str), .fn 62),
  (("digits_value" : Str), .fn 69),
  (("coded_sign" : Str), .fn 76),
  (("braced_code" : Str), .fn 83),
  (("escape_at" : Str), .fn 90),
  (("great_letter" : Str), .fn 97),
  (("small_letter" : Str), .fn 104),
  (("is_plain_word_sign" : Str), .fn 111),
  (("cased_text" : Str), .fn 118),
  (("SHORT_CASES" : Str), .val g_SHORT_CASES),
  (("MOST_CASES" : Str), .val g_MOST_CASES),
  (("MOST_GUARDS" : Str), .val g_MOST_GUARDS),
  (("PUNCTUATION" : Str), .val g_PUNCTUATION),
  (("TOLD_SIGNS" : Str), .val g_TOLD_SIGNS),
  (("is_name_start" : Str), .fn 125),
  (("variable_name_end" : Str), .fn 132),
  (("quote_skip" : Str), .fn 139),
  (("subscript_end" : Str), .fn 146),
  (("digits_only" : Str), .fn 153),
  (("is_pattern_part" : Str), .fn 160),
  (("one_subscript" : Str), .fn 167),
  (("all_subscripts" : Str), .fn 174),
  (("base_end" : Str), .fn 181),
  (("is_braced_name" : Str), .fn 188),
  (("scalar_end" : Str), .fn 195),
  (("array_end" : Str), .fn 202),
  (("add_part" : Str), .fn 209),
  (("close_case" : Str), .fn 216),
  (("end_case" : Str), .fn 223),
  (("end_letters" : Str), .fn 228),
  (("begin_case" : Str), .fn 233),
  (("take_case" : Str), .fn 240),
  (("take_piece" : Str), .fn 247),
  (("parts_of" : Str), .fn 254),
  (("_law_pieces" : Str), .val g__law_pieces),
  (("_law_both" : Str), .val g__law_both),
  (("_law_guessed" : Str), .val g__law_guessed),
  (("_law_marked" : Str), .val g__law_marked),
  (("_law_lug" : Str), .fn 425),
  (("_law_whole" : Str), .fn 432)]
noncomputable def bl : List Str := [("len" : Str), ("range" : Str)]
noncomputable def b62 : Ss := (.cons (.ret (.get (.lit (.dct [([40], [41]), ([91], [93]), ([123], [125]), ([60], [62])])) (.loc 0) (.loc 0)))
  .nil)
noncomputable def wc69_0 : E := (.and (.cmp .lt (.loc 5) (.len (.loc 0))) (.cmp .lt (.loc 5) (.bin .add (.loc 1) (.loc 2))))
noncomputable def wb69_1 : Ss := (.cons (.asg 6 .bad)
  (.cons (.ite (.or (.cmp .lt (.loc 6) (.lit (.int (0)))) (.cmp .ge (.loc 6) (.loc 3))) (.cons .brk
  .nil) .nil)
  (.cons (.asg 4 .bad)
  (.cons (.augN 5 .add (.lit (.int (1))))
  .nil))))
noncomputable def b69 : Ss := (.cons (.asg 4 (.lit (.int (0))))
  (.cons (.asg 5 (.loc 1))
  (.cons (.whl wc69_0 wb69_1)
  (.cons (.ret (.tup (.cons (.loc 4) (.cons (.loc 5) .nil))))
  .nil))))
noncomputable def b76 : Ss := (.cons (.ite (.cmp .gt (.loc 0) (.lit (.int (1114111)))) (.cons .bad
  .nil) .nil)
  (.cons (.ret .bad)
  .nil))
noncomputable def b83 : Ss := (.cons (.asg 3 .bad)
  (.cons (.ite (.cmp .lt (.loc 3) (.lit (.int (0)))) (.cons .bad
  .nil) .nil)
  (.cons (.asgT [4, 5] (.call 69 (.cons (.slct (.loc 0) (.loc 3)) (.cons (.bin .add (.loc 1) (.lit (.int (1)))) (.cons (.loc 3) (.cons (.loc 2) .nil))))))
  (.cons (.ret (.tup (.cons (.call 76 (.cons (.loc 4) .nil)) (.cons (.bin .add (.loc 3) (.lit (.int (1)))) .nil))))
  .nil))))
noncomputable def b90 : Ss := (.cons (.asg 2 (.slcs (.loc 0) (.bin .add (.loc 1) (.lit (.int (1)))) (.bin .add (.loc 1) (.lit (.int (2))))))
  (.cons (.ite (.cmp .eq (.loc 2) (.lit (.str []))) (.cons (.ret (.tup (.cons (.lit (.str [92])) (.cons (.bin .add (.loc 1) (.lit (.int (1)))) .nil))))
  .nil) .nil)
  (.cons (.ite (.cmp .isin (.loc 2) (.lit (.dct [([110], [10]), ([116], [9]), ([114], [13]), ([102], [12]), ([98], [8]), ([97], [7]), ([101], [27])]))) (.cons (.ret (.tup (.cons (.idx (.lit (.dct [([110], [10]), ([116], [9]), ([114], [13]), ([102], [12]), ([98], [8]), ([97], [7]), ([101], [27])])) (.loc 2)) (.cons (.bin .add (.loc 1) (.lit (.int (2)))) .nil))))
  .nil) .nil)
  (.cons (.ite (.cmp .isin (.loc 2) (.lit (.str [48, 49, 50, 51, 52, 53, 54, 55]))) (.cons (.asgT [3, 4] (.call 69 (.cons (.loc 0) (.cons (.bin .add (.loc 1) (.lit (.int (1)))) (.cons (.lit (.int (3))) (.cons (.lit (.int (8))) .nil))))))
  (.cons (.ret (.tup (.cons .bad (.cons (.loc 4) .nil))))
  .nil)) .nil)
  (.cons (.ite (.and (.cmp .eq (.loc 2) (.lit (.str [120]))) (.cmp .eq (.slcs (.loc 0) (.bin .add (.loc 1) (.lit (.int (2)))) (.bin .add (.loc 1) (.lit (.int (3))))) (.lit (.str [123])))) (.cons (.ret (.call 83 (.cons (.loc 0) (.cons (.bin .add (.loc 1) (.lit (.int (2)))) (.cons (.lit (.int (16))) .nil)))))
  .nil) .nil)
  (.cons (.ite (.and (.cmp .eq (.loc 2) (.lit (.str [111]))) (.cmp .eq (.slcs (.loc 0) (.bin .add (.loc 1) (.lit (.int (2)))) (.bin .add (.loc 1) (.lit (.int (3))))) (.lit (.str [123])))) (.cons (.ret (.call 83 (.cons (.loc 0) (.cons (.bin .add (.loc 1) (.lit (.int (2)))) (.cons (.lit (.int (8))) .nil)))))
  .nil) .nil)
  (.cons (.ite (.cmp .eq (.loc 2) (.lit (.str [120]))) (.cons (.asgT [3, 4] (.call 69 (.cons (.loc 0) (.cons (.bin .add (.loc 1) (.lit (.int (2)))) (.cons (.lit (.int (2))) (.cons (.lit (.int (16))) .nil))))))
  (.cons (.ret (.tup (.cons .bad (.cons (.loc 4) .nil))))
  .nil)) .nil)
  (.cons (.ite (.and (.cmp .eq (.loc 2) (.lit (.str [78]))) (.cmp .eq (.slcs (.loc 0) (.bin .add (.loc 1) (.lit (.int (2)))) (.bin .add (.loc 1) (.lit (.int (5))))) (.lit (.str [123, 85, 43])))) (.cons (.ret (.call 83 (.cons (.loc 0) (.cons (.bin .add (.loc 1) (.lit (.int (4)))) (.cons (.lit (.int (16))) .nil)))))
  .nil) .nil)
  (.cons (.ite (.and (.cmp .eq (.loc 2) (.lit (.str [78]))) (.cmp .eq (.slcs (.loc 0) (.bin .add (.loc 1) (.lit (.int (2)))) (.bin .add (.loc 1) (.lit (.int (3))))) (.lit (.str [123])))) (.cons .bad
  .nil) .nil)
  (.cons (.ite (.and (.cmp .eq (.loc 2) (.lit (.str [99]))) (.cmp .ne (.slcs (.loc 0) (.bin .add (.loc 1) (.lit (.int (2)))) (.bin .add (.loc 1) (.lit (.int (3))))) (.lit (.str [])))) (.cons (.ret (.tup (.cons .bad (.cons (.bin .add (.loc 1) (.lit (.int (3)))) .nil))))
  .nil) .nil)
  (.cons (.ret (.tup (.cons (.loc 2) (.cons (.bin .add (.loc 1) (.lit (.int (2)))) .nil))))
  .nil)))))))))))
noncomputable def b97 : Ss := (.cons (.ite (.chain .le .le (.lit (.str [97])) (.loc 0) (.lit (.str [122]))) (.cons (.ret .bad)
  .nil) .nil)
  (.cons (.ret (.loc 0))
  .nil))
noncomputable def b104 : Ss := (.cons (.ite (.chain .le .le (.lit (.str [65])) (.loc 0) (.lit (.str [90]))) (.cons (.ret .bad)
  .nil) .nil)
  (.cons (.ret (.loc 0))
  .nil))
noncomputable def b111 : Ss := (.cons (.ret (.or (.chain .le .le (.lit (.str [97])) (.loc 0) (.lit (.str [122]))) (.or (.chain .le .le (.lit (.str [65])) (.loc 0) (.lit (.str [90]))) (.or (.chain .le .le (.lit (.str [48])) (.loc 0) (.lit (.str [57]))) (.cmp .eq (.loc 0) (.lit (.str [95])))))))
  .nil)
noncomputable def fb118_0 : Ss := (.cons (.ite (.cmp .eq (.loc 0) (.lit (.str [85]))) (.cons (.augN 2 .add (.call 97 (.cons (.loc 3) .nil)))
  .nil) (.cons (.ite (.cmp .eq (.loc 0) (.lit (.str [81]))) (.cons (.ite (.and (.not (.call 111 (.cons (.loc 3) .nil))) (.cmp .lt .bad (.lit (.int (128))))) (.cons (.augN 2 .add (.lit (.str [92])))
  .nil) .nil)
  (.cons (.augN 2 .add (.loc 3))
  .nil)) (.cons (.augN 2 .add (.call 104 (.cons (.loc 3) .nil)))
  .nil))
  .nil))
  .nil)
noncomputable def b118 : Ss := (.cons (.ite (.cmp .eq (.loc 0) (.lit (.str [117]))) (.cons (.ret (.bin .add (.call 118 (.cons (.lit (.str [85])) (.cons (.slct (.loc 1) (.lit (.int (1)))) .nil))) (.slcf (.loc 1) (.lit (.int (1))))))
  .nil) .nil)
  (.cons (.ite (.cmp .eq (.loc 0) (.lit (.str [108]))) (.cons (.ret (.bin .add (.call 118 (.cons (.lit (.str [76])) (.cons (.slct (.loc 1) (.lit (.int (1)))) .nil))) (.slcf (.loc 1) (.lit (.int (1))))))
  .nil) .nil)
  (.cons (.asg 2 (.lit (.str [])))
  (.cons (.forE 3 (.loc 1) fb118_0)
  (.cons (.ret (.loc 2))
  .nil)))))
noncomputable def b125 : Ss := (.cons (.ret (.and (.cmp .ne (.loc 0) (.lit (.str []))) (.and (.call 111 (.cons (.loc 0) .nil)) (.not (.chain .le .le (.lit (.str [48])) (.loc 0) (.lit (.str [57])))))))
  .nil)
noncomputable def wc132_0 : E := (.cmp .lt (.loc 2) (.len (.loc 0)))
noncomputable def wb132_1 : Ss := (.cons (.ite (.call 111 (.cons (.idx (.loc 0) (.loc 2)) .nil)) (.cons (.augN 2 .add (.lit (.int (1))))
  .nil) (.cons (.ite (.and (.cmp .eq (.slcs (.loc 0) (.loc 2) (.bin .add (.loc 2) (.lit (.int (2))))) (.lit (.str [58, 58]))) (.call 125 (.cons (.slcs (.loc 0) (.bin .add (.loc 2) (.lit (.int (2)))) (.bin .add (.loc 2) (.lit (.int (3))))) .nil))) (.cons (.augN 2 .add (.lit (.int (2))))
  .nil) (.cons .brk
  .nil))
  .nil))
  .nil)
noncomputable def b132 : Ss := (.cons (.asg 2 (.loc 1))
  (.cons (.ite (.and (.cmp .eq (.slcs (.loc 0) (.loc 1) (.bin .add (.loc 1) (.lit (.int (2))))) (.lit (.str [58, 58]))) (.call 125 (.cons (.slcs (.loc 0) (.bin .add (.loc 1) (.lit (.int (2)))) (.bin .add (.loc 1) (.lit (.int (3))))) .nil))) (.cons (.asg 2 (.bin .add (.loc 1) (.lit (.int (2)))))
  .nil) .nil)
  (.cons (.ite (.not (.call 125 (.cons (.slcs (.loc 0) (.loc 2) (.bin .add (.loc 2) (.lit (.int (1))))) .nil))) (.cons (.ret (.loc 1))
  .nil) .nil)
  (.cons (.whl wc132_0 wb132_1)
  (.cons (.ret (.loc 2))
  .nil)))))
noncomputable def wc139_0 : E := (.cmp .lt (.loc 2) (.len (.loc 0)))
noncomputable def wb139_1 : Ss := (.cons (.ite (.cmp .eq (.idx (.loc 0) (.loc 2)) (.lit (.str [92]))) (.cons (.augN 2 .add (.lit (.int (1))))
  .nil) (.cons (.ite (.cmp .eq (.idx (.loc 0) (.loc 2)) (.idx (.loc 0) (.loc 1))) (.cons (.ret (.bin .add (.loc 2) (.lit (.int (1)))))
  .nil) .nil)
  .nil))
  (.cons (.augN 2 .add (.lit (.int (1))))
  .nil))
noncomputable def b139 : Ss := (.cons (.asg 2 (.bin .add (.loc 1) (.lit (.int (1)))))
  (.cons (.whl wc139_0 wb139_1)
  (.cons (.ret (.bin .add (.loc 1) (.lit (.int (1)))))
  .nil)))
noncomputable def wc146_0 : E := (.cmp .lt (.loc 5) (.len (.loc 0)))
noncomputable def wb146_1 : Ss := (.cons (.asg 6 (.idx (.loc 0) (.loc 5)))
  (.cons (.ite (.cmp .eq (.loc 6) (.lit (.str [92]))) (.cons (.augN 5 .add (.lit (.int (2))))
  (.cons .cont
  .nil)) .nil)
  (.cons (.ite (.or (.cmp .eq (.loc 6) (.lit (.str [39]))) (.cmp .eq (.loc 6) (.lit (.str [34])))) (.cons (.asg 5 (.call 139 (.cons (.loc 0) (.cons (.loc 5) .nil))))
  (.cons .cont
  .nil)) .nil)
  (.cons (.ite (.cmp .eq (.loc 6) (.loc 2)) (.cons (.augN 4 .add (.lit (.int (1))))
  .nil) (.cons (.ite (.cmp .eq (.loc 6) (.loc 3)) (.cons (.augN 4 .sub (.lit (.int (1))))
  (.cons (.ite (.cmp .eq (.loc 4) (.lit (.int (0)))) (.cons (.ret (.ite (.cmp .ne (.strip (.slcs (.loc 0) (.bin .add (.loc 1) (.lit (.int (1)))) (.loc 5)) (.lit (.str [32, 9, 10]))) (.lit (.str []))) (.bin .add (.loc 5) (.lit (.int (1)))) (.neg (.lit (.int (1))))))
  .nil) .nil)
  .nil)) .nil)
  .nil))
  (.cons (.augN 5 .add (.lit (.int (1))))
  .nil)))))
noncomputable def b146 : Ss := (.cons (.asg 2 (.idx (.loc 0) (.loc 1)))
  (.cons (.asg 3 (.call 62 (.cons (.loc 2) .nil)))
  (.cons (.asg 4 (.lit (.int (0))))
  (.cons (.asg 5 (.loc 1))
  (.cons (.whl wc146_0 wb146_1)
  (.cons (.ret (.neg (.lit (.int (1)))))
  .nil))))))
noncomputable def fb153_0 : Ss := (.cons (.ite (.not (.chain .le .le (.lit (.str [48])) (.loc 1) (.lit (.str [57])))) (.cons (.ret (.lit (.bool false)))
  .nil) .nil)
  .nil)
noncomputable def b153 : Ss := (.cons (.ite (.cmp .eq (.loc 0) (.lit (.str []))) (.cons (.ret (.lit (.bool false)))
  .nil) .nil)
  (.cons (.forE 1 (.loc 0) fb153_0)
  (.cons (.ret (.lit (.bool true)))
  .nil)))
noncomputable def b160 : Ss := (.cons (.ite (.cmp .eq (.loc 1) (.lit (.str [123]))) (.cons (.asgT [2, 3, 4] (.part (.loc 0) (.lit (.str [44]))))
  (.cons (.ret (.and (.call 153 (.cons (.loc 2) .nil)) (.or (.cmp .eq (.loc 4) (.lit (.str []))) (.call 153 (.cons (.loc 4) .nil)))))
  .nil)) .nil)
  (.cons (.ite (.cmp .eq (.slct (.loc 0) (.lit (.int (1)))) (.lit (.str [45]))) (.cons (.asg 0 (.slcf (.loc 0) (.lit (.int (1)))))
  .nil) .nil)
  (.cons (.ite (.cmp .eq (.slct (.loc 0) (.lit (.int (1)))) (.lit (.str [36]))) (.cons (.ret (.lit (.bool false)))
  .nil) .nil)
  (.cons (.ret (.or (.not (.call 153 (.cons (.loc 0) .nil))) (.cmp .gt (.len (.loc 0)) (.lit (.int (2))))))
  .nil))))
noncomputable def b167 : Ss := (.cons (.ite (.and (.cmp .ne (.slcs (.loc 0) (.loc 1) (.bin .add (.loc 1) (.lit (.int (1))))) (.lit (.str [91]))) (.cmp .ne (.slcs (.loc 0) (.loc 1) (.bin .add (.loc 1) (.lit (.int (1))))) (.lit (.str [123])))) (.cons (.ret (.loc 1))
  .nil) .nil)
  (.cons (.asg 3 (.call 146 (.cons (.loc 0) (.cons (.loc 1) .nil))))
  (.cons (.ite (.or (.cmp .lt (.loc 3) (.lit (.int (0)))) (.and (.loc 2) (.call 160 (.cons (.slcs (.loc 0) (.bin .add (.loc 1) (.lit (.int (1)))) (.bin .sub (.loc 3) (.lit (.int (1))))) (.cons (.idx (.loc 0) (.loc 1)) .nil))))) (.cons (.ret (.loc 1))
  .nil) .nil)
  (.cons (.ret (.loc 3))
  .nil))))
noncomputable def wc174_0 : E := (.lit (.bool true))
noncomputable def wb174_1 : Ss := (.cons (.asg 4 (.loc 3))
  (.cons (.ite (.cmp .eq (.slcs (.loc 0) (.loc 3) (.bin .add (.loc 3) (.lit (.int (2))))) (.lit (.str [45, 62]))) (.cons (.asg 4 (.bin .add (.loc 3) (.lit (.int (2)))))
  .nil) .nil)
  (.cons (.asg 5 (.call 167 (.cons (.loc 0) (.cons (.loc 4) (.cons (.and (.loc 2) (.cmp .eq (.loc 4) (.loc 3))) .nil)))))
  (.cons (.ite (.cmp .eq (.loc 5) (.loc 4)) (.cons (.ret (.loc 3))
  .nil) .nil)
  (.cons (.asg 3 (.loc 5))
  .nil)))))
noncomputable def b174 : Ss := (.cons (.asg 3 (.loc 1))
  (.cons (.whl wc174_0 wb174_1)
  .nil))
noncomputable def wc181_0 : E := (.cmp .eq (.slcs (.loc 0) (.loc 2) (.bin .add (.loc 2) (.lit (.int (1))))) (.lit (.str [36])))
noncomputable def wb181_1 : Ss := (.cons (.augN 2 .add (.lit (.int (1))))
  .nil)
noncomputable def b181 : Ss := (.cons (.asg 2 (.loc 1))
  (.cons (.whl wc181_0 wb181_1)
  (.cons (.ite (.cmp .eq (.slcs (.loc 0) (.loc 2) (.bin .add (.loc 2) (.lit (.int (1))))) (.lit (.str [123]))) (.cons (.asg 3 (.call 146 (.cons (.loc 0) (.cons (.loc 2) .nil))))
  (.cons (.ret (.ite (.cmp .lt (.loc 3) (.lit (.int (0)))) (.loc 1) (.loc 3)))
  .nil)) .nil)
  (.cons (.asg 3 (.call 132 (.cons (.loc 0) (.cons (.loc 2) .nil))))
  (.cons (.ret (.ite (.cmp .eq (.loc 3) (.loc 2)) (.loc 1) (.loc 3)))
  .nil)))))
noncomputable def b188 : Ss := (.cons (.asg 3 (.strip (.slcs (.loc 0) (.bin .add (.loc 1) (.lit (.int (1)))) (.bin .sub (.loc 2) (.lit (.int (1))))) (.lit (.str [32, 9, 10]))))
  (.cons (.ite (.or (.cmp .ne (.idx (.loc 0) (.loc 1)) (.lit (.str [123]))) (.cmp .eq (.loc 3) (.lit (.str [])))) (.cons (.ret (.lit (.bool false)))
  .nil) .nil)
  (.cons (.ret (.or (.call 153 (.cons (.loc 3) .nil)) (.cmp .eq (.call 132 (.cons (.loc 3) (.cons (.lit (.int (0))) .nil))) (.len (.loc 3)))))
  .nil)))
noncomputable def wc195_0 : E := (.and (.cmp .ne (.loc 3) (.lit (.str [48]))) (.and (.cmp .lt (.loc 4) (.len (.loc 0))) (.chain .le .le (.lit (.str [48])) (.idx (.loc 0) (.loc 4)) (.lit (.str [57])))))
noncomputable def wb195_1 : Ss := (.cons (.augN 4 .add (.lit (.int (1))))
  .nil)
noncomputable def b195 : Ss := (.cons (.asg 3 (.slcs (.loc 0) (.bin .add (.loc 1) (.lit (.int (1)))) (.bin .add (.loc 1) (.lit (.int (2))))))
  (.cons (.ite (.or (.cmp .eq (.loc 3) (.lit (.str []))) (.and (.loc 2) (.cmp .isin (.loc 3) (.lit (.str [41, 124]))))) (.cons (.ret (.loc 1))
  .nil) .nil)
  (.cons (.ite (.cmp .eq (.loc 3) (.lit (.str [35]))) (.cons (.asg 4 (.call 181 (.cons (.loc 0) (.cons (.bin .add (.loc 1) (.lit (.int (2)))) .nil))))
  (.cons (.ret (.ite (.cmp .eq (.loc 4) (.bin .add (.loc 1) (.lit (.int (2))))) (.loc 1) (.loc 4)))
  .nil)) .nil)
  (.cons (.ite (.chain .le .le (.lit (.str [48])) (.loc 3) (.lit (.str [57]))) (.cons (.asg 4 (.bin .add (.loc 1) (.lit (.int (2)))))
  (.cons (.whl wc195_0 wb195_1)
  (.cons (.ret (.call 174 (.cons (.loc 0) (.cons (.loc 4) (.cons (.loc 2) .nil)))))
  .nil))) .nil)
  (.cons (.asg 4 (.call 181 (.cons (.loc 0) (.cons (.bin .add (.loc 1) (.lit (.int (1)))) .nil))))
  (.cons (.ite (.cmp .gt (.loc 4) (.bin .add (.loc 1) (.lit (.int (1))))) (.cons (.asg 5 (.and (.call 188 (.cons (.loc 0) (.cons (.bin .add (.loc 1) (.lit (.int (1)))) (.cons (.loc 4) .nil)))) (.cmp .ne (.slcs (.loc 0) (.loc 4) (.bin .add (.loc 4) (.lit (.int (2))))) (.lit (.str [45, 62])))))
  (.cons (.ret (.ite (.loc 5) (.loc 4) (.call 174 (.cons (.loc 0) (.cons (.loc 4) (.cons (.loc 2) .nil))))))
  .nil)) .nil)
  (.cons (.ite (.or (.cmp .isin (.loc 3) (.lit (.str [38, 44, 59, 33, 64, 47, 34]))) (.and (.cmp .isin (.loc 3) (.lit (.str [96, 39, 43, 124, 46]))) (.and (.not (.loc 2)) (.cmp .ne (.slcs (.loc 0) (.bin .add (.loc 1) (.lit (.int (1)))) (.bin .add (.loc 1) (.lit (.int (3))))) (.lit (.str [43, 91])))))) (.cons (.ret (.call 174 (.cons (.loc 0) (.cons (.bin .add (.loc 1) (.lit (.int (2)))) (.cons (.loc 2) .nil)))))
  .nil) .nil)
  (.cons (.ret (.loc 1))
  .nil))))))))
noncomputable def b202 : Ss := (.cons (.asg 3 (.call 181 (.cons (.loc 0) (.cons (.bin .add (.loc 1) (.lit (.int (1)))) .nil))))
  (.cons (.ite (.cmp .eq (.loc 3) (.bin .add (.loc 1) (.lit (.int (1))))) (.cons (.ret (.loc 1))
  .nil) .nil)
  (.cons (.ret (.ite (.call 188 (.cons (.loc 0) (.cons (.bin .add (.loc 1) (.lit (.int (1)))) (.cons (.loc 3) .nil)))) (.loc 3) (.call 167 (.cons (.loc 0) (.cons (.loc 3) (.cons (.loc 2) .nil))))))
  .nil)))
noncomputable def b209 : Ss := (.cons (.asg 2 (.idx (.idx (.loc 0) (.bin .sub (.len (.loc 0)) (.lit (.int (1))))) (.lit (.int (1)))))
  (.cons (.ite (.and (.cmp .eq (.idx (.loc 1) (.lit (.int (0)))) (.lit (.str [116, 101, 120, 116]))) (.and (.cmp .gt (.len (.loc 2)) (.lit (.int (0)))) (.cmp .eq (.idx (.idx (.loc 2) (.bin .sub (.len (.loc 2)) (.lit (.int (1))))) (.lit (.int (0)))) (.lit (.str [116, 101, 120, 116]))))) (.cons (.set (.loc 2) (.bin .sub (.len (.loc 2)) (.lit (.int (1)))) (.tup (.cons (.lit (.str [116, 101, 120, 116])) (.cons (.bin .add (.idx (.idx (.loc 2) (.bin .sub (.len (.loc 2)) (.lit (.int (1))))) (.lit (.int (1)))) (.idx (.loc 1) (.lit (.int (1))))) .nil))))
  .nil) (.cons (.ex (.app (.loc 2) (.loc 1)))
  .nil))
  (.cons (.ite (.and (.cmp .eq (.idx (.loc 1) (.lit (.int (0)))) (.lit (.str [116, 101, 120, 116]))) (.and (.cmp .isin (.idx (.idx (.loc 0) (.bin .sub (.len (.loc 0)) (.lit (.int (1))))) (.lit (.int (0)))) (.lit (.str [117, 108]))) (.cmp .ne (.idx (.idx (.loc 0) (.bin .sub (.len (.loc 0)) (.lit (.int (1))))) (.lit (.int (0)))) (.lit (.str []))))) (.cons (.ex (.call 216 (.cons (.loc 0) .nil)))
  .nil) .nil)
  .nil)))
noncomputable def b216 : Ss := (.cons (.asgT [1, 2] (.pop (.loc 0)))
  (.cons (.ite (.and (.cmp .eq (.len (.loc 2)) (.lit (.int (1)))) (.cmp .eq (.idx (.idx (.loc 2) (.lit (.int (0)))) (.lit (.int (0)))) (.lit (.str [116, 101, 120, 116])))) (.cons (.ex (.call 209 (.cons (.loc 0) (.cons (.tup (.cons (.lit (.str [116, 101, 120, 116])) (.cons (.call 118 (.cons (.loc 1) (.cons (.idx (.idx (.loc 2) (.lit (.int (0)))) (.lit (.int (1)))) .nil))) .nil))) .nil))))
  .nil) (.cons (.ite (.cmp .gt (.len (.loc 2)) (.lit (.int (0)))) (.cons (.ex (.call 209 (.cons (.loc 0) (.cons (.tup (.cons (.lit (.str [99, 97, 115, 101])) (.cons (.loc 1) (.cons (.loc 2) .nil)))) .nil))))
  .nil) .nil)
  .nil))
  .nil))
noncomputable def wc223_0 : E := (.and (.cmp .gt (.len (.loc 0)) (.lit (.int (1)))) (.cmp .isin (.idx (.idx (.loc 0) (.bin .sub (.len (.loc 0)) (.lit (.int (1))))) (.lit (.int (0)))) (.lit (.str [117, 108]))))
noncomputable def wb223_1 : Ss := (.cons (.ex (.call 216 (.cons (.loc 0) .nil)))
  .nil)
noncomputable def b223 : Ss := (.cons (.whl wc223_0 wb223_1)
  (.cons (.ite (.cmp .gt (.len (.loc 0)) (.lit (.int (1)))) (.cons (.ex (.call 216 (.cons (.loc 0) .nil)))
  .nil) .nil)
  .nil))
noncomputable def wc228_0 : E := (.cmp .ne (.comp 2 [1] false (.loc 0) (.loc 1) (.cmp .isin (.idx (.loc 1) (.lit (.int (0)))) (.tup (.cons (.lit (.str [85])) (.cons (.lit (.str [76])) (.cons (.lit (.str [70])) .nil)))))) (.lst .nil))
noncomputable def wb228_1 : Ss := (.cons (.ex (.call 216 (.cons (.loc 0) .nil)))
  .nil)
noncomputable def b228 : Ss := (.cons (.whl wc228_0 wb228_1)
  .nil)
noncomputable def b233 : Ss := (.cons (.ite (.cmp .isin (.loc 1) (.lit (.str [85, 76, 70]))) (.cons (.ex (.call 228 (.cons (.loc 0) .nil)))
  .nil) .nil)
  (.cons (.ite (.or (.cmp .gt (.len (.loc 0)) (.lit (.int (40)))) (.and (.cmp .eq (.loc 1) (.lit (.str [81]))) (.cmp .ge (.len (.comp 2 [1] false (.loc 0) (.loc 1) (.cmp .eq (.idx (.loc 1) (.lit (.int (0)))) (.lit (.str [81]))))) (.lit (.int (8)))))) (.cons .bad
  .nil) .nil)
  (.cons (.ex (.app (.loc 0) (.lst (.cons (.loc 1) (.cons (.lst .nil) .nil)))))
  .nil)))
noncomputable def b240 : Ss := (.cons (.asg 3 (.idx (.loc 1) (.bin .add (.loc 2) (.lit (.int (1))))))
  (.cons (.asg 4 (.slcs (.loc 1) (.loc 2) (.bin .add (.loc 2) (.lit (.int (4))))))
  (.cons (.ite (.or (.cmp .eq (.loc 4) (.lit (.str [92, 76, 92, 117]))) (.cmp .eq (.loc 4) (.lit (.str [92, 85, 92, 108])))) (.cons (.ex (.call 228 (.cons (.loc 0) .nil)))
  (.cons (.ex (.call 233 (.cons (.loc 0) (.cons (.idx (.loc 4) (.lit (.int (3)))) .nil))))
  (.cons (.ex (.call 233 (.cons (.loc 0) (.cons (.loc 3) .nil))))
  (.cons (.ret (.bin .add (.loc 2) (.lit (.int (4)))))
  .nil)))) .nil)
  (.cons (.ite (.cmp .eq (.loc 3) (.lit (.str [69]))) (.cons (.ex (.call 223 (.cons (.loc 0) .nil)))
  .nil) (.cons (.ex (.call 233 (.cons (.loc 0) (.cons (.loc 3) .nil))))
  .nil))
  (.cons (.ret (.bin .add (.loc 2) (.lit (.int (2)))))
  .nil)))))
noncomputable def b247 : Ss := (.cons (.asg 4 (.idx (.loc 1) (.loc 2)))
  (.cons (.ite (.cmp .eq (.loc 4) (.lit (.str [92]))) (.cons (.ite (.loc 3) (.cons (.ex (.call 209 (.cons (.loc 0) (.cons (.tup (.cons (.lit (.str [116, 101, 120, 116])) (.cons (.slcs (.loc 1) (.loc 2) (.bin .add (.loc 2) (.lit (.int (2))))) .nil))) .nil))))
  (.cons (.ret (.bin .add (.loc 2) (.lit (.int (2)))))
  .nil)) .nil)
  (.cons (.asgT [5, 6] (.call 90 (.cons (.loc 1) (.cons (.loc 2) .nil))))
  (.cons (.ex (.call 209 (.cons (.loc 0) (.cons (.tup (.cons (.lit (.str [116, 101, 120, 116])) (.cons (.loc 5) .nil))) .nil))))
  (.cons (.ret (.loc 6))
  .nil)))) .nil)
  (.cons (.asg 6 (.loc 2))
  (.cons (.ite (.cmp .eq (.loc 4) (.lit (.str [36]))) (.cons (.asg 6 (.call 195 (.cons (.loc 1) (.cons (.loc 2) (.cons (.loc 3) .nil)))))
  .nil) (.cons (.ite (.cmp .eq (.loc 4) (.lit (.str [64]))) (.cons (.asg 6 (.call 202 (.cons (.loc 1) (.cons (.loc 2) (.cons (.loc 3) .nil)))))
  .nil) .nil)
  .nil))
  (.cons (.ite (.cmp .gt (.loc 6) (.loc 2)) (.cons (.ex (.call 209 (.cons (.loc 0) (.cons (.tup (.cons (.lit (.str [101, 120, 112, 114])) (.cons (.slcs (.loc 1) (.loc 2) (.loc 6)) .nil))) .nil))))
  (.cons (.ret (.loc 6))
  .nil)) .nil)
  (.cons (.ex (.call 209 (.cons (.loc 0) (.cons (.tup (.cons (.lit (.str [116, 101, 120, 116])) (.cons (.loc 4) .nil))) .nil))))
  (.cons (.ret (.bin .add (.loc 2) (.lit (.int (1)))))
  .nil)))))))
noncomputable def wc254_0 : E := (.cmp .lt (.loc 3) (.len (.loc 0)))
noncomputable def wb254_1 : Ss := (.cons (.asg 4 (.slcs (.loc 0) (.bin .add (.loc 3) (.lit (.int (1)))) (.bin .add (.loc 3) (.lit (.int (2))))))
  (.cons (.ite (.and (.cmp .eq (.idx (.loc 0) (.loc 3)) (.lit (.str [92]))) (.and (.cmp .ne (.loc 4) (.lit (.str []))) (.cmp .isin (.loc 4) (.lit (.str [85, 76, 70, 81, 117, 108, 69]))))) (.cons (.asg 3 (.call 240 (.cons (.loc 2) (.cons (.loc 0) (.cons (.loc 3) .nil)))))
  .nil) (.cons (.asg 3 (.call 247 (.cons (.loc 2) (.cons (.loc 0) (.cons (.loc 3) (.cons (.loc 1) .nil))))))
  .nil))
  .nil))
noncomputable def wc254_2 : E := (.cmp .gt (.len (.loc 2)) (.lit (.int (1))))
noncomputable def wb254_3 : Ss := (.cons (.ex (.call 216 (.cons (.loc 2) .nil)))
  .nil)
noncomputable def b254 : Ss := (.cons (.asg 2 (.lst (.cons (.lst (.cons (.lit (.str [])) (.cons (.lst .nil) .nil))) .nil)))
  (.cons (.asg 3 (.lit (.int (0))))
  (.cons (.whl wc254_0 wb254_1)
  (.cons (.whl wc254_2 wb254_3)
  (.cons (.ret (.idx (.idx (.loc 2) (.lit (.int (0)))) (.lit (.int (1)))))
  .nil)))))
noncomputable def b425 : Ss := (.cons (.augS (.loc 0) (.lit (.int (1))) .add (.lit (.int (1))))
  (.cons (.ret (.bin .mod (.ite (.cmp .le (.idx (.loc 0) (.lit (.int (1)))) (.len (.idx (.loc 0) (.lit (.int (0)))))) (.idx (.idx (.loc 0) (.lit (.int (0)))) (.bin .sub (.idx (.loc 0) (.lit (.int (1)))) (.lit (.int (1))))) (.bin .mul (.lit (.int (3))) (.idx (.loc 0) (.lit (.int (1)))))) (.loc 1)))
  .nil))
noncomputable def fb432_0 : Ss := (.cons (.ite (.and (.cmp .eq (.idx (.loc 2) (.lit (.int (0)))) (.lit (.str [116, 101, 120, 116]))) (.and (.cmp .ne (.loc 1) (.lst .nil)) (.cmp .eq (.idx (.idx (.loc 1) (.neg (.lit (.int (1))))) (.lit (.int (0)))) (.lit (.str [116, 101, 120, 116]))))) (.cons (.set (.loc 1) (.neg (.lit (.int (1)))) (.tup (.cons (.lit (.str [116, 101, 120, 116])) (.cons (.bin .add (.idx (.idx (.loc 1) (.neg (.lit (.int (1))))) (.lit (.int (1)))) (.idx (.loc 2) (.lit (.int (1))))) .nil))))
  .nil) (.cons (.ex (.app (.loc 1) (.loc 2)))
  .nil))
  .nil)
noncomputable def b432 : Ss := (.cons (.asg 1 (.lst .nil))
  (.cons (.forE 2 (.loc 0) fb432_0)
  (.cons (.ret (.loc 1))
  .nil)))
noncomputable def fb437_0 : Ss := (.cons (.asgT [2, 3, 10] (.idx (.loc 4) (.call 425 (.cons (.loc 1) (.cons (.lit (.int (42))) .nil)))))
  (.cons (.asgR [5, 6] (.tup (.cons (.bin .add (.bin .add (.loc 5) (.loc 2)) (.lit (.str [46]))) (.cons (.bin .add (.bin .add (.loc 6) (.loc 3)) (.lst (.cons (.tup (.cons (.lit (.str [116, 101, 120, 116])) (.cons (.lit (.str [46])) .nil))) .nil))) .nil))))
  (.cons (.ite (.cmp .ne (.loc 10) (.lst .nil)) (.cons (.asgR [7, 8] (.tup (.cons (.bin .add (.bin .add (.loc 7) (.loc 2)) (.lit (.str [46]))) (.cons (.bin .add (.bin .add (.loc 8) (.ite (.cmp .isnone (.loc 10) (.lit .none)) (.lst (.cons (.tup (.cons (.lit (.str [116, 101, 120, 116])) (.cons (.loc 2) .nil))) .nil)) (.loc 10))) (.lst (.cons (.tup (.cons (.lit (.str [116, 101, 120, 116])) (.cons (.lit (.str [46])) .nil))) .nil))) .nil))))
  .nil) .nil)
  .nil)))
noncomputable def b437 : Ss := (.cons (.asg 1 (.lst (.cons (.slct (.loc 0) (.lit (.int (20)))) (.cons (.lit (.int (0))) .nil))))
  (.cons (.asg 4 (.bin .add (.bin .add (.bin .add (.lit (.fl [(.tup [(.str [36, 96]), (.fl [(.tup [(.str [101, 120, 112, 114]), (.str [36, 96])])]), .none]), (.tup [(.str [36, 39]), (.fl [(.tup [(.str [101, 120, 112, 114]), (.str [36, 39])])]), .none]), (.tup [(.str [36, 43]), (.fl [(.tup [(.str [101, 120, 112, 114]), (.str [36, 43])])]), .none]), (.tup [(.str [36, 43, 123, 120, 125]), (.fl [(.tup [(.str [101, 120, 112, 114]), (.str [36, 43, 123, 120, 125])])]), .none]), (.tup [(.str [36, 43, 123, 39, 97, 125, 98, 39, 125, 91, 49, 93, 45, 62, 123, 99, 125]), (.fl [(.tup [(.str [101, 120, 112, 114]), (.str [36, 43, 123, 39, 97, 125, 98, 39, 125, 91, 49, 93, 45, 62, 123, 99, 125])])]), .none]), (.tup [(.str [36, 43, 91, 48, 93]), (.fl [(.tup [(.str [116, 101, 120, 116]), (.str [36, 43, 91, 48, 93])])]), .none]), (.tup [(.str [36, 43, 123, 125]), (.fl [(.tup [(.str [101, 120, 112, 114]), (.str [36, 43])]), (.tup [(.str [116, 101, 120, 116]), (.str [123, 125])])]), .none]), (.tup [(.str [36, 43, 32, 123, 120, 125]), (.fl [(.tup [(.str [101, 120, 112, 114]), (.str [36, 43])]), (.tup [(.str [116, 101, 120, 116]), (.str [32, 123, 120, 125])])]), .none]), (.tup [(.str [36, 43, 45, 62, 123, 120, 125]), (.fl [(.tup [(.str [101, 120, 112, 114]), (.str [36, 43, 45, 62, 123, 120, 125])])]), .none]), (.tup [(.str [36, 96, 96]), (.fl [(.tup [(.str [101, 120, 112, 114]), (.str [36, 96])]), (.tup [(.str [116, 101, 120, 116]), (.str [96])])]), .none]), (.tup [(.str [36, 39, 39, 91, 48, 93]), (.fl [(.tup [(.str [101, 120, 112, 114]), (.str [36, 39])]), (.tup [(.str [116, 101, 120, 116]), (.str [39, 91, 48, 93])])]), .none]), (.tup [(.str [36, 43, 123, 32, 121, 32, 125, 123, 122, 125, 43]), (.fl [(.tup [(.str [101, 120, 112, 114]), (.str [36, 43, 123, 32, 121, 32, 125, 123, 122, 125])]), (.tup [(.str [116, 101, 120, 116]), (.str [43])])]), .none]), (.tup [(.str [43, 39, 96]), (.fl [(.tup [(.str [116, 101, 120, 116]), (.str [43, 39, 96])])]), .none]), (.tup [(.str [36, 43, 36, 43]), (.fl [(.tup [(.str [101, 120, 112, 114]), (.str [36, 43])]), (.tup [(.str [101, 120, 112, 114]), (.str [36, 43])])]), .none]), (.tup [(.str [36, 124]), (.fl [(.tup [(.str [101, 120, 112, 114]), (.str [36, 124])])]), .none])])) (.comp 3 [1, 2] true (.lit (.fl [(.tup [(.str [36, 123, 120, 125, 91, 48, 93]), (.fl [(.tup [(.str [101, 120, 112, 114]), (.str [36, 123, 120, 125])]), (.tup [(.str [116, 101, 120, 116]), (.str [91, 48, 93])])])]), (.tup [(.str [36, 123, 120, 125, 123, 107, 125]), (.fl [(.tup [(.str [101, 120, 112, 114]), (.str [36, 123, 120, 125])]), (.tup [(.str [116, 101, 120, 116]), (.str [123, 107, 125])])])]), (.tup [(.str [64, 123, 120, 125, 91, 48, 93]), (.fl [(.tup [(.str [101, 120, 112, 114]), (.str [64, 123, 120, 125])]), (.tup [(.str [116, 101, 120, 116]), (.str [91, 48, 93])])])]), (.tup [(.str [36, 123, 32, 65, 58, 58, 98, 9, 125, 91, 49, 93]), (.fl [(.tup [(.str [101, 120, 112, 114]), (.str [36, 123, 32, 65, 58, 58, 98, 9, 125])]), (.tup [(.str [116, 101, 120, 116]), (.str [91, 49, 93])])])]), (.tup [(.str [36, 123, 49, 50, 125, 123, 107, 125]), (.fl [(.tup [(.str [101, 120, 112, 114]), (.str [36, 123, 49, 50, 125])]), (.tup [(.str [116, 101, 120, 116]), (.str [123, 107, 125])])])]), (.tup [(.str [36, 123, 120, 125, 45, 62, 91, 48, 93, 123, 107, 125]), (.fl [(.tup [(.str [101, 120, 112, 114]), (.str [36, 123, 120, 125, 45, 62, 91, 48, 93, 123, 107, 125])])])]), (.tup [(.str [36, 123, 36, 114, 125, 123, 107, 125, 91, 50, 93]), (.fl [(.tup [(.str [101, 120, 112, 114]), (.str [36, 123, 36, 114, 125, 123, 107, 125, 91, 50, 93])])])]), (.tup [(.str [64, 123, 36, 114, 125, 91, 48, 93]), (.fl [(.tup [(.str [101, 120, 112, 114]), (.str [64, 123, 36, 114, 125, 91, 48, 93])])])]), (.tup [(.str [36, 123, 120, 125, 45, 91, 48, 93]), (.fl [(.tup [(.str [101, 120, 112, 114]), (.str [36, 123, 120, 125])]), (.tup [(.str [116, 101, 120, 116]), (.str [45, 91, 48, 93])])])]), (.tup [(.str [36, 49, 91, 48, 93]), (.fl [(.tup [(.str [101, 120, 112, 114]), (.str [36, 49, 91, 48, 93])])])]), (.tup [(.str [36, 50, 51, 123, 107, 125, 45, 62, 91, 49, 93]), (.fl [(.tup [(.str [101, 120, 112, 114]), (.str [36, 50, 51, 123, 107, 125, 45, 62, 91, 49, 93])])])]), (.tup [(.str [36, 38, 91, 48, 93, 123, 107, 125]), (.fl [(.tup [(.str [101, 120, 112, 114]), (.str [36, 38, 91, 48, 93, 123, 107, 125])])])]), (.tup [(.str [36, 64, 45, 62, 123, 107, 125]), (.fl [(.tup [(.str [101, 120, 112, 114]), (.str [36, 64, 45, 62, 123, 107, 125])])])]), (.tup [(.str [36, 38, 43, 123, 120, 125]), (.fl [(.tup [(.str [101, 120, 112, 114]), (.str [36, 38])]), (.tup [(.str [116, 101, 120, 116]), (.str [43, 123, 120, 125])])])]), (.tup [(.str [36, 114, 45, 62, 123, 50, 125]), (.fl [(.tup [(.str [101, 120, 112, 114]), (.str [36, 114, 45, 62, 123, 50, 125])])])]), (.tup [(.str [36, 114, 45, 62, 91, 97, 98, 99, 40, 41, 93]), (.fl [(.tup [(.str [101, 120, 112, 114]), (.str [36, 114, 45, 62, 91, 97, 98, 99, 40, 41, 93])])])]), (.tup [(.str [36, 120, 91, 45, 36, 105, 93]), (.fl [(.tup [(.str [101, 120, 112, 114]), (.str [36, 120, 91, 45, 36, 105, 93])])])]), (.tup [(.str [36, 120, 91, 49, 50, 93]), (.fl [(.tup [(.str [101, 120, 112, 114]), (.str [36, 120, 91, 49, 50, 93])])])])])) (.tup (.cons (.loc 1) (.cons (.loc 2) (.cons (.loc 2) .nil)))) (.lit (.bool true)))) (.lit (.fl [(.tup [(.str [36, 120, 91, 50, 51, 52, 53, 93]), (.fl [(.tup [(.str [101, 120, 112, 114]), (.str [36, 120, 91, 50, 51, 52, 53, 93])])]), (.fl [(.tup [(.str [101, 120, 112, 114]), (.str [36, 120])]), (.tup [(.str [116, 101, 120, 116]), (.str [91, 50, 51, 52, 53, 93])])])]), (.tup [(.str [36, 120, 91, 45, 49, 50, 51, 93]), (.fl [(.tup [(.str [101, 120, 112, 114]), (.str [36, 120, 91, 45, 49, 50, 51, 93])])]), (.fl [(.tup [(.str [101, 120, 112, 114]), (.str [36, 120])]), (.tup [(.str [116, 101, 120, 116]), (.str [91, 45, 49, 50, 51, 93])])])]), (.tup [(.str [36, 49, 123, 50, 125]), (.fl [(.tup [(.str [101, 120, 112, 114]), (.str [36, 49, 123, 50, 125])])]), (.fl [(.tup [(.str [101, 120, 112, 114]), (.str [36, 49])]), (.tup [(.str [116, 101, 120, 116]), (.str [123, 50, 125])])])]), (.tup [(.str [36, 114, 45, 62, 123, 50, 125, 123, 51, 125]), (.fl [(.tup [(.str [101, 120, 112, 114]), (.str [36, 114, 45, 62, 123, 50, 125, 123, 51, 125])])]), (.fl [(.tup [(.str [101, 120, 112, 114]), (.str [36, 114, 45, 62, 123, 50, 125])]), (.tup [(.str [116, 101, 120, 116]), (.str [123, 51, 125])])])]), (.tup [(.str [36, 38, 91, 97, 98, 93]), (.fl [(.tup [(.str [101, 120, 112, 114]), (.str [36, 38, 91, 97, 98, 93])])]), (.fl [(.tup [(.str [101, 120, 112, 114]), (.str [36, 38])]), (.tup [(.str [116, 101, 120, 116]), (.str [91, 97, 98, 93])])])])]))) (.comp 3 [1, 2] true (.lit (.fl [(.tup [(.str [92, 36, 96]), (.fl [(.tup [(.str [116, 101, 120, 116]), (.str [36, 96])])])]), (.tup [(.str [92, 36, 43, 123, 120, 125]), (.fl [(.tup [(.str [116, 101, 120, 116]), (.str [36, 43, 123, 120, 125])])])]), (.tup [(.str [92, 85, 36, 39, 92, 69]), (.fl [(.tup [(.str [99, 97, 115, 101]), (.str [85]), (.fl [(.tup [(.str [101, 120, 112, 114]), (.str [36, 39])])])])])]), (.tup [(.str [92, 81, 97, 36, 43, 46, 92, 69]), (.fl [(.tup [(.str [99, 97, 115, 101]), (.str [81]), (.fl [(.tup [(.str [116, 101, 120, 116]), (.str [97])]), (.tup [(.str [101, 120, 112, 114]), (.str [36, 43])]), (.tup [(.str [116, 101, 120, 116]), (.str [46])])])])])])])) (.tup (.cons (.loc 1) (.cons (.loc 2) (.cons (.lst .nil) .nil)))) (.lit (.bool true)))))
  (.cons (.asgT [5, 6, 7, 8] (.tup (.cons (.lit (.str [])) (.cons (.lst .nil) (.cons (.lit (.str [])) (.cons (.lst .nil) .nil))))))
  (.cons (.forR 9 (.bin .add (.lit (.int (1))) (.call 425 (.cons (.loc 1) (.cons (.lit (.int (7))) .nil)))) fb437_0)
  (.cons (.ret (.and (.cmp .eq (.call 254 (.cons (.loc 5) (.cons (.lit (.bool false)) .nil))) (.call 432 (.cons (.loc 6) .nil))) (.cmp .eq (.call 254 (.cons (.loc 7) (.cons (.lit (.bool true)) .nil))) (.call 432 (.cons (.loc 8) .nil)))))
  .nil)))))
noncomputable def ftl : List (Nat × Df) := [(62, ⟨1, 1, b62⟩), (69, ⟨4, 7, b69⟩), (76, ⟨1, 1, b76⟩), (83, ⟨3, 6, b83⟩), (90, ⟨2, 5, b90⟩), (97, ⟨1, 1, b97⟩), (104, ⟨1, 1, b104⟩), (111, ⟨1, 1, b111⟩), (118, ⟨2, 4, b118⟩), (125, ⟨1, 1, b125⟩), (132, ⟨2, 3, b132⟩), (139, ⟨2, 3, b139⟩), (146, ⟨2, 7, b146⟩), (153, ⟨1, 2, b153⟩), (160, ⟨2, 5, b160⟩), (167, ⟨3, 4, b167⟩), (174, ⟨3, 6, b174⟩), (181, ⟨2, 4, b181⟩), (188, ⟨3, 4, b188⟩), (195, ⟨3, 6, b195⟩), (202, ⟨3, 4, b202⟩), (209, ⟨2, 3, b209⟩), (216, ⟨1, 3, b216⟩), (223, ⟨1, 1, b223⟩), (228, ⟨1, 1, b228⟩), (233, ⟨2, 2, b233⟩), (240, ⟨3, 5, b240⟩), (247, ⟨4, 7, b247⟩), (254, ⟨2, 5, b254⟩), (425, ⟨2, 2, b425⟩), (432, ⟨1, 3, b432⟩)]
noncomputable def FTf : Nat → Option Df := fun f => ftl.lookup f
set_option maxRecDepth 10000

/-! ## what the defs compute, on lists of signs -/
noncomputable def dg (c : Nat) : Bool := decide (48 ≤ c) && decide (c ≤ 57)
noncomputable def pw (c : Nat) : Bool := (decide (97 ≤ c) && decide (c ≤ 122)) || ((decide (65 ≤ c) && decide (c ≤ 90)) || (dg c || c == 95))
noncomputable def nst : List Nat → Bool
  | [] => false
  | c :: _ => pw c && !dg c
noncomputable def vl : List Nat → Nat
  | [] => 0
  | c :: r => if pw c then vl r + 1 else match r with
    | [] => 0
    | d :: r' => if c == 58 && d == 58 && nst r' then vl r' + 2 else 0
noncomputable def vn (s : List Nat) : Nat :=
  let k := if s.take 2 == [58, 58] && nst (s.drop 2) then 2 else 0
  if nst (s.drop k) then k + vl (s.drop k) else 0
noncomputable def clo (c : Nat) : Nat := if c = 40 then 41 else if c = 91 then 93 else if c = 123 then 125 else if c = 60 then 62 else c

noncomputable def hd1 : Ss → S
  | .nil => .bad
  | .cons s _ => s
noncomputable def tl1 : Ss → Ss
  | .nil => .nil
  | .cons _ r => r
/-! ## steps -/
theorem nc1 (a : Nat) : (a : Int) + 1 = ((a + 1 : Nat) : Int) := rfl
theorem nc2 (a : Nat) : (a : Int) + 2 = ((a + 2 : Nat) : Int) := rfl
theorem nc3 (a : Nat) : (a : Int) + 3 = ((a + 3 : Nat) : Int) := rfl
theorem nc4 (a : Nat) : (a : Int) + 4 = ((a + 4 : Nat) : Int) := rfl
theorem nc5 (a : Nat) : (a : Int) + 5 = ((a + 5 : Nat) : Int) := rfl
theorem nca (a b : Nat) : (a : Int) + (b : Int) = ((a + b : Nat) : Int) := rfl
theorem ncs (a : Nat) : ((a + 1 : Nat) : Int) - 1 = (a : Int) := by omega
theorem sl_nat (s : List Nat) (a b : Nat) : sl s (a : Int) (b : Int) = (s.drop a).take (b - a) := by
  unfold sl
  rw [Int.toNat_natCast, Int.toNat_natCast, List.drop_take]
theorem le_sign (c d : Nat) : (!decide ([c] < [d])) = decide (d ≤ c) := by
  by_cases h : c < d
  · have : [c] < [d] := List.Lex.rel h
    simp [this, Nat.not_le.mpr h]
  · have : ¬ [c] < [d] := by
      intro e
      cases e with
      | rel h' => exact h h'
      | cons h' => cases h'
    simp [this, Nat.not_lt.mp h]
theorem ite_ch {H : Hp} (a b : Bool) : (if a = true then some (V.bool b, H) else some (V.bool false, H)) = some (V.bool (a && b), H) := by cases a <;> rfl
theorem ite_and {H : Hp} (a b : Bool) : (if a = true then some (V.bool b, H) else some (V.bool a, H)) = some (V.bool (a && b), H) := by cases a <;> rfl
theorem ite_or {H : Hp} (a b : Bool) : (if a = true then some (V.bool a, H) else some (V.bool b, H)) = some (V.bool (a || b), H) := by cases a <;> rfl
theorem ite_tand {H : Hp} (a b : Bool) : (if a = true then some (b, H) else some (false, H)) = some (a && b, H) := by cases a <;> rfl
theorem ite_tor {H : Hp} (a b : Bool) : (if a = true then some (true, H) else some (b, H)) = some (a || b, H) := by cases a <;> rfl
theorem cons_ne (c : Nat) (l : List Nat) : ((c :: l) != ([] : List Nat)) = true := rfl
theorem cons_eq (c : Nat) (l : List Nat) : ((c :: l) == ([] : List Nat)) = false := rfl
theorem nil_ne : (([] : List Nat) != []) = false := rfl
theorem nil_eq : (([] : List Nat) == []) = true := rfl
theorem nil_eqc (d : Nat) (l : List Nat) : (([] : List Nat) == (d :: l)) = false := rfl
theorem nil_nec (d : Nat) (l : List Nat) : (([] : List Nat) != (d :: l)) = true := rfl
theorem one_eq (c d : Nat) : ([c] == [d]) = (c == d) := by simp
theorem one_ne (c d : Nat) : ([c] != [d]) = (c != d) := by simp [bne]
theorem retOf_ret (v : V) (ρ : Loc) (H : Hp) : retOf (.ret v, ρ, H) = some (v, H) := rfl
theorem retOf_next (ρ : Loc) (H : Hp) : retOf (.next, ρ, H) = some (.none, H) := rfl
theorem run_eq {W n f : Nat} {vs : List V} {H : Hp} {d : Df} (h : FTf f = some d) (hl : vs.length = d.ps) : run FTf W (n + 1) f vs H = (exs (run FTf W n) W d.body (unb vs ++ List.replicate (d.ls - d.ps) Option.none) H).bind retOf := by
  show ((FTf f).bind _) = _
  rw [h]
  exact if_pos hl
theorem r62 {W n : Nat} {H : Hp} (x : V) : run FTf W (n + 1) 62 [x] H = (exs (run FTf W n) W b62 [some x] H).bind retOf := run_eq (d := ⟨1, 1, b62⟩) (by kernel_rfl!) rfl
theorem r69 {W n : Nat} {H : Hp} (x y z u : V) : run FTf W (n + 1) 69 [x, y, z, u] H = (exs (run FTf W n) W b69 [some x, some y, some z, some u, Option.none, Option.none, Option.none] H).bind retOf := run_eq (d := ⟨4, 7, b69⟩) (by kernel_rfl!) rfl
theorem r76 {W n : Nat} {H : Hp} (x : V) : run FTf W (n + 1) 76 [x] H = (exs (run FTf W n) W b76 [some x] H).bind retOf := run_eq (d := ⟨1, 1, b76⟩) (by kernel_rfl!) rfl
theorem r83 {W n : Nat} {H : Hp} (x y z : V) : run FTf W (n + 1) 83 [x, y, z] H = (exs (run FTf W n) W b83 [some x, some y, some z, Option.none, Option.none, Option.none] H).bind retOf := run_eq (d := ⟨3, 6, b83⟩) (by kernel_rfl!) rfl
theorem r90 {W n : Nat} {H : Hp} (x y : V) : run FTf W (n + 1) 90 [x, y] H = (exs (run FTf W n) W b90 [some x, some y, Option.none, Option.none, Option.none] H).bind retOf := run_eq (d := ⟨2, 5, b90⟩) (by kernel_rfl!) rfl
theorem r97 {W n : Nat} {H : Hp} (x : V) : run FTf W (n + 1) 97 [x] H = (exs (run FTf W n) W b97 [some x] H).bind retOf := run_eq (d := ⟨1, 1, b97⟩) (by kernel_rfl!) rfl
theorem r104 {W n : Nat} {H : Hp} (x : V) : run FTf W (n + 1) 104 [x] H = (exs (run FTf W n) W b104 [some x] H).bind retOf := run_eq (d := ⟨1, 1, b104⟩) (by kernel_rfl!) rfl
theorem r111 {W n : Nat} {H : Hp} (x : V) : run FTf W (n + 1) 111 [x] H = (exs (run FTf W n) W b111 [some x] H).bind retOf := run_eq (d := ⟨1, 1, b111⟩) (by kernel_rfl!) rfl
theorem r118 {W n : Nat} {H : Hp} (x y : V) : run FTf W (n + 1) 118 [x, y] H = (exs (run FTf W n) W b118 [some x, some y, Option.none, Option.none] H).bind retOf := run_eq (d := ⟨2, 4, b118⟩) (by kernel_rfl!) rfl
theorem r125 {W n : Nat} {H : Hp} (x : V) : run FTf W (n + 1) 125 [x] H = (exs (run FTf W n) W b125 [some x] H).bind retOf := run_eq (d := ⟨1, 1, b125⟩) (by kernel_rfl!) rfl
theorem r132 {W n : Nat} {H : Hp} (x y : V) : run FTf W (n + 1) 132 [x, y] H = (exs (run FTf W n) W b132 [some x, some y, Option.none] H).bind retOf := run_eq (d := ⟨2, 3, b132⟩) (by kernel_rfl!) rfl
theorem r139 {W n : Nat} {H : Hp} (x y : V) : run FTf W (n + 1) 139 [x, y] H = (exs (run FTf W n) W b139 [some x, some y, Option.none] H).bind retOf := run_eq (d := ⟨2, 3, b139⟩) (by kernel_rfl!) rfl
theorem r146 {W n : Nat} {H : Hp} (x y : V) : run FTf W (n + 1) 146 [x, y] H = (exs (run FTf W n) W b146 [some x, some y, Option.none, Option.none, Option.none, Option.none, Option.none] H).bind retOf := run_eq (d := ⟨2, 7, b146⟩) (by kernel_rfl!) rfl
theorem r153 {W n : Nat} {H : Hp} (x : V) : run FTf W (n + 1) 153 [x] H = (exs (run FTf W n) W b153 [some x, Option.none] H).bind retOf := run_eq (d := ⟨1, 2, b153⟩) (by kernel_rfl!) rfl
theorem r160 {W n : Nat} {H : Hp} (x y : V) : run FTf W (n + 1) 160 [x, y] H = (exs (run FTf W n) W b160 [some x, some y, Option.none, Option.none, Option.none] H).bind retOf := run_eq (d := ⟨2, 5, b160⟩) (by kernel_rfl!) rfl
theorem r167 {W n : Nat} {H : Hp} (x y z : V) : run FTf W (n + 1) 167 [x, y, z] H = (exs (run FTf W n) W b167 [some x, some y, some z, Option.none] H).bind retOf := run_eq (d := ⟨3, 4, b167⟩) (by kernel_rfl!) rfl
theorem r174 {W n : Nat} {H : Hp} (x y z : V) : run FTf W (n + 1) 174 [x, y, z] H = (exs (run FTf W n) W b174 [some x, some y, some z, Option.none, Option.none, Option.none] H).bind retOf := run_eq (d := ⟨3, 6, b174⟩) (by kernel_rfl!) rfl
theorem r181 {W n : Nat} {H : Hp} (x y : V) : run FTf W (n + 1) 181 [x, y] H = (exs (run FTf W n) W b181 [some x, some y, Option.none, Option.none] H).bind retOf := run_eq (d := ⟨2, 4, b181⟩) (by kernel_rfl!) rfl
theorem r188 {W n : Nat} {H : Hp} (x y z : V) : run FTf W (n + 1) 188 [x, y, z] H = (exs (run FTf W n) W b188 [some x, some y, some z, Option.none] H).bind retOf := run_eq (d := ⟨3, 4, b188⟩) (by kernel_rfl!) rfl
theorem r195 {W n : Nat} {H : Hp} (x y z : V) : run FTf W (n + 1) 195 [x, y, z] H = (exs (run FTf W n) W b195 [some x, some y, some z, Option.none, Option.none, Option.none] H).bind retOf := run_eq (d := ⟨3, 6, b195⟩) (by kernel_rfl!) rfl
theorem r202 {W n : Nat} {H : Hp} (x y z : V) : run FTf W (n + 1) 202 [x, y, z] H = (exs (run FTf W n) W b202 [some x, some y, some z, Option.none] H).bind retOf := run_eq (d := ⟨3, 4, b202⟩) (by kernel_rfl!) rfl
theorem r209 {W n : Nat} {H : Hp} (x y : V) : run FTf W (n + 1) 209 [x, y] H = (exs (run FTf W n) W b209 [some x, some y, Option.none] H).bind retOf := run_eq (d := ⟨2, 3, b209⟩) (by kernel_rfl!) rfl
theorem r216 {W n : Nat} {H : Hp} (x : V) : run FTf W (n + 1) 216 [x] H = (exs (run FTf W n) W b216 [some x, Option.none, Option.none] H).bind retOf := run_eq (d := ⟨1, 3, b216⟩) (by kernel_rfl!) rfl
theorem r223 {W n : Nat} {H : Hp} (x : V) : run FTf W (n + 1) 223 [x] H = (exs (run FTf W n) W b223 [some x] H).bind retOf := run_eq (d := ⟨1, 1, b223⟩) (by kernel_rfl!) rfl
theorem r228 {W n : Nat} {H : Hp} (x : V) : run FTf W (n + 1) 228 [x] H = (exs (run FTf W n) W b228 [some x] H).bind retOf := run_eq (d := ⟨1, 1, b228⟩) (by kernel_rfl!) rfl
theorem r233 {W n : Nat} {H : Hp} (x y : V) : run FTf W (n + 1) 233 [x, y] H = (exs (run FTf W n) W b233 [some x, some y] H).bind retOf := run_eq (d := ⟨2, 2, b233⟩) (by kernel_rfl!) rfl
theorem r240 {W n : Nat} {H : Hp} (x y z : V) : run FTf W (n + 1) 240 [x, y, z] H = (exs (run FTf W n) W b240 [some x, some y, some z, Option.none, Option.none] H).bind retOf := run_eq (d := ⟨3, 5, b240⟩) (by kernel_rfl!) rfl
theorem r247 {W n : Nat} {H : Hp} (x y z u : V) : run FTf W (n + 1) 247 [x, y, z, u] H = (exs (run FTf W n) W b247 [some x, some y, some z, some u, Option.none, Option.none, Option.none] H).bind retOf := run_eq (d := ⟨4, 7, b247⟩) (by kernel_rfl!) rfl
theorem r254 {W n : Nat} {H : Hp} (x y : V) : run FTf W (n + 1) 254 [x, y] H = (exs (run FTf W n) W b254 [some x, some y, Option.none, Option.none, Option.none] H).bind retOf := run_eq (d := ⟨2, 5, b254⟩) (by kernel_rfl!) rfl
theorem r425 {W n : Nat} {H : Hp} (x y : V) : run FTf W (n + 1) 425 [x, y] H = (exs (run FTf W n) W b425 [some x, some y] H).bind retOf := run_eq (d := ⟨2, 2, b425⟩) (by kernel_rfl!) rfl
theorem r432 {W n : Nat} {H : Hp} (x : V) : run FTf W (n + 1) 432 [x] H = (exs (run FTf W n) W b432 [some x, Option.none, Option.none] H).bind retOf := run_eq (d := ⟨1, 3, b432⟩) (by kernel_rfl!) rfl

theorem q_lt {H : Hp} (x y : Int) : cmp2 .lt (.int x) (.int y) H = some (decide (x < y)) := rfl
theorem q_le {H : Hp} (x y : Int) : cmp2 .le (.int x) (.int y) H = some (decide (x ≤ y)) := rfl
theorem q_gt {H : Hp} (x y : Int) : cmp2 .gt (.int x) (.int y) H = some (decide (y < x)) := rfl
theorem q_ge {H : Hp} (x y : Int) : cmp2 .ge (.int x) (.int y) H = some (decide (y ≤ x)) := rfl
theorem q_eq {H : Hp} (x y : Int) : cmp2 .eq (.int x) (.int y) H = some (x == y) := rfl
theorem q_ne {H : Hp} (x y : Int) : cmp2 .ne (.int x) (.int y) H = some (x != y) := rfl
theorem q_les {H : Hp} (x y : List Nat) : cmp2 .le (.str x) (.str y) H = some (!decide (y < x)) := rfl
theorem q_eqs {H : Hp} (x y : List Nat) : cmp2 .eq (.str x) (.str y) H = some (x == y) := rfl
theorem q_nes {H : Hp} (x y : List Nat) : cmp2 .ne (.str x) (.str y) H = some (x != y) := rfl
theorem q_in {H : Hp} (x y : V) : cmp2 .isin x y H = isIn x y := by cases x <;> cases y <;> rfl
theorem p_add {H : Hp} (x y : Int) : bin2 .add (.int x) (.int y) H = some (.int (x + y), H) := rfl
theorem p_sub {H : Hp} (x y : Int) : bin2 .sub (.int x) (.int y) H = some (.int (x - y), H) := rfl
theorem p_adds {H : Hp} (x y : List Nat) : bin2 .add (.str x) (.str y) H = if x.length + y.length ≤ lim then some (.str (x ++ y), H) else Option.none := rfl
theorem tr_bool (b : Bool) : truth (.bool b) = some b := rfl
theorem nlt (a b : Nat) : decide ((a : Int) < (b : Int)) = decide (a < b) := by simp
theorem nle (a b : Nat) : decide ((a : Int) ≤ (b : Int)) = decide (a ≤ b) := by simp
theorem neq (a b : Nat) : ((a : Int) == (b : Int)) = (a == b) := by
  by_cases h : a = b
  · simp [h]
  · rw [beq_eq_false_iff_ne.mpr h, beq_eq_false_iff_ne.mpr (by omega)]
theorem nne (a b : Nat) : ((a : Int) != (b : Int)) = (a != b) := by simp only [bne, neq]
theorem obs {α β : Type} (a : α) (f : α → Option β) : (some a).bind f = f a := rfl
theorem obn {α β : Type} (f : α → Option β) : (Option.none : Option α).bind f = Option.none := rfl
theorem oms {α β : Type} (a : α) (f : α → β) : (some a).map f = some (f a) := rfl
section
variable {O : Orc} {ρ : Loc} {H : Hp}
variable {W : Nat}
theorem s_nil : exs O W .nil ρ H = some (.next, ρ, H) := rfl
theorem s_cons (s : S) (r : Ss) : exs O W (.cons s r) ρ H = (ex O W s ρ H).bind (seqR (exs O W r)) := rfl
theorem sq_next (k : Loc → Hp → Rs) : seqR k (.next, ρ, H) = k ρ H := rfl
theorem sq_brk (k : Loc → Hp → Rs) : seqR k (.brk, ρ, H) = some (.brk, ρ, H) := rfl
theorem sq_cont (k : Loc → Hp → Rs) : seqR k (.cont, ρ, H) = some (.cont, ρ, H) := rfl
theorem sq_ret (k : Loc → Hp → Rs) (v : V) : seqR k (.ret v, ρ, H) = some (.ret v, ρ, H) := rfl
theorem sq_id (x : Rs) : x.bind (seqR (exs O W .nil)) = x := by
  cases x with
  | none => rfl
  | some p =>
    obtain ⟨o, ρ, H⟩ := p
    cases o <;> rfl
theorem x_brk : ex O W .brk ρ H = some (.brk, ρ, H) := rfl
theorem x_cont : ex O W .cont ρ H = some (.cont, ρ, H) := rfl
theorem x_asg (i : Nat) (e : E) : ex O W (.asg i e) ρ H = (ev O e ρ H).bind fun p => some (.next, ρ.set i (some p.1), p.2) := rfl
theorem x_asgT (is : List Nat) (e : E) : ex O W (.asgT is e) ρ H = (ev O e ρ H).bind fun p => asgV is ρ p.1 p.2 := rfl
theorem x_asgR (is : List Nat) (e : E) : ex O W (.asgR is e) ρ H = (ev O e ρ H).bind fun p => asgRV is ρ p.1 p.2 := rfl
theorem asgV_tup (is : List Nat) (vs : List V) : asgV is ρ (.tup vs) H = (setAll is vs ρ).bind fun ρ => some (.next, ρ, H) := rfl
theorem asgRV_tup (is : List Nat) (vs : List V) : asgRV is ρ (.tup vs) H = (setAll is.reverse vs.reverse ρ).bind fun ρ => some (.next, ρ, H) := rfl
theorem setAll_nil : setAll [] [] ρ = some ρ := rfl
theorem setAll_cons (i : Nat) (is : List Nat) (v : V) (vs : List V) : setAll (i :: is) (v :: vs) ρ = setAll is vs (ρ.set i (some v)) := rfl
theorem x_set (a i e : E) : ex O W (.set a i e) ρ H = (ev O e ρ H).bind fun p => (ev O a ρ p.2).bind fun q => (ev O i ρ q.2).bind fun r => setV ρ q.1 r.1 p.1 r.2 := rfl
theorem x_augN (i : Nat) (o : Op2) (e : E) : ex O W (.augN i o e) ρ H = (ρ[i]?).bind fun u => u.bind fun u => (ev O e ρ H).bind fun p => (augV o u p.1 p.2).bind fun q => some (.next, ρ.set i (some q.1), q.2) := rfl
theorem augV_int (o : Op2) (x : Int) (v : V) : augV o (.int x) v H = bin2 o (.int x) v H := rfl
theorem augV_str (o : Op2) (x : List Nat) (v : V) : augV o (.str x) v H = bin2 o (.str x) v H := rfl
theorem x_ite (c : E) (a b : Ss) : ex O W (.ite c a b) ρ H = (tst O c ρ H).bind fun p => if p.1 = true then exs O W a ρ p.2 else exs O W b ρ p.2 := rfl
theorem x_whl (c : E) (b : Ss) : ex O W (.whl c b) ρ H = wloop (tst O c) (exs O W b) W ρ H := rfl
theorem x_ret (e : E) : ex O W (.ret e) ρ H = (ev O e ρ H).bind fun p => some (.ret p.1, ρ, p.2) := rfl
theorem x_ex (e : E) : ex O W (.ex e) ρ H = (ev O e ρ H).bind fun p => exV ρ p.1 p.2 := rfl
theorem exV_none : exV ρ .none H = some (.next, ρ, H) := rfl
theorem x_forE (i : Nat) (e : E) (b : Ss) : ex O W (.forE i e b) ρ H = (ev O e ρ H).bind fun p => forX W i (exs O W b) ρ p.1 p.2 := rfl
theorem x_forR (i : Nat) (e : E) (b : Ss) : ex O W (.forR i e b) ρ H = (ev O e ρ H).bind fun p => forRX i (exs O W b) ρ p.1 p.2 := rfl
end
theorem x_slc {H : Hp} (s : List Nat) (a b : Nat) (h : b ≤ 1048576 ∧ s.length ≤ 1048576) : slcV (.str s) (.int (a : Int)) (.int (b : Int)) H = some (V.str ((s.drop a).take (b - a)), H) := by
  show (if 0 ≤ (a : Int) ∧ 0 ≤ (b : Int) ∧ (b : Int) ≤ (lim : Int) ∧ s.length ≤ lim then some (V.str (sl s a b), H) else Option.none) = _
  rw [if_pos (by rw [lim_eq]; omega), sl_nat]
theorem x_idx (s : List Nat) {H : Hp} (a c : Nat) (r : List Nat) (hs : s.drop a = c :: r) (h : a ≤ 1048576) : idx2 (.str s) (.int (a : Int)) H = some (.str [c]) := by
  have e : s[a]? = some c := by
    have := congrArg (fun l => l[0]?) hs
    simpa using this
  show (if 0 ≤ (a : Int) ∧ (a : Int) ≤ (lim : Int) then (s[(a : Int).toNat]?).map (fun c => V.str [c]) else Option.none) = _
  rw [if_pos (by rw [lim_eq]; omega), Int.toNat_natCast, e]
  rfl
theorem x_len {H : Hp} (s : List Nat) (h : s.length ≤ 1048576) : lenV (.str s) H = some (V.int (s.length : Int), H) := if_pos (lim_le h)
section
variable {t : Loc → Hp → Option (Bool × Hp)} {b : Loc → Hp → Rs} {n : Nat} {ρ ρ2 : Loc} {H H' H2 : Hp} {v : V}
theorem wl_end (h : t ρ H = some (false, H')) : wloop t b (n + 1) ρ H = some (.next, ρ, H') := by
  show (t ρ H).bind _ = _
  rw [h]
  rfl
theorem wl_step {r : Rs} (h : t ρ H = some (true, H')) (hb : (b ρ H').bind (lp (wloop t b n)) = r) : wloop t b (n + 1) ρ H = r := by
  show (t ρ H).bind _ = _
  rw [h]
  exact hb
theorem wl_next (h : t ρ H = some (true, H')) (hb : b ρ H' = some (.next, ρ2, H2)) : wloop t b (n + 1) ρ H = wloop t b n ρ2 H2 := wl_step h (by rw [hb]; rfl)
theorem wl_cont (h : t ρ H = some (true, H')) (hb : b ρ H' = some (.cont, ρ2, H2)) : wloop t b (n + 1) ρ H = wloop t b n ρ2 H2 := wl_step h (by rw [hb]; rfl)
theorem wl_brk (h : t ρ H = some (true, H')) (hb : b ρ H' = some (.brk, ρ2, H2)) : wloop t b (n + 1) ρ H = some (.next, ρ2, H2) := wl_step h (by rw [hb]; rfl)
theorem wl_ret (h : t ρ H = some (true, H')) (hb : b ρ H' = some (.ret v, ρ2, H2)) : wloop t b (n + 1) ρ H = some (.ret v, ρ2, H2) := wl_step h (by rw [hb]; rfl)
end



theorem drop_cons {t : List Nat} {e : Nat} {c : Nat} {r : List Nat} (h : t.drop e = c :: r) : e < t.length ∧ t.drop (e + 1) = r := by
  constructor
  · false_or_by_contra
    rename_i hc
    rw [List.drop_eq_nil_of_le (Nat.not_lt.mp hc)] at h
    cases h
  · rw [← List.drop_drop, h]
    rfl
theorem drop_nil {t : List Nat} {e : Nat} (h : t.drop e = []) : t.length ≤ e := List.drop_eq_nil_iff.mp h

section
variable {O : Orc} {W : Nat} {H : Hp}
abbrev P111 (O : Orc) : Prop := ∀ (c : Nat) (H : Hp), O 111 [.str [c]] H = some (.bool (pw c), H)
abbrev P125 (O : Orc) : Prop := ∀ (s : List Nat) (H : Hp), O 125 [.str (s.take 1)] H = some (.bool (nst s), H)
theorem g111 (c : Nat) : (exs O W b111 [some (.str [c])] H).bind retOf = some (.bool (pw c), H) := by
  unfold b111
  simp (disch := omega) only [↓s_cons, ↓x_ret, ↓e_or, ↓e_chain, ↓e_lit, ↓e_loc, List.getElem?_cons_zero, obs, q_les, le_sign, ite_ch, ↓e_cmp, q_eqs, one_eq, tr_bool, ite_or, sq_ret, retOf_ret]
  rfl
theorem f111 (n : Nat) : P111 (run FTf W (n + 1)) := fun c H => (r111 _).trans (g111 c)
theorem g125 (h : P111 O) (s : List Nat) : (exs O W b125 [some (.str (s.take 1))] H).bind retOf = some (.bool (nst s), H) := by
  unfold b125
  cases s with
  | nil => simp (disch := omega) only [↓s_cons, ↓x_ret, ↓e_and, ↓e_cmp, ↓e_loc, List.getElem?_cons_zero, obs, ↓e_lit, q_nes, ↓e_call, ↓es_cons, ↓es_nil, ↓e_not, ↓e_chain, q_les, ite_ch, tr_bool, sq_id]; rfl
  | cons c r =>
    rw [List.take_succ_cons, List.take_zero]
    simp (disch := omega) only [↓s_cons, ↓x_ret, ↓e_and, ↓e_cmp, ↓e_loc, List.getElem?_cons_zero, obs, ↓e_lit, q_nes, cons_ne, ↓e_call, ↓es_cons, ↓es_nil, ↓e_not, ↓e_chain, q_les, le_sign, ite_ch, tr_bool, if_true, sq_id]
    rw [h]
    simp (disch := omega) only [obs, tr_bool, ite_and, retOf_ret]
    rfl
theorem f125 (n : Nat) : P125 (run FTf W (n + 2)) := fun s H => (r125 _).trans (g125 (f111 n) s)

theorem vl_pw {c : Nat} {r : List Nat} (h : pw c = true) : vl (c :: r) = vl r + 1 := by
  rw [vl.eq_def]
  simp [h]
theorem vl_col {c : Nat} {r : List Nat} (hp : pw c = false) (hq : ((c :: r).take 2 == [58, 58] && nst (r.drop 1)) = true) : vl (c :: r) = vl (r.drop 1) + 2 := by
  cases r with
  | nil => simp at hq
  | cons d r =>
    rw [vl.eq_def]
    simp only [List.take_succ_cons, List.take_zero, List.drop_succ_cons, List.drop_zero, Bool.and_eq_true, beq_iff_eq, List.cons.injEq, and_true] at hq
    rw [hq.1.1] at hp ⊢
    simp [hp, hq.1.2, hq.2]
theorem vl_no {c : Nat} {r : List Nat} (hp : pw c = false) (hq : ((c :: r).take 2 == [58, 58] && nst (r.drop 1)) = false) : vl (c :: r) = 0 := by
  cases r with
  | nil => rw [vl.eq_def]; simp [hp]
  | cons d r =>
    rw [vl.eq_def]
    simp only [List.take_succ_cons, List.take_zero, List.drop_succ_cons, List.drop_zero] at hq
    simp only [hp, Bool.false_eq_true, if_false]
    rw [if_neg]
    intro h
    simp only [Bool.and_eq_true, beq_iff_eq] at h
    rw [h.1.1, h.1.2, h.2] at hq
    simp at hq

theorem l132 (h1 : P111 O) (h2 : P125 O) (t : List Nat) (ht : t.length ≤ 1000) (x : Option V) : ∀ (k : Nat) (s : List Nat), s.length ≤ k → ∀ (e fuel : Nat), t.drop e = s → k < fuel →
    wloop (tst O wc132_0) (exs O W wb132_1) fuel [some (.str t), x, some (.int (e : Nat))] H = some (.next, [some (.str t), x, some (.int ((e + vl s : Nat) : Int))], H) := by
  intro k
  induction k with
  | zero =>
    intro s hs e fuel hd hf
    obtain ⟨fuel, rfl⟩ : ∃ f, fuel = f + 1 := ⟨fuel - 1, by omega⟩
    have : s = [] := List.length_eq_zero_iff.mp (by omega)
    subst this
    have := drop_nil hd
    refine wl_end ?_
    unfold wc132_0
    simp (disch := omega) only [↓t_cmp, ↓e_loc, List.getElem?_cons_succ, List.getElem?_cons_zero, obs, ↓e_len, x_len, q_lt, nlt]
    rw [decide_eq_false (by omega)]
  | succ k ih =>
    intro s hs e fuel hd hf
    obtain ⟨fuel, rfl⟩ : ∃ f, fuel = f + 1 := ⟨fuel - 1, by omega⟩
    cases s with
    | nil =>
      have := drop_nil hd
      refine wl_end ?_
      unfold wc132_0
      simp (disch := omega) only [↓t_cmp, ↓e_loc, List.getElem?_cons_succ, List.getElem?_cons_zero, obs, ↓e_len, x_len, q_lt, nlt]
      rw [decide_eq_false (by omega)]
    | cons c r =>
      obtain ⟨hl, hr⟩ := drop_cons hd
      have hi := fun H => x_idx t (H := H) e c r hd (by omega)
      have hte : tst O wc132_0 [some (.str t), x, some (.int (e : Nat))] H = some (true, H) := by
        unfold wc132_0
        simp (disch := omega) only [↓t_cmp, ↓e_loc, List.getElem?_cons_succ, List.getElem?_cons_zero, obs, ↓e_len, x_len, q_lt, nlt]
        rw [decide_eq_true (by omega)]
      by_cases hp : pw c = true
      · refine (wl_next (ρ2 := [some (.str t), x, some (.int ((e + 1 : Nat) : Int))]) (H2 := H) hte ?_).trans ?_
        · unfold wb132_1
          simp (disch := omega) only [↓s_cons, ↓x_ite, ↓t_call, ↓e_call, ↓es_cons, ↓e_idx, ↓e_loc, List.getElem?_cons_zero, obs, List.getElem?_cons_succ, ↓es_nil, tr_bool, ↓x_augN, ↓e_lit, List.set_cons_succ, List.set_cons_zero, augV_int, p_add, nc1, sq_next, ↓s_nil, ↓t_and, ↓t_cmp, ↓e_slcs, ↓e_bin, nc2, x_slc, Nat.add_sub_cancel_left, q_eqs, nc3, Nat.add_sub_add_left, Nat.reduceSub, ↓x_brk, sq_brk, sq_id, if_true, hi, h1, hp]
        · rw [ih r (by rw [List.length_cons] at hs; omega) (e + 1) fuel hr (by omega)]
          rw [vl_pw hp, show e + 1 + vl r = e + (vl r + 1) from by omega]
      · have hp := eq_false_of_ne_true hp
        have h2d : t.drop (e + 2) = r.drop 1 := by rw [← hr, List.drop_drop]
        by_cases hq : ((t.drop e).take 2 == [58, 58] && nst (t.drop (e + 2))) = true
        · refine (wl_next (ρ2 := [some (.str t), x, some (.int ((e + 2 : Nat) : Int))]) (H2 := H) hte ?_).trans ?_
          · unfold wb132_1
            simp (disch := omega) only [↓s_cons, ↓x_ite, ↓t_call, ↓e_call, ↓es_cons, ↓e_idx, ↓e_loc, List.getElem?_cons_zero, obs, List.getElem?_cons_succ, ↓es_nil, tr_bool, ↓x_augN, ↓e_lit, List.set_cons_succ, List.set_cons_zero, augV_int, p_add, nc1, sq_next, ↓s_nil, ↓t_and, ↓t_cmp, ↓e_slcs, ↓e_bin, nc2, x_slc, Nat.add_sub_cancel_left, q_eqs, nc3, Nat.add_sub_add_left, Nat.reduceSub, ite_tand, ↓x_brk, sq_brk, if_true, Bool.false_eq_true, if_false, hi, h1, hp, h2, hq]
          · rw [ih (r.drop 1) (by rw [List.length_cons] at hs; rw [List.length_drop]; omega) (e + 2) fuel h2d (by omega)]
            rw [hd, h2d] at hq
            rw [vl_col hp hq, show e + 2 + vl (r.drop 1) = e + (vl (r.drop 1) + 2) from by omega]
        · have hq := eq_false_of_ne_true hq
          refine (wl_brk (ρ2 := [some (.str t), x, some (.int ((e : Nat) : Int))]) (H2 := H) hte ?_).trans ?_
          · unfold wb132_1
            simp (disch := omega) only [↓s_cons, ↓x_ite, ↓t_call, ↓e_call, ↓es_cons, ↓e_idx, ↓e_loc, List.getElem?_cons_zero, obs, List.getElem?_cons_succ, ↓es_nil, tr_bool, ↓x_augN, ↓e_lit, List.set_cons_succ, List.set_cons_zero, augV_int, p_add, nc1, sq_next, ↓s_nil, ↓t_and, ↓t_cmp, ↓e_slcs, ↓e_bin, nc2, x_slc, Nat.add_sub_cancel_left, q_eqs, nc3, Nat.add_sub_add_left, Nat.reduceSub, ite_tand, ↓x_brk, sq_brk, Bool.false_eq_true, if_false, hi, h1, hp, h2, hq]
          · rw [hd, h2d] at hq
            rw [vl_no hp hq]
            rfl
abbrev P132 (O : Orc) : Prop := ∀ (t : List Nat) (a : Nat) (H : Hp), t.length ≤ 1000 → a ≤ 2000 → O 132 [.str t, .int (a : Nat)] H = some (.int ((a + vn (t.drop a) : Nat) : Int), H)
theorem g132 (hW : 2000 ≤ W) (h1 : P111 O) (h2 : P125 O) (t : List Nat) (a : Nat) (ht : t.length ≤ 1000) (ha : a ≤ 2000) : (exs O W b132 [some (.str t), some (.int (a : Nat)), Option.none] H).bind retOf = some (.int ((a + vn (t.drop a) : Nat) : Int), H) := by
  have lp := fun e => l132 (O := O) (W := W) (H := H) h1 h2 t ht (some (.int (a : Nat))) 1000 (t.drop e) (by rw [List.length_drop]; omega) e W rfl (by omega)
  unfold b132
  unfold vn
  cases hb : ((t.drop a).take 2 == [58, 58]) <;> cases hn : nst (t.drop (a + 2)) <;> cases hm : nst (t.drop a) <;> simp (disch := omega) only [↓s_cons, ↓x_asg, ↓e_loc, List.getElem?_cons_succ, List.getElem?_cons_zero, obs, List.set_cons_succ, List.set_cons_zero, sq_next, ↓x_ite, ↓t_and, ↓t_cmp, ↓e_slcs, ↓e_bin, ↓e_lit, p_add, nc2, x_slc, Nat.add_sub_cancel_left, q_eqs, ↓t_call, ↓e_call, ↓es_cons, nc3, Nat.add_sub_add_left, Nat.reduceSub, ↓es_nil, tr_bool, ite_tand, Bool.and_false, ↓s_nil, Bool.false_eq_true, if_false, ↓t_not, nc1, Bool.not_false, ↓x_ret, sq_ret, if_true, retOf_ret, Nat.add_zero, Nat.zero_add, Bool.not_true, ↓x_whl, Bool.and_true, Nat.reduceAdd, h2, hb, hn, hm, lp, List.drop_drop, Nat.add_assoc]
theorem f132 (hW : 2000 ≤ W) (n : Nat) : P132 (run FTf W (n + 3)) := fun t a H ht ha => (r132 _ _).trans (g132 hW (f111 (n + 1)) (f125 n) t a ht ha)
end
noncomputable def qf (q : Nat) : Nat → List Nat → Option Nat
  | 0, _ => none
  | _ + 1, [] => none
  | f + 1, c :: r => if c == 92 then (qf q f (r.drop 1)).map (· + 2) else if c == q then some 1 else (qf q f r).map (· + 1)
noncomputable def qk : List Nat → Nat
  | [] => 1
  | q :: r => match qf q 1001 r with
    | some k => 1 + k
    | none => 1
noncomputable def sbl (o cl : Nat) : Nat → Int → List Nat → Option Nat
  | 0, _, _ => none
  | _ + 1, _, [] => none
  | f + 1, d, c :: r =>
    if c == 92 then (sbl o cl f d (r.drop 1)).map (· + 2)
    else if c == 39 || c == 34 then (sbl o cl f d ((c :: r).drop (qk (c :: r)))).map (· + qk (c :: r))
    else if c == o then (sbl o cl f (d + 1) r).map (· + 1)
    else if c == cl then (if d - 1 == 0 then some 0 else (sbl o cl f (d - 1) r).map (· + 1))
    else (sbl o cl f d r).map (· + 1)
noncomputable def sb : List Nat → Option Nat
  | [] => none
  | o :: r => match sbl o (clo o) 1001 0 (o :: r) with
    | none => none
    | some k => if stripL (r.take (k - 1)) [32, 9, 10] == [] then none else some (k + 1)

section
variable {O : Orc} {W : Nat} {H : Hp}
abbrev P62 (O : Orc) : Prop := ∀ (c : Nat) (H : Hp), O 62 [.str [c]] H = some (.str [clo c], H)
theorem get_clo (c : Nat) (H : Hp) : getV (.dct [([40], [41]), ([91], [93]), ([123], [125]), ([60], [62])]) (.str [c]) (.str [c]) H = some (.str [clo c], H) := by
  unfold getV getD2 clo
  by_cases h1 : c = 40
  · subst h1; rfl
  · by_cases h2 : c = 91
    · subst h2; rfl
    · by_cases h3 : c = 123
      · subst h3; rfl
      · by_cases h4 : c = 60
        · subst h4; rfl
        · have e : List.lookup [c] [([40], [41]), ([91], [93]), ([123], [125]), ([60], [62])] = none := by
            simp [List.lookup_cons, beq_eq_false_iff_ne.mpr h1, beq_eq_false_iff_ne.mpr h2, beq_eq_false_iff_ne.mpr h3, beq_eq_false_iff_ne.mpr h4]
          simp only [e, h1, h2, h3, h4, if_false]
theorem g62 (c : Nat) : (exs O W b62 [some (.str [c])] H).bind retOf = some (.str [clo c], H) := by
  unfold b62
  simp (disch := omega) only [↓s_cons, ↓x_ret, ↓e_get, ↓e_lit, ↓e_loc, List.getElem?_cons_zero, obs, sq_ret, retOf_ret, get_clo]
theorem f62 (n : Nat) : P62 (run FTf W (n + 1)) := fun c H => (r62 _).trans (g62 c)

abbrev P153 (O : Orc) : Prop := ∀ (t : List Nat) (H : Hp), t.length ≤ 1000 → O 153 [.str t] H = some (.bool (!(t == []) && t.all dg), H)
theorem l153 (t : List Nat) : ∀ (s : List Nat) (o : Option V), ∃ o', floop 1 (exs O W fb153_0) (s.map fun c => V.str [c]) [some (.str t), o] H = some (if s.all dg = true then .next else .ret (.bool false), [some (.str t), o'], H) := by
  intro s
  induction s with
  | nil => intro o; exact ⟨o, rfl⟩
  | cons c r ih =>
    intro o
    obtain ⟨o', ho⟩ := ih (some (.str [c]))
    have hb : exs O W fb153_0 [some (.str t), some (.str [c])] H = some (if dg c = true then .next else .ret (.bool false), [some (.str t), some (.str [c])], H) := by
      unfold fb153_0
      have : (decide (48 ≤ c) && decide (c ≤ 57)) = dg c := rfl
      cases hd : dg c <;> simp (disch := omega) only [↓s_cons, ↓x_ite, ↓t_not, ↓t_chain, ↓e_chain, ↓e_lit, ↓e_loc, List.getElem?_cons_succ, List.getElem?_cons_zero, obs, q_les, le_sign, ite_ch, tr_bool, Bool.not_false, ↓x_ret, sq_ret, ↓s_nil, if_true, Bool.false_eq_true, if_false, Bool.not_true, sq_next, this, hd]
    rw [List.all_cons]
    cases hd : dg c with
    | true =>
      rw [hd] at hb
      refine ⟨o', ?_⟩
      show (exs O W fb153_0 [some (.str t), some (.str [c])] H).bind _ = _
      rw [hb]
      exact ho
    | false =>
      rw [hd] at hb
      refine ⟨some (.str [c]), ?_⟩
      show (exs O W fb153_0 [some (.str t), some (.str [c])] H).bind _ = _
      rw [hb]
      rfl
theorem forV_str {i : Nat} {b : Ss} {ρ : Loc} {s : List Nat} (h : s.length ≤ 1048576) : forX W i (exs O W b) ρ (.str s) H = floop i (exs O W b) (s.map fun c => V.str [c]) ρ H := if_pos (lim_le h)
theorem g153 (t : List Nat) (ht : t.length ≤ 1000) : (exs O W b153 [some (.str t), none] H).bind retOf = some (.bool (!(t == []) && t.all dg), H) := by
  unfold b153
  obtain ⟨o', ho⟩ := l153 (O := O) (W := W) (H := H) t t none
  cases t with
  | nil => simp (disch := omega) only [↓s_cons, ↓x_ite, ↓t_cmp, ↓e_loc, List.getElem?_cons_zero, obs, ↓e_lit, q_eqs, nil_eq, ↓x_ret, sq_ret, ↓s_nil, if_true, retOf_ret, Bool.not_true, Bool.false_and]
  | cons c r =>
    simp (disch := omega) only [↓s_cons, ↓x_ite, ↓t_cmp, ↓e_loc, List.getElem?_cons_zero, obs, ↓e_lit, q_eqs, cons_eq, ↓x_ret, sq_ret, ↓s_nil, Bool.false_eq_true, if_false, sq_next, ↓x_forE, Bool.not_false, Bool.true_and, forV_str, ho]
    cases ha : (c :: r).all dg <;> simp (disch := omega) only [Bool.false_eq_true, if_false, sq_ret, obs, retOf_ret, if_true, sq_next, ↓s_cons, ↓x_ret, ↓e_lit, ha]
theorem f153 (n : Nat) : P153 (run FTf W (n + 1)) := fun t H ht => (r153 _).trans (g153 t ht)

theorem tst_lt (t : List Nat) (ht : t.length ≤ 1000) {x : Option V} {e : Nat} (h : e < t.length) : tst O wc139_0 [some (.str t), x, some (.int (e : Nat))] H = some (true, H) := by
  unfold wc139_0
  simp (disch := omega) only [↓t_cmp, ↓e_loc, List.getElem?_cons_succ, List.getElem?_cons_zero, obs, ↓e_len, x_len, q_lt, nlt]
  rw [decide_eq_true (by omega)]
theorem tst_ge (t : List Nat) (ht : t.length ≤ 1000) {x : Option V} {e : Nat} (h : t.length ≤ e) : tst O wc139_0 [some (.str t), x, some (.int (e : Nat))] H = some (false, H) := by
  unfold wc139_0
  simp (disch := omega) only [↓t_cmp, ↓e_loc, List.getElem?_cons_succ, List.getElem?_cons_zero, obs, ↓e_len, x_len, q_lt, nlt]
  rw [decide_eq_false (by omega)]
theorem l139 (t : List Nat) (ht : t.length ≤ 1000) (a q : Nat) (ha : a ≤ 1000) (hq : ∀ H, idx2 (.str t) (.int (a : Nat)) H = some (.str [q])) : ∀ (k : Nat) (s : List Nat), s.length < k → ∀ (e fuel : Nat), t.drop e = s → k ≤ fuel →
    ∃ e' : Option V, wloop (tst O wc139_0) (exs O W wb139_1) fuel [some (.str t), some (.int (a : Nat)), some (.int (e : Nat))] H = some ((match qf q k s with | some j => .ret (.int ((e + j : Nat) : Int)) | none => .next), [some (.str t), some (.int (a : Nat)), e'], H) := by
  intro k
  induction k with
  | zero => intro s hs; omega
  | succ k ih =>
    intro s hs e fuel hd hf
    obtain ⟨fuel, rfl⟩ : ∃ f, fuel = f + 1 := ⟨fuel - 1, by omega⟩
    cases s with
    | nil => exact ⟨_, wl_end (tst_ge t ht (drop_nil hd))⟩
    | cons c r =>
      obtain ⟨hl, hr⟩ := drop_cons hd
      rw [List.length_cons] at hs
      have hi := fun H => x_idx t (H := H) e c r hd (by omega)
      have hte := tst_lt (O := O) (H := H) t ht (x := some (.int (a : Nat))) hl
      have h2d : t.drop (e + 2) = r.drop 1 := by rw [← hr, List.drop_drop]
      unfold qf
      cases h1 : (c == 92) with
      | true =>
        obtain ⟨e', he⟩ := ih (r.drop 1) (by rw [List.length_drop]; omega) (e + 2) fuel h2d (by omega)
        refine ⟨e', (wl_next (ρ2 := [some (.str t), some (.int (a : Nat)), some (.int ((e + 2 : Nat) : Int))]) (H2 := H) hte ?_).trans (he.trans ?_)⟩
        · unfold wb139_1
          simp (disch := omega) only [↓s_cons, ↓x_ite, ↓t_cmp, ↓e_idx, ↓e_loc, List.getElem?_cons_zero, obs, List.getElem?_cons_succ, ↓e_lit, q_eqs, one_eq, ↓x_augN, List.set_cons_succ, List.set_cons_zero, augV_int, p_add, nc1, sq_next, ↓s_nil, ↓x_ret, ↓e_bin, sq_ret, sq_id, if_true, Nat.reduceAdd, hi, h1, Nat.add_assoc]
        · simp only [if_true]
          cases qf q k (r.drop 1) with
          | none => rfl
          | some j => simp only [Option.map_some]; rw [show e + 2 + j = e + (j + 2) from by omega]
      | false =>
        cases h2 : (c == q) with
        | true =>
          refine ⟨some (.int (e : Nat)), wl_ret (v := .int ((e + 1 : Nat) : Int)) (ρ2 := [some (.str t), some (.int (a : Nat)), some (.int (e : Nat))]) (H2 := H) hte ?_⟩
          unfold wb139_1
          simp (disch := omega) only [↓s_cons, ↓x_ite, ↓t_cmp, ↓e_idx, ↓e_loc, List.getElem?_cons_zero, obs, List.getElem?_cons_succ, ↓e_lit, q_eqs, one_eq, ↓x_augN, List.set_cons_succ, List.set_cons_zero, augV_int, p_add, nc1, sq_next, ↓s_nil, ↓x_ret, ↓e_bin, sq_ret, if_true, Bool.false_eq_true, if_false, hi, hq, h1, h2]
        | false =>
          obtain ⟨e', he⟩ := ih r (by omega) (e + 1) fuel hr (by omega)
          refine ⟨e', (wl_next (ρ2 := [some (.str t), some (.int (a : Nat)), some (.int ((e + 1 : Nat) : Int))]) (H2 := H) hte ?_).trans (he.trans ?_)⟩
          · unfold wb139_1
            simp (disch := omega) only [↓s_cons, ↓x_ite, ↓t_cmp, ↓e_idx, ↓e_loc, List.getElem?_cons_zero, obs, List.getElem?_cons_succ, ↓e_lit, q_eqs, one_eq, ↓x_augN, List.set_cons_succ, List.set_cons_zero, augV_int, p_add, nc1, sq_next, ↓s_nil, ↓x_ret, ↓e_bin, sq_ret, Bool.false_eq_true, if_false, hi, hq, h1, h2]
          · simp only [Bool.false_eq_true, if_false]
            cases qf q k r with
            | none => rfl
            | some j => simp only [Option.map_some]; rw [show e + 1 + j = e + (j + 1) from by omega]
abbrev P139 (O : Orc) : Prop := ∀ (t : List Nat) (a : Nat) (H : Hp), t.length ≤ 1000 → a < t.length → O 139 [.str t, .int (a : Nat)] H = some (.int ((a + qk (t.drop a) : Nat) : Int), H)
theorem g139 (hW : 2000 ≤ W) (t : List Nat) (a : Nat) (ht : t.length ≤ 1000) (ha : a < t.length) : (exs O W b139 [some (.str t), some (.int (a : Nat)), Option.none] H).bind retOf = some (.int ((a + qk (t.drop a) : Nat) : Int), H) := by
  cases hd : t.drop a with
  | nil => have := drop_nil hd; omega
  | cons q r =>
    obtain ⟨hl, hr⟩ := drop_cons hd
    have hi := fun H => x_idx t (H := H) a q r hd (by omega)
    have hlen : r.length < 1001 := by rw [← hr, List.length_drop]; omega
    obtain ⟨e', he⟩ := l139 (O := O) (W := W) (H := H) t ht a q (by omega) hi 1001 r hlen (a + 1) W hr (by omega)
    unfold b139 qk
    simp (disch := omega) only [↓s_cons, ↓x_asg, ↓e_bin, ↓e_loc, List.getElem?_cons_succ, List.getElem?_cons_zero, obs, ↓e_lit, p_add, nc1, List.set_cons_succ, List.set_cons_zero, sq_next, ↓x_whl, he]
    cases qf q 1001 r with
    | none => simp (disch := omega) only [sq_next, ↓s_cons, ↓x_ret, ↓e_bin, ↓e_loc, List.getElem?_cons_succ, List.getElem?_cons_zero, obs, ↓e_lit, p_add, nc1, sq_ret, retOf_ret]
    | some j => simp (disch := omega) only [sq_ret, obs, retOf_ret, Nat.add_assoc]
theorem f139 (hW : 2000 ≤ W) (n : Nat) : P139 (run FTf W (n + 1)) := fun t a H ht ha => (r139 _ _).trans (g139 hW t a ht ha)
end
theorem negV_int {H : Hp} (i : Int) : negV (.int i) H = some (.int (-i), H) := (rfl)
theorem x_strip {H : Hp} (t : List Nat) (k n : Nat) (cs : List Nat) (h : t.length ≤ 1048576) : stripV (.str ((t.drop k).take n)) (.str cs) H = some (.str (stripL ((t.drop k).take n) cs), H) := by
  show (if ((t.drop k).take n).length ≤ lim then _ else _) = _
  rw [if_pos (by rw [lim_eq, List.length_take, List.length_drop]; omega)]
noncomputable def subR (t : List Nat) (a i : Nat) : V := if (stripL ((t.drop (a + 1)).take (i - (a + 1))) [32, 9, 10] != []) = true then .int ((i + 1 : Nat) : Int) else .int (-1)

section
variable {O : Orc} {W : Nat} {H : Hp}
theorem l146 (h139 : P139 O) (t : List Nat) (ht : t.length ≤ 1000) (a o cl : Nat) (ha : a ≤ 1000) : ∀ (k : Nat) (s : List Nat), s.length < k → ∀ (e fuel : Nat) (d : Int) (sg : Option V), t.drop e = s → k ≤ fuel →
    ∃ ρ', wloop (tst O wc146_0) (exs O W wb146_1) fuel [some (.str t), some (.int (a : Nat)), some (.str [o]), some (.str [cl]), some (.int d), some (.int (e : Nat)), sg] H =
      some ((match sbl o cl k d s with | some j => .ret (subR t a (e + j)) | none => .next), ρ', H) := by
  intro k
  induction k with
  | zero => intro s hs; omega
  | succ k ih =>
    intro s hs e fuel d sg hd hf
    obtain ⟨fuel, rfl⟩ : ∃ f, fuel = f + 1 := ⟨fuel - 1, by omega⟩
    cases s with
    | nil =>
      have := drop_nil hd
      refine ⟨_, wl_end ?_⟩
      unfold wc146_0
      simp (disch := omega) only [↓t_cmp, ↓e_loc, List.getElem?_cons_succ, List.getElem?_cons_zero, obs, ↓e_len, x_len, q_lt, nlt]
      rw [decide_eq_false (by omega)]
    | cons c r =>
      obtain ⟨hl, hr⟩ := drop_cons hd
      rw [List.length_cons] at hs
      have hi := fun H => x_idx t (H := H) e c r hd (by omega)
      have h2d : t.drop (e + 2) = r.drop 1 := by rw [← hr, List.drop_drop]
      have hte : tst O wc146_0 [some (.str t), some (.int (a : Nat)), some (.str [o]), some (.str [cl]), some (.int d), some (.int (e : Nat)), sg] H = some (true, H) := by
        unfold wc146_0
        simp (disch := omega) only [↓t_cmp, ↓e_loc, List.getElem?_cons_succ, List.getElem?_cons_zero, obs, ↓e_len, x_len, q_lt, nlt]
        rw [decide_eq_true (by omega)]
      have go : ∀ (d' : Int) (m : Nat) (s' : List Nat), 1 ≤ m → t.drop (e + m) = s' → s'.length < k → (sbl o cl (k + 1) d (c :: r) = (sbl o cl k d' s').map (· + m)) →
          (wloop (tst O wc146_0) (exs O W wb146_1) (fuel + 1) [some (.str t), some (.int (a : Nat)), some (.str [o]), some (.str [cl]), some (.int d), some (.int (e : Nat)), sg] H =
            wloop (tst O wc146_0) (exs O W wb146_1) fuel [some (.str t), some (.int (a : Nat)), some (.str [o]), some (.str [cl]), some (.int d'), some (.int ((e + m : Nat) : Int)), some (.str [c])] H) →
          ∃ ρ', wloop (tst O wc146_0) (exs O W wb146_1) (fuel + 1) [some (.str t), some (.int (a : Nat)), some (.str [o]), some (.str [cl]), some (.int d), some (.int (e : Nat)), sg] H =
            some ((match sbl o cl (k + 1) d (c :: r) with | some j => .ret (subR t a (e + j)) | none => .next), ρ', H) := by
        intro d' m s' hm hs' hk hsb hw
        obtain ⟨ρ', hρ⟩ := ih s' hk (e + m) fuel d' (some (.str [c])) hs' (by omega)
        refine ⟨ρ', hw.trans (hρ.trans ?_)⟩
        rw [hsb]
        cases sbl o cl k d' s' with
        | none => rfl
        | some j => simp only [Option.map_some]; rw [show e + m + j = e + (j + m) from by omega]
      cases h1 : (c == 92) with
      | true =>
        refine go d 2 (r.drop 1) (by omega) h2d (by rw [List.length_drop]; omega) (by rw [sbl.eq_3]; simp only [h1, if_true]) (wl_cont hte ?_)
        unfold wb146_1
        simp (disch := omega) only [↓s_cons, ↓x_asg, ↓e_idx, ↓e_loc, List.getElem?_cons_zero, obs, List.getElem?_cons_succ, List.set_cons_succ, List.set_cons_zero, sq_next, ↓x_ite, ↓t_cmp, ↓e_lit, q_eqs, one_eq, ↓x_augN, augV_int, p_add, nc2, ↓x_cont, sq_cont, ↓s_nil, if_true, hi, h1]
      | false =>
        cases h2 : (c == 39 || c == 34) with
        | true =>
          have hq := h139 t e H ht hl
          have hqk : 1 ≤ qk (c :: r) := by
            unfold qk
            dsimp only
            split <;> omega
          refine go d (qk (c :: r)) ((c :: r).drop (qk (c :: r))) hqk (by rw [← hd, List.drop_drop]) (by rw [List.length_drop, List.length_cons]; omega) (by rw [sbl.eq_3]; simp only [h1, h2, Bool.false_eq_true, if_false, if_true]) (wl_cont hte ?_)
          rw [hd] at hq
          unfold wb146_1
          simp (disch := omega) only [↓s_cons, ↓x_asg, ↓e_idx, ↓e_loc, List.getElem?_cons_zero, obs, List.getElem?_cons_succ, List.set_cons_succ, List.set_cons_zero, sq_next, ↓x_ite, ↓t_cmp, ↓e_lit, q_eqs, one_eq, ↓x_augN, augV_int, p_add, nc2, ↓x_cont, sq_cont, ↓s_nil, Bool.false_eq_true, if_false, ↓t_or, ite_tor, ↓e_call, ↓es_cons, ↓es_nil, if_true, hi, h1, h2, hq]
        | false =>
          have pre : ∀ r', exs O W (.cons (hd1 wb146_1) (.cons (hd1 (tl1 wb146_1)) (.cons (hd1 (tl1 (tl1 wb146_1))) r'))) [some (.str t), some (.int (a : Nat)), some (.str [o]), some (.str [cl]), some (.int d), some (.int (e : Nat)), sg] H =
              exs O W r' [some (.str t), some (.int (a : Nat)), some (.str [o]), some (.str [cl]), some (.int d), some (.int (e : Nat)), some (.str [c])] H := fun r' => by
            dsimp only [wb146_1, hd1, tl1]
            simp (disch := omega) only [↓s_cons, ↓x_asg, ↓e_idx, ↓e_loc, List.getElem?_cons_zero, obs, List.getElem?_cons_succ, List.set_cons_succ, List.set_cons_zero, sq_next, ↓x_ite, ↓t_cmp, ↓e_lit, q_eqs, one_eq, ↓x_augN, augV_int, p_add, nc2, ↓x_cont, sq_cont, ↓s_nil, Bool.false_eq_true, if_false, ↓t_or, ite_tor, ↓e_call, ↓es_cons, ↓es_nil, hi, h1, h2]
          have ew : wb146_1 = .cons (hd1 wb146_1) (.cons (hd1 (tl1 wb146_1)) (.cons (hd1 (tl1 (tl1 wb146_1))) (tl1 (tl1 (tl1 wb146_1))))) := rfl
          have pre := pre (tl1 (tl1 (tl1 wb146_1)))
          rw [← ew] at pre
          cases h3 : (c == o) with
          | true =>
            refine go (d + 1) 1 r (by omega) hr (by omega) (by rw [sbl.eq_3]; simp only [h1, h2, h3, Bool.false_eq_true, if_false, if_true]) (wl_next hte (pre.trans ?_))
            dsimp only [wb146_1, hd1, tl1]
            simp (disch := omega) only [↓s_cons, ↓x_ite, ↓t_cmp, ↓e_loc, List.getElem?_cons_succ, List.getElem?_cons_zero, obs, q_eqs, one_eq, ↓x_augN, ↓e_lit, List.set_cons_succ, List.set_cons_zero, augV_int, p_add, sq_next, ↓s_nil, p_sub, q_eq, ↓x_ret, ↓e_ite, ↓e_cmp, ↓e_strip, ↓e_slcs, ↓e_bin, nc1, x_slc, ↓e_neg, sq_id, if_true, h3]
          | false =>
            cases h4 : (c == cl) with
            | true =>
              cases h5 : (d - 1 == 0) with
              | true =>
                refine ⟨[some (.str t), some (.int (a : Nat)), some (.str [o]), some (.str [cl]), some (.int (d - 1)), some (.int (e : Nat)), some (.str [c])], ?_⟩
                rw [sbl.eq_3]
                simp only [h1, h2, h3, h4, h5, Bool.false_eq_true, if_false, if_true, Nat.add_zero]
                refine wl_ret (v := subR t a e) hte (pre.trans ?_)
                unfold subR
                dsimp only [wb146_1, hd1, tl1]
                cases h6 : (stripL ((t.drop (a + 1)).take (e - (a + 1))) [32, 9, 10] != []) <;> simp (disch := omega) only [↓s_cons, ↓x_ite, ↓t_cmp, ↓e_loc, List.getElem?_cons_succ, List.getElem?_cons_zero, obs, q_eqs, one_eq, ↓x_augN, ↓e_lit, List.set_cons_succ, List.set_cons_zero, augV_int, p_add, sq_next, ↓s_nil, p_sub, q_eq, ↓x_ret, ↓e_ite, ↓e_cmp, ↓e_strip, ↓e_slcs, ↓e_bin, nc1, x_slc, q_nes, ↓e_neg, tr_bool, Bool.false_eq_true, if_false, sq_ret, if_true, h3, h4, h5, x_strip, h6, negV_int]
              | false =>
                refine go (d - 1) 1 r (by omega) hr (by omega) (by rw [sbl.eq_3]; simp only [h1, h2, h3, h4, h5, Bool.false_eq_true, if_false, if_true]) (wl_next hte (pre.trans ?_))
                dsimp only [wb146_1, hd1, tl1]
                simp (disch := omega) only [↓s_cons, ↓x_ite, ↓t_cmp, ↓e_loc, List.getElem?_cons_succ, List.getElem?_cons_zero, obs, q_eqs, one_eq, ↓x_augN, ↓e_lit, List.set_cons_succ, List.set_cons_zero, augV_int, p_add, sq_next, ↓s_nil, p_sub, q_eq, ↓x_ret, ↓e_ite, ↓e_cmp, ↓e_strip, ↓e_slcs, ↓e_bin, nc1, x_slc, ↓e_neg, sq_id, Bool.false_eq_true, if_false, if_true, h3, h4, h5]
            | false =>
              refine go d 1 r (by omega) hr (by omega) (by rw [sbl.eq_3]; simp only [h1, h2, h3, h4, Bool.false_eq_true, if_false, if_true]) (wl_next hte (pre.trans ?_))
              dsimp only [wb146_1, hd1, tl1]
              simp (disch := omega) only [↓s_cons, ↓x_ite, ↓t_cmp, ↓e_loc, List.getElem?_cons_succ, List.getElem?_cons_zero, obs, q_eqs, one_eq, ↓x_augN, ↓e_lit, List.set_cons_succ, List.set_cons_zero, augV_int, p_add, sq_next, ↓s_nil, p_sub, q_eq, ↓x_ret, ↓e_ite, ↓e_cmp, ↓e_strip, ↓e_slcs, ↓e_bin, nc1, x_slc, ↓e_neg, sq_id, Bool.false_eq_true, if_false, h3, h4]
noncomputable def sbV (a : Nat) : Option Nat → V
  | some k => .int ((a + k : Nat) : Int)
  | none => .int (-1)
abbrev P146 (O : Orc) : Prop := ∀ (t : List Nat) (a : Nat) (H : Hp), t.length ≤ 1000 → a < t.length → O 146 [.str t, .int (a : Nat)] H = some (sbV a (sb (t.drop a)), H)
theorem g146 (hW : 2000 ≤ W) (h62 : P62 O) (h139 : P139 O) (t : List Nat) (a : Nat) (ht : t.length ≤ 1000) (ha : a < t.length) :
    (exs O W b146 [some (.str t), some (.int (a : Nat)), Option.none, Option.none, Option.none, Option.none, Option.none] H).bind retOf = some (sbV a (sb (t.drop a)), H) := by
  cases hd : t.drop a with
  | nil => have := drop_nil hd; omega
  | cons o r =>
    obtain ⟨hl, hr⟩ := drop_cons hd
    have hi := fun H => x_idx t (H := H) a o r hd (by omega)
    have hlen : (o :: r).length < 1001 := by rw [← hd, List.length_drop]; omega
    obtain ⟨ρ', he⟩ := l146 (O := O) (W := W) (H := H) h139 t ht a o (clo o) (by omega) 1001 (o :: r) hlen a W 0 none hd (by omega)
    unfold b146 sb
    simp (disch := omega) only [↓s_cons, ↓x_asg, ↓e_idx, ↓e_loc, List.getElem?_cons_zero, obs, List.getElem?_cons_succ, List.set_cons_succ, List.set_cons_zero, sq_next, ↓e_call, ↓es_cons, ↓es_nil, ↓e_lit, ↓x_whl, hi, h62, he]
    cases sbl o (clo o) 1001 0 (o :: r) with
    | none => simp (disch := omega) only [sq_next, ↓s_cons, ↓x_ret, ↓e_neg, ↓e_lit, obs, sq_ret, retOf_ret, negV_int]; rfl
    | some k =>
      simp (disch := omega) only [Nat.add_sub_add_left, sq_ret, obs, retOf_ret, subR, hr]
      cases h6 : stripL (r.take (k - 1)) [32, 9, 10] with
      | nil => simp (disch := omega) only [nil_ne, Bool.false_eq_true, if_false, nil_eq, if_true]; rfl
      | cons x y => simp (disch := omega) only [cons_ne, if_true, cons_eq, Bool.false_eq_true, if_false]; rfl
theorem f146 (hW : 2000 ≤ W) (n : Nat) : P146 (run FTf W (n + 2)) := fun t a H ht ha => (r146 _ _).trans (g146 hW (f62 n) (f139 hW n) t a ht ha)
end
noncomputable def dO (t : List Nat) : Bool := !(t == []) && t.all dg
noncomputable def pp (inner : List Nat) (op : Nat) : Bool :=
  if op == 123 then dO (ofS (Txt.partition (toS inner) (toS [44])).1) && (ofS (Txt.partition (toS inner) (toS [44])).2.2 == [] || dO (ofS (Txt.partition (toS inner) (toS [44])).2.2))
  else
    let i1 := if inner.take 1 == [45] then inner.drop 1 else inner
    if i1.take 1 == [36] then false else !dO i1 || decide (2 < i1.length)
noncomputable def os (s : List Nat) (p : Bool) : Nat :=
  if s.take 1 != [91] && s.take 1 != [123] then 0 else match sb s with
    | none => 0
    | some k => if p && pp ((s.drop 1).take (k - 1 - 1)) (s.headD 0) then 0 else k
noncomputable def arw (s : List Nat) : Nat := if s.take 2 == [45, 62] then 2 else 0
noncomputable def asl : Nat → List Nat → Bool → Nat
  | 0, _, _ => 0
  | f + 1, s, p =>
    if os (s.drop (arw s)) (p && arw s == 0) == 0 then 0 else arw s + os (s.drop (arw s)) (p && arw s == 0) + asl f (s.drop (arw s + os (s.drop (arw s)) (p && arw s == 0))) p
noncomputable def ld : List Nat → Nat
  | [] => 0
  | c :: r => if c == 36 then ld r + 1 else 0
noncomputable def bs (s : List Nat) : Nat :=
  let d := ld s
  let u := s.drop d
  if u.take 1 == [123] then (match sb u with | none => 0 | some k => d + k) else (let k := vn u; if k == 0 then 0 else d + k)
noncomputable def bn (s : List Nat) (k : Nat) : Bool :=
  let inner := stripL ((s.drop 1).take (k - 1 - 1)) [32, 9, 10]
  if s.take 1 != [123] || inner == [] then false else dO inner || vn inner == inner.length
noncomputable def dl : List Nat → Nat
  | [] => 0
  | c :: r => if dg c then dl r + 1 else 0
noncomputable def sc (s : List Nat) (p : Bool) : Nat :=
  let r := s.drop 1
  match r with
  | [] => 0
  | g :: r' =>
    if p && [41, 124].contains g then 0
    else if g == 35 then (let k := bs r'; if k == 0 then 0 else 2 + k)
    else if dg g then (let m := if g != 48 then dl r' else 0; 2 + m + asl 1001 (r'.drop m) p)
    else
      let k := bs r
      if decide (0 < k) then (if bn r k && (r.drop k).take 2 != [45, 62] then 1 + k else 1 + k + asl 1001 (r.drop k) p)
      else if [38, 44, 59, 33, 64, 47, 34].contains g || ([96, 39, 43, 124, 46].contains g && (!p && r.take 2 != [43, 91])) then 2 + asl 1001 r' p else 0
noncomputable def ar (s : List Nat) (p : Bool) : Nat :=
  let r := s.drop 1
  let k := bs r
  if k == 0 then 0 else if bn r k then 1 + k else 1 + k + os (r.drop k) p

/-! sizes -/
theorem qf_le (q : Nat) : ∀ (f : Nat) (s : List Nat) (j : Nat), qf q f s = some j → j ≤ s.length
  | 0, _, _, h => by simp [qf] at h
  | _ + 1, [], _, h => by simp [qf] at h
  | f + 1, c :: r, j, h => by
    unfold qf at h
    split at h
    · rw [Option.map_eq_some_iff] at h
      obtain ⟨i, hi, rfl⟩ := h
      have := qf_le q f _ i hi
      rw [List.length_drop] at this
      rw [List.length_cons]
      cases r with
      | nil => cases f <;> simp [qf] at hi
      | cons d r => simp only [List.length_cons] at this ⊢; omega
    · split at h
      · cases h; simp
      · rw [Option.map_eq_some_iff] at h
        obtain ⟨i, hi, rfl⟩ := h
        have := qf_le q f _ i hi
        rw [List.length_cons]
        omega
theorem qk_le (c : Nat) (r : List Nat) : qk (c :: r) ≤ (c :: r).length := by
  unfold qk
  dsimp only
  split
  · rename_i k h
    have := qf_le _ _ _ _ h
    rw [List.length_cons]
    omega
  · rw [List.length_cons]; omega
theorem sbl_lt (o cl : Nat) : ∀ (f : Nat) (d : Int) (s : List Nat) (j : Nat), sbl o cl f d s = some j → j < s.length
  | 0, _, _, _, h => by simp [sbl] at h
  | _ + 1, _, [], _, h => by simp [sbl] at h
  | f + 1, d, c :: r, j, h => by
    rw [sbl.eq_3] at h
    have e1 : ∀ (d' : Int) (j' : Nat), (sbl o cl f d' r).map (· + 1) = some j' → j' < (c :: r).length := fun d' j' h => by
      rw [Option.map_eq_some_iff] at h
      obtain ⟨i, hi, rfl⟩ := h
      have := sbl_lt o cl f d' r i hi
      rw [List.length_cons]; omega
    split at h
    · rw [Option.map_eq_some_iff] at h
      obtain ⟨i, hi, rfl⟩ := h
      have := sbl_lt o cl f d _ i hi
      rw [List.length_drop] at this
      rw [List.length_cons]
      omega
    · split at h
      · rw [Option.map_eq_some_iff] at h
        obtain ⟨i, hi, rfl⟩ := h
        have := sbl_lt o cl f d _ i hi
        rw [List.length_drop] at this
        omega
      · split at h
        · exact e1 _ _ h
        · split at h
          · split at h
            · cases h; simp
            · exact e1 _ _ h
          · exact e1 _ _ h
theorem sb_le {s : List Nat} {k : Nat} (h : sb s = some k) : 1 ≤ k ∧ k ≤ s.length := by
  cases s with
  | nil => cases h
  | cons o r =>
    simp only [sb] at h
    split at h
    · cases h
    · rename_i j hj
      have := sbl_lt _ _ _ _ _ _ hj
      split at h
      · cases h
      · cases h; omega
theorem os_le (s : List Nat) (p : Bool) : os s p ≤ s.length := by
  unfold os
  split
  · omega
  · split
    · omega
    · rename_i k h
      have := sb_le h
      split <;> omega
theorem asl_le : ∀ (f : Nat) (s : List Nat) (p : Bool), asl f s p ≤ s.length
  | 0, _, _ => Nat.zero_le _
  | f + 1, s, p => by
    unfold asl
    have h1 := os_le (s.drop (arw s)) (p && arw s == 0)
    have h2 := asl_le f (s.drop (arw s + os (s.drop (arw s)) (p && arw s == 0))) p
    rw [List.length_drop] at h1 h2
    split
    · omega
    · rename_i hk
      simp only [beq_iff_eq] at hk
      omega
theorem ld_le : ∀ (s : List Nat), ld s ≤ s.length
  | [] => Nat.le_refl _
  | c :: r => by
    unfold ld
    have := ld_le r
    rw [List.length_cons]
    split <;> omega
theorem dl_le : ∀ (s : List Nat), dl s ≤ s.length
  | [] => Nat.le_refl _
  | c :: r => by
    unfold dl
    have := dl_le r
    rw [List.length_cons]
    split <;> omega
theorem vl_le : ∀ (k : Nat) (s : List Nat), s.length ≤ k → vl s ≤ s.length
  | _, [], _ => by simp [vl]
  | 0, _ :: _, h => by simp at h
  | k + 1, c :: r, h => by
    rw [List.length_cons] at h ⊢
    cases hp : pw c with
    | true =>
      rw [vl_pw hp]
      have := vl_le k r (by omega)
      omega
    | false =>
      cases hq : ((c :: r).take 2 == [58, 58] && nst (r.drop 1)) with
      | true =>
        rw [vl_col hp hq]
        have := vl_le k (r.drop 1) (by rw [List.length_drop]; omega)
        rw [List.length_drop] at this
        cases r with
        | nil => simp at hq
        | cons d r => simp only [List.length_cons] at this ⊢; omega
      | false => rw [vl_no hp hq]; omega
theorem vn_le (s : List Nat) : vn s ≤ s.length := by
  unfold vn
  dsimp only
  generalize (if (s.take 2 == [58, 58] && nst (s.drop 2)) = true then 2 else 0) = k
  have := vl_le _ (s.drop k) (Nat.le_refl _)
  rw [List.length_drop] at this
  split
  · rename_i h
    cases hs : s.drop k with
    | nil => rw [hs] at h; simp [nst] at h
    | cons c r =>
      have h2 := congrArg List.length hs
      rw [List.length_drop, List.length_cons] at h2
      rw [hs] at this
      omega
  · omega
theorem bs_le (s : List Nat) : bs s ≤ s.length := by
  unfold bs
  dsimp only
  have hl := ld_le s
  split
  · split
    · omega
    · rename_i k h
      have := (sb_le h).2
      rw [List.length_drop] at this
      omega
  · have := vn_le (s.drop (ld s))
    rw [List.length_drop] at this
    split <;> omega
theorem ofS_len (x : Str) : (ofS x).length = x.length := by cases x; simp [ofS, Str.length]
theorem toS_len' (s : List Nat) : (toS s).length = s.length := by simp [toS, Str.length]
theorem stripL_le (s cs : List Nat) : (stripL s cs).length ≤ s.length := by
  unfold stripL
  rw [ofS_len]
  have := PyProof.Rows.len_stripChars (toS s) (toS cs)
  rw [toS_len'] at this
  exact this
theorem x_part {H : Hp} (s : List Nat) (c : Nat) (h : s.length ≤ 1048576) : partV (.str s) (.str [c]) H = some (.tup [.str (ofS (Txt.partition (toS s) (toS [c])).1), .str (ofS (Txt.partition (toS s) (toS [c])).2.1), .str (ofS (Txt.partition (toS s) (toS [c])).2.2)], H) := if_pos (lim_le h)
theorem x_slt1 {H : Hp} (s : List Nat) (h : s.length ≤ 1048576) : sltV (.str s) (.int 1) H = some (.str (s.take 1), H) := by
  show (if 0 ≤ (1 : Int) ∧ (1 : Int) ≤ (lim : Int) ∧ s.length ≤ lim then some (V.str (s.take (1 : Int).toNat), H) else Option.none) = _
  rw [if_pos (by rw [lim_eq]; omega)]
  rfl
theorem x_slf1 {H : Hp} (s : List Nat) (h : s.length ≤ 1048576) : slfV (.str s) (.int 1) H = some (.str (s.drop 1), H) := by
  show (if 0 ≤ (1 : Int) ∧ (1 : Int) ≤ (lim : Int) ∧ s.length ≤ lim then some (V.str (s.drop (1 : Int).toNat), H) else Option.none) = _
  rw [if_pos (by rw [lim_eq]; omega)]
  rfl
theorem ngt2 (a : Nat) : decide ((2 : Int) < (a : Int)) = decide (2 < a) := by
  by_cases h : 2 < a
  · rw [decide_eq_true h, decide_eq_true (by omega)]
  · rw [decide_eq_false h, decide_eq_false (by omega)]
theorem nlt0 (a : Nat) : decide ((a : Int) < 0) = false := decide_eq_false (by omega)
theorem m1lt : decide ((-1 : Int) < 0) = true := rfl
theorem ncs2 (a b : Nat) : ((a + (b + 1) : Nat) : Int) - 1 = ((a + b : Nat) : Int) := by omega

section
variable {O : Orc} {W : Nat} {H : Hp}
abbrev P160 (O : Orc) : Prop := ∀ (t : List Nat) (op : Nat) (H : Hp), t.length ≤ 1000 → O 160 [.str t, .str [op]] H = some (.bool (pp t op), H)
theorem g160 (h153 : P153 O) (t : List Nat) (op : Nat) (ht : t.length ≤ 1000) : (exs O W b160 [some (.str t), some (.str [op]), Option.none, Option.none, Option.none] H).bind retOf = some (.bool (pp t op), H) := by
  have b1 := PyProof.Rows.fact_partition (toS t) (toS [44])
  rw [toS_len'] at b1
  have h1 := fun H => h153 (ofS (Txt.partition (toS t) (toS [44])).1) H (by rw [ofS_len]; omega)
  have h2 := fun H => h153 (ofS (Txt.partition (toS t) (toS [44])).2.2) H (by rw [ofS_len]; omega)
  have hd : (t.drop 1).length ≤ 1000 := by rw [List.length_drop]; omega
  have h3 := fun H => h153 t H ht
  have h4 := fun H => h153 (t.drop 1) H hd
  unfold b160 pp dO
  cases ho : (op == 123) with
  | true =>
    simp (disch := omega) only [↓s_cons, ↓x_ite, ↓t_cmp, ↓e_loc, List.getElem?_cons_succ, List.getElem?_cons_zero, obs, ↓e_lit, q_eqs, one_eq, ↓x_asgT, ↓e_part, asgV_tup, setAll_cons, List.set_cons_succ, List.set_cons_zero, setAll_nil, sq_next, ↓x_ret, ↓e_and, ↓e_call, ↓es_cons, ↓es_nil, ↓e_or, ↓e_cmp, tr_bool, ite_or, ite_and, sq_ret, ↓s_nil, if_true, retOf_ret, ho, x_part, h1, h2]
  | false =>
    cases hm : (t.take 1 == [45]) with
    | true => cases hn : ((t.drop 1).take 1 == [36]) <;> simp (disch := omega) only [↓s_cons, ↓x_ite, ↓t_cmp, ↓e_loc, List.getElem?_cons_succ, List.getElem?_cons_zero, obs, ↓e_lit, q_eqs, one_eq, ↓x_asgT, ↓e_part, ↓s_nil, Bool.false_eq_true, if_false, sq_next, ↓e_slct, ↓x_asg, ↓e_slcf, List.set_cons_zero, if_true, ↓x_ret, sq_ret, ↓e_or, ↓e_not, ↓e_call, ↓es_cons, ↓es_nil, tr_bool, ↓e_cmp, ↓e_len, x_len, q_gt, ite_or, retOf_ret, ho, x_slt1, x_slf1, hm, hn, h4, ngt2]
    | false => cases hn : (t.take 1 == [36]) <;> simp (disch := omega) only [↓s_cons, ↓x_ite, ↓t_cmp, ↓e_loc, List.getElem?_cons_succ, List.getElem?_cons_zero, obs, ↓e_lit, q_eqs, one_eq, ↓x_asgT, ↓e_part, ↓s_nil, Bool.false_eq_true, if_false, sq_next, ↓e_slct, ↓x_asg, ↓e_slcf, List.set_cons_zero, ↓x_ret, sq_ret, ↓e_or, ↓e_not, ↓e_call, ↓es_cons, ↓es_nil, tr_bool, ↓e_cmp, ↓e_len, x_len, q_gt, ite_or, retOf_ret, if_true, ho, x_slt1, x_slf1, hm, hn, h3, ngt2]
theorem f160 (n : Nat) : P160 (run FTf W (n + 2)) := fun t op H ht => (r160 _ _).trans (g160 (f153 n) t op ht)

abbrev P167 (O : Orc) : Prop := ∀ (t : List Nat) (a : Nat) (p : Bool) (H : Hp), t.length ≤ 1000 → a ≤ 2000 → O 167 [.str t, .int (a : Nat), .bool p] H = some (.int ((a + os (t.drop a) p : Nat) : Int), H)
theorem g167 (h146 : P146 O) (h160 : P160 O) (t : List Nat) (a : Nat) (p : Bool) (ht : t.length ≤ 1000) (ha : a ≤ 2000) : (exs O W b167 [some (.str t), some (.int (a : Nat)), some (.bool p), Option.none] H).bind retOf = some (.int ((a + os (t.drop a) p : Nat) : Int), H) := by
  unfold b167 os
  cases hd : t.drop a with
  | nil => simp (disch := omega) only [↓s_cons, ↓x_ite, ↓t_and, ↓t_cmp, ↓e_slcs, ↓e_loc, List.getElem?_cons_zero, obs, List.getElem?_cons_succ, ↓e_bin, ↓e_lit, p_add, nc1, x_slc, Nat.add_sub_cancel_left, q_nes, nil_nec, ite_tand, Bool.and_true, ↓x_ret, sq_ret, ↓s_nil, if_true, retOf_ret, Nat.add_zero, hd, List.take_nil]
  | cons c r =>
    obtain ⟨hl, hr⟩ := drop_cons hd
    have hi := fun H => x_idx t (H := H) a c r hd (by omega)
    have h46 := fun H => h146 t a H ht hl
    rw [hd] at h46
    have ht1 : (c :: r).take 1 = [c] := by simp
    cases hc : (c != 91 && c != 123) with
    | true => simp (disch := omega) only [↓s_cons, ↓x_ite, ↓t_and, ↓t_cmp, ↓e_slcs, ↓e_loc, List.getElem?_cons_zero, obs, List.getElem?_cons_succ, ↓e_bin, ↓e_lit, p_add, nc1, x_slc, Nat.add_sub_cancel_left, q_nes, one_ne, ite_tand, ↓x_ret, sq_ret, ↓s_nil, if_true, retOf_ret, Nat.add_zero, hd, ht1, hc]
    | false =>
      cases hs : sb (c :: r) with
      | none => simp (disch := omega) only [↓s_cons, ↓x_ite, ↓t_and, ↓t_cmp, ↓e_slcs, ↓e_loc, List.getElem?_cons_zero, obs, List.getElem?_cons_succ, ↓e_bin, ↓e_lit, p_add, nc1, x_slc, Nat.add_sub_cancel_left, q_nes, one_ne, ite_tand, ↓x_ret, sq_ret, ↓s_nil, Bool.false_eq_true, if_false, sq_next, ↓x_asg, ↓e_call, ↓es_cons, ↓es_nil, List.set_cons_succ, List.set_cons_zero, ↓t_or, q_lt, ↓t_loc, tr_bool, ↓t_call, p_sub, ↓e_idx, if_true, retOf_ret, Nat.add_zero, hd, ht1, hc, hs, sbV, m1lt, h46]
      | some k =>
        obtain ⟨k1, k2⟩ := sb_le hs
        obtain ⟨k, rfl⟩ : ∃ k', k = k' + 1 := ⟨k - 1, by omega⟩
        have hlen : (r.take (k - 1)).length ≤ 1000 := by
          rw [List.length_take, ← hr, List.length_drop]; omega
        have hP := fun H => h160 (r.take (k - 1)) c H hlen
        have hbk : a + k ≤ 3000 := by
          have := congrArg List.length hd
          rw [List.length_drop] at this
          omega
        cases hq : (p && pp (r.take (k - 1)) c) <;> simp (disch := omega) only [↓s_cons, ↓x_ite, ↓t_and, ↓t_cmp, ↓e_slcs, ↓e_loc, List.getElem?_cons_zero, obs, List.getElem?_cons_succ, ↓e_bin, ↓e_lit, p_add, nc1, x_slc, Nat.add_sub_cancel_left, q_nes, one_ne, ite_tand, ↓x_ret, sq_ret, ↓s_nil, Bool.false_eq_true, if_false, sq_next, ↓x_asg, ↓e_call, ↓es_cons, ↓es_nil, List.set_cons_succ, List.set_cons_zero, ↓t_or, q_lt, ↓t_loc, tr_bool, ↓t_call, p_sub, Nat.add_sub_add_left, ↓e_idx, Bool.and_true, retOf_ret, ite_tor, Bool.or_true, if_true, Nat.add_zero, hd, ht1, hc, hs, sbV, nlt0, h46, ncs2, hi, hr, hP, hq, Nat.add_sub_cancel, List.drop_succ_cons, List.drop_zero, List.headD_cons]
theorem f167 (hW : 2000 ≤ W) (n : Nat) : P167 (run FTf W (n + 3)) := fun t a p H ht ha => (r167 _ _ _).trans (g167 (f146 hW n) (f160 n) t a p ht ha)
end
section
variable {O : Orc} {W : Nat} {H : Hp}
theorem eq_add (a k : Nat) : (a + k == a) = (k == 0) := by
  by_cases h : k = 0
  · simp [h]
  · rw [beq_eq_false_iff_ne.mpr h, beq_eq_false_iff_ne.mpr (by omega)]
theorem l174 (h167 : P167 O) (t : List Nat) (ht : t.length ≤ 1000) (a : Option V) (p : Bool) : ∀ (k : Nat) (s : List Nat), s.length < k → ∀ (e fuel : Nat) (x y : Option V), t.drop e = s → e ≤ 1500 → k ≤ fuel →
    ∃ ρ', wloop (tst O wc174_0) (exs O W wb174_1) fuel [some (.str t), a, some (.bool p), some (.int (e : Nat)), x, y] H = some (.ret (.int ((e + asl k s p : Nat) : Int)), ρ', H) := by
  intro k
  induction k with
  | zero => intro s hs; omega
  | succ k ih =>
    intro s hs e fuel x y hd he hf
    obtain ⟨fuel, rfl⟩ : ∃ f, fuel = f + 1 := ⟨fuel - 1, by omega⟩
    have hte : tst O wc174_0 [some (.str t), a, some (.bool p), some (.int (e : Nat)), x, y] H = some (true, H) := rfl
    have b2 : arw s ≤ 2 := by unfold arw; split <;> omega
    have hdb : t.drop (e + arw s) = s.drop (arw s) := by rw [← hd, List.drop_drop]
    have hc := fun H => h167 t (e + arw s) (p && arw s == 0) H ht (by omega)
    rw [hdb] at hc
    have hb : exs O W wb174_1 [some (.str t), a, some (.bool p), some (.int (e : Nat)), x, y] H =
        if (os (s.drop (arw s)) (p && arw s == 0) == 0) = true then some (.ret (.int (e : Nat)), [some (.str t), a, some (.bool p), some (.int (e : Nat)), some (.int ((e + arw s : Nat) : Int)), some (.int ((e + arw s + os (s.drop (arw s)) (p && arw s == 0) : Nat) : Int))], H)
        else some (.next, [some (.str t), a, some (.bool p), some (.int ((e + arw s + os (s.drop (arw s)) (p && arw s == 0) : Nat) : Int)), some (.int ((e + arw s : Nat) : Int)), some (.int ((e + arw s + os (s.drop (arw s)) (p && arw s == 0) : Nat) : Int))], H) := by
      unfold wb174_1
      unfold arw at hc ⊢
      cases hm : (s.take 2 == [45, 62]) with
      | true =>
        simp only [hm, if_true] at hc ⊢
        rw [show ((2 : Nat) == 0) = false from rfl, Bool.and_false] at hc ⊢
        cases hz : (os (s.drop 2) false == 0) <;> simp (disch := omega) only [↓s_cons, ↓x_asg, ↓e_loc, List.getElem?_cons_succ, List.getElem?_cons_zero, obs, List.set_cons_succ, List.set_cons_zero, sq_next, ↓x_ite, ↓t_cmp, ↓e_slcs, ↓e_bin, ↓e_lit, p_add, nc2, x_slc, Nat.add_sub_cancel_left, q_eqs, ↓s_nil, if_true, ↓e_call, ↓es_cons, ↓e_and, ↓e_cmp, q_eq, neq, tr_bool, ite_and, Bool.and_false, ↓es_nil, ↓x_ret, sq_ret, Bool.false_eq_true, if_false, hd, hm, hc, eq_add, hz, show ((2 : Nat) == 0) = false from rfl]
      | false =>
        simp only [hm, Bool.false_eq_true, if_false, Nat.add_zero] at hc ⊢
        rw [show ((0 : Nat) == 0) = true from rfl, Bool.and_true] at hc ⊢
        cases hz : (os (s.drop 0) p == 0) <;> simp (disch := omega) only [↓s_cons, ↓x_asg, ↓e_loc, List.getElem?_cons_succ, List.getElem?_cons_zero, obs, List.set_cons_succ, List.set_cons_zero, sq_next, ↓x_ite, ↓t_cmp, ↓e_slcs, ↓e_bin, ↓e_lit, p_add, nc2, x_slc, Nat.add_sub_cancel_left, q_eqs, ↓s_nil, Bool.false_eq_true, if_false, ↓e_call, ↓es_cons, ↓e_and, ↓e_cmp, q_eq, tr_bool, ite_and, Bool.and_true, ↓es_nil, neq, ↓x_ret, sq_ret, if_true, hd, hm, hc, eq_add, hz, beq_self_eq_true]
    unfold asl
    cases hz : (os (s.drop (arw s)) (p && arw s == 0) == 0) with
    | true =>
      rw [hz, if_pos rfl] at hb
      exact ⟨_, by rw [if_pos rfl]; exact wl_ret hte hb⟩
    | false =>
      rw [hz, if_neg (by decide)] at hb
      have hle := os_le (s.drop (arw s)) (p && arw s == 0)
      rw [List.length_drop] at hle
      simp only [beq_eq_false_iff_ne, ne_eq] at hz
      have hsl : s.length ≤ 1000 := by rw [← hd, List.length_drop]; omega
      have hes : e + s.length ≤ 1000 := by
        have := congrArg List.length hd
        rw [List.length_drop] at this
        omega
      obtain ⟨ρ', hρ⟩ := ih (s.drop (arw s + os (s.drop (arw s)) (p && arw s == 0))) (by rw [List.length_drop]; omega) (e + arw s + os (s.drop (arw s)) (p && arw s == 0)) fuel _ _ (by have := congrArg (List.drop (arw s + os (s.drop (arw s)) (p && arw s == 0))) hd; rw [List.drop_drop] at this; rw [Nat.add_assoc]; exact this) (by omega) (by omega)
      refine ⟨ρ', (wl_next hte hb).trans (hρ.trans ?_)⟩
      rw [if_neg (by decide)]
      simp only [Nat.add_assoc]
abbrev P174 (O : Orc) : Prop := ∀ (t : List Nat) (a : Nat) (p : Bool) (H : Hp), t.length ≤ 1000 → a ≤ 1500 → O 174 [.str t, .int (a : Nat), .bool p] H = some (.int ((a + asl 1001 (t.drop a) p : Nat) : Int), H)
theorem g174 (hW : 2000 ≤ W) (h167 : P167 O) (t : List Nat) (a : Nat) (p : Bool) (ht : t.length ≤ 1000) (ha : a ≤ 1500) : (exs O W b174 [some (.str t), some (.int (a : Nat)), some (.bool p), Option.none, Option.none, Option.none] H).bind retOf = some (.int ((a + asl 1001 (t.drop a) p : Nat) : Int), H) := by
  obtain ⟨ρ', h⟩ := l174 (O := O) (W := W) (H := H) h167 t ht (some (.int (a : Nat))) p 1001 (t.drop a) (by rw [List.length_drop]; omega) a W none none rfl ha (by omega)
  unfold b174
  simp (disch := omega) only [↓s_cons, ↓x_asg, ↓e_loc, List.getElem?_cons_succ, List.getElem?_cons_zero, obs, List.set_cons_succ, List.set_cons_zero, sq_next, ↓x_whl, sq_ret, retOf_ret, h]
theorem f174 (hW : 2000 ≤ W) (n : Nat) : P174 (run FTf W (n + 4)) := fun t a p H ht ha => (r174 _ _ _).trans (g174 hW (f167 hW n) t a p ht ha)

theorem l181 (t : List Nat) (ht : t.length ≤ 1000) (a : Option V) (y : Option V) : ∀ (k : Nat) (s : List Nat), s.length < k → ∀ (e fuel : Nat), t.drop e = s → e ≤ 2500 → k ≤ fuel →
    wloop (tst O wc181_0) (exs O W wb181_1) fuel [some (.str t), a, some (.int (e : Nat)), y] H = some (.next, [some (.str t), a, some (.int ((e + ld s : Nat) : Int)), y], H) := by
  intro k
  induction k with
  | zero => intro s hs; omega
  | succ k ih =>
    intro s hs e fuel hd he hf
    obtain ⟨fuel, rfl⟩ : ∃ f, fuel = f + 1 := ⟨fuel - 1, by omega⟩
    cases s with
    | nil =>
      refine wl_end ?_
      unfold wc181_0
      simp (disch := omega) only [↓t_cmp, ↓e_slcs, ↓e_loc, List.getElem?_cons_zero, obs, List.getElem?_cons_succ, ↓e_bin, ↓e_lit, p_add, nc1, x_slc, Nat.add_sub_cancel_left, q_eqs, nil_eqc, hd, List.take_nil]
    | cons c r =>
      obtain ⟨hl, hr⟩ := drop_cons hd
      have ht1 : (c :: r).take 1 = [c] := by simp
      cases hc : (c == 36) with
      | false =>
        rw [ld, hc, if_neg (by decide)]
        refine wl_end ?_
        unfold wc181_0
        simp (disch := omega) only [↓t_cmp, ↓e_slcs, ↓e_loc, List.getElem?_cons_zero, obs, List.getElem?_cons_succ, ↓e_bin, ↓e_lit, p_add, nc1, x_slc, Nat.add_sub_cancel_left, q_eqs, one_eq, hd, ht1, hc]
      | true =>
        rw [ld, hc, if_pos rfl]
        rw [List.length_cons] at hs
        refine (wl_next (H' := H) (ρ2 := [some (.str t), a, some (.int ((e + 1 : Nat) : Int)), y]) (H2 := H) ?_ ?_).trans ((ih r (by omega) (e + 1) fuel hr (by omega) (by omega)).trans ?_)
        · unfold wc181_0
          simp (disch := omega) only [↓t_cmp, ↓e_slcs, ↓e_loc, List.getElem?_cons_zero, obs, List.getElem?_cons_succ, ↓e_bin, ↓e_lit, p_add, nc1, x_slc, Nat.add_sub_cancel_left, q_eqs, one_eq, hd, ht1, hc]
        · unfold wb181_1
          simp (disch := omega) only [↓s_cons, ↓x_augN, List.getElem?_cons_succ, List.getElem?_cons_zero, ↓e_lit, List.set_cons_succ, List.set_cons_zero, obs, augV_int, p_add, nc1, sq_next, ↓s_nil]
        · rw [show e + 1 + ld r = e + (ld r + 1) from by omega]
abbrev P181 (O : Orc) : Prop := ∀ (t : List Nat) (a : Nat) (H : Hp), t.length ≤ 1000 → a ≤ 1500 → O 181 [.str t, .int (a : Nat)] H = some (.int ((a + bs (t.drop a) : Nat) : Int), H)
theorem g181 (hW : 2000 ≤ W) (h132 : P132 O) (h146 : P146 O) (t : List Nat) (a : Nat) (ht : t.length ≤ 1000) (ha : a ≤ 1500) : (exs O W b181 [some (.str t), some (.int (a : Nat)), Option.none, Option.none] H).bind retOf = some (.int ((a + bs (t.drop a) : Nat) : Int), H) := by
  have lp := l181 (O := O) (W := W) (H := H) t ht (some (.int (a : Nat))) none 1001 (t.drop a) (by rw [List.length_drop]; omega) a W rfl (by omega) (by omega)
  have hle := ld_le (t.drop a)
  rw [List.length_drop] at hle
  have hdd : t.drop (a + ld (t.drop a)) = (t.drop a).drop (ld (t.drop a)) := by rw [List.drop_drop]
  unfold b181 bs
  cases hc : (((t.drop a).drop (ld (t.drop a))).take 1 == [123]) with
  | true =>
    have hlt : a + ld (t.drop a) < t.length := by
      false_or_by_contra
      rename_i hn
      rw [← hdd, List.drop_eq_nil_of_le (by omega)] at hc
      simp at hc
    have hs := fun H => h146 t (a + ld (t.drop a)) H ht hlt
    cases hq : sb ((t.drop a).drop (ld (t.drop a))) with
    | none => simp (disch := omega) only [↓s_cons, ↓x_asg, ↓e_loc, List.getElem?_cons_succ, List.getElem?_cons_zero, obs, List.set_cons_succ, List.set_cons_zero, sq_next, ↓x_whl, ↓x_ite, ↓t_cmp, ↓e_slcs, ↓e_bin, ↓e_lit, p_add, nc1, x_slc, Nat.add_sub_cancel_left, q_eqs, ↓e_call, ↓es_cons, ↓es_nil, ↓x_ret, ↓e_ite, ↓e_cmp, q_lt, tr_bool, if_true, sq_ret, ↓s_nil, retOf_ret, Nat.add_zero, lp, hdd, hc, hs, hq, sbV, m1lt]
    | some k => simp (disch := omega) only [↓s_cons, ↓x_asg, ↓e_loc, List.getElem?_cons_succ, List.getElem?_cons_zero, obs, List.set_cons_succ, List.set_cons_zero, sq_next, ↓x_whl, ↓x_ite, ↓t_cmp, ↓e_slcs, ↓e_bin, ↓e_lit, p_add, nc1, x_slc, Nat.add_sub_add_left, Nat.add_sub_cancel_left, q_eqs, ↓e_call, ↓es_cons, ↓es_nil, ↓x_ret, ↓e_ite, ↓e_cmp, q_lt, tr_bool, Bool.false_eq_true, if_false, sq_ret, ↓s_nil, if_true, retOf_ret, lp, hdd, hc, hs, hq, sbV, nlt0, Nat.add_assoc]
  | false =>
    have hs := fun H => h132 t (a + ld (t.drop a)) H ht (by omega)
    rw [hdd] at hs
    cases hq : (vn ((t.drop a).drop (ld (t.drop a))) == 0) <;> simp (disch := omega) only [↓s_cons, ↓x_asg, ↓e_loc, List.getElem?_cons_succ, List.getElem?_cons_zero, obs, List.set_cons_succ, List.set_cons_zero, sq_next, ↓x_whl, ↓x_ite, ↓t_cmp, ↓e_slcs, ↓e_bin, ↓e_lit, p_add, nc1, x_slc, Nat.add_sub_cancel_left, q_eqs, ↓e_call, ↓es_cons, ↓es_nil, ↓s_nil, Bool.false_eq_true, if_false, ↓x_ret, ↓e_ite, ↓e_cmp, q_eq, neq, tr_bool, sq_ret, retOf_ret, if_true, Nat.add_zero, lp, hdd, hc, hs, hq, eq_add]
    rw [Nat.add_assoc]
theorem f181 (hW : 2000 ≤ W) (n : Nat) : P181 (run FTf W (n + 4)) := fun t a H ht ha => (r181 _ _).trans (g181 hW (f132 hW n) (f146 hW (n + 1)) t a ht ha)

abbrev P188 (O : Orc) : Prop := ∀ (t : List Nat) (a k : Nat) (H : Hp), t.length ≤ 1000 → a < t.length → 1 ≤ k → a + k ≤ 2000 → O 188 [.str t, .int (a : Nat), .int ((a + k : Nat) : Int)] H = some (.bool (bn (t.drop a) k), H)
theorem g188 (h132 : P132 O) (h153 : P153 O) (t : List Nat) (a k : Nat) (ht : t.length ≤ 1000) (ha : a < t.length) (hk : 1 ≤ k) (hak : a + k ≤ 2000) : (exs O W b188 [some (.str t), some (.int (a : Nat)), some (.int ((a + k : Nat) : Int)), Option.none] H).bind retOf = some (.bool (bn (t.drop a) k), H) := by
  obtain ⟨k, rfl⟩ : ∃ k', k = k' + 1 := ⟨k - 1, by omega⟩
  cases hd : t.drop a with
  | nil => have := drop_nil hd; omega
  | cons c r =>
    obtain ⟨hl, hr⟩ := drop_cons hd
    have hi := fun H => x_idx t (H := H) a c r hd (by omega)
    have ht1 : (c :: r).take 1 = [c] := by simp
    have hle := stripL_le (r.take (k - 1)) [32, 9, 10]
    have hrl : r.length ≤ 1000 := by rw [← hr, List.length_drop]; omega
    rw [List.length_take] at hle
    unfold b188 bn
    have hst : ∀ H, stripV (.str ((t.drop (a + 1)).take (k - 1))) (.str [32, 9, 10]) H = some (.str (stripL (r.take (k - 1)) [32, 9, 10]), H) := fun H => by rw [x_strip _ _ _ _ (by omega), hr]
    simp only [List.drop_succ_cons, List.drop_zero, ht1, one_ne, Nat.add_sub_cancel]
    generalize hin : stripL (r.take (k - 1)) [32, 9, 10] = inner at hle hst
    have h1 := fun H => h153 inner H (by omega)
    have h2 : ∀ H, O 132 [.str inner, .int 0] H = some (.int ((0 + vn (inner.drop 0) : Nat) : Int), H) := fun H => h132 inner 0 H (by omega) (by omega)
    simp only [Nat.zero_add, List.drop_zero] at h2
    unfold dO
    cases hc : (c != 123) <;> cases hz : (inner == []) <;> cases hall : inner.all dg <;> simp (disch := omega) only [↓s_cons, ↓x_asg, ↓e_strip, ↓e_slcs, ↓e_loc, List.getElem?_cons_zero, obs, ↓e_bin, List.getElem?_cons_succ, ↓e_lit, p_add, nc1, p_sub, x_slc, Nat.add_sub_add_left, List.set_cons_succ, List.set_cons_zero, sq_next, ↓x_ite, ↓t_or, ↓t_cmp, ↓e_idx, q_nes, one_ne, q_eqs, ite_tand, Bool.and_true, ↓x_ret, sq_ret, ↓s_nil, Bool.false_eq_true, if_false, ↓e_or, ↓e_call, ↓es_cons, ↓es_nil, Bool.not_false, Bool.and_false, ↓e_cmp, ↓e_len, x_len, q_eq, neq, tr_bool, retOf_ret, Bool.or_false, Bool.false_or, if_true, Bool.true_or, ite_tor, Bool.or_true, Bool.not_true, ncs2, hst, hi, h1, h2, hc, hz, hall]
theorem f188 (hW : 2000 ≤ W) (n : Nat) : P188 (run FTf W (n + 4)) := fun t a k H ht ha hk hak => (r188 _ _ _).trans (g188 (f132 hW n) (f153 (n + 2)) t a k ht ha hk hak)

abbrev P202 (O : Orc) : Prop := ∀ (t : List Nat) (a : Nat) (p : Bool) (H : Hp), t.length ≤ 1000 → a < t.length → O 202 [.str t, .int (a : Nat), .bool p] H = some (.int ((a + ar (t.drop a) p : Nat) : Int), H)
theorem g202 (h181 : P181 O) (h188 : P188 O) (h167 : P167 O) (t : List Nat) (a : Nat) (p : Bool) (ht : t.length ≤ 1000) (ha : a < t.length) : (exs O W b202 [some (.str t), some (.int (a : Nat)), some (.bool p), Option.none] H).bind retOf = some (.int ((a + ar (t.drop a) p : Nat) : Int), H) := by
  have hs := fun H => h181 t (a + 1) H ht (by omega)
  have hle := bs_le (t.drop (a + 1))
  rw [List.length_drop] at hle
  have hdr : (t.drop a).drop 1 = t.drop (a + 1) := by rw [List.drop_drop]
  unfold b202 ar
  simp only [hdr]
  cases hz : (bs (t.drop (a + 1)) == 0) with
  | true => simp (disch := omega) only [↓s_cons, ↓x_asg, ↓e_call, ↓es_cons, ↓e_loc, List.getElem?_cons_zero, obs, ↓e_bin, List.getElem?_cons_succ, ↓e_lit, p_add, nc1, ↓es_nil, List.set_cons_succ, List.set_cons_zero, sq_next, ↓x_ite, ↓t_cmp, q_eq, neq, ↓x_ret, sq_ret, ↓s_nil, if_true, retOf_ret, Nat.add_zero, hs, eq_add, hz]
  | false =>
    have hz' : bs (t.drop (a + 1)) ≠ 0 := by simpa using hz
    have h8 := fun H => h188 t (a + 1) (bs (t.drop (a + 1))) H ht (by omega) (by omega) (by omega)
    have h67 := fun H => h167 t (a + 1 + bs (t.drop (a + 1))) p H ht (by omega)
    rw [← List.drop_drop (l := t) (j := a + 1)] at h67
    cases hb : bn (t.drop (a + 1)) (bs (t.drop (a + 1))) <;> simp (disch := omega) only [↓s_cons, ↓x_asg, ↓e_call, ↓es_cons, ↓e_loc, List.getElem?_cons_zero, obs, ↓e_bin, List.getElem?_cons_succ, ↓e_lit, p_add, nc1, ↓es_nil, List.set_cons_succ, List.set_cons_zero, sq_next, ↓x_ite, ↓t_cmp, q_eq, neq, ↓x_ret, sq_ret, ↓s_nil, Bool.false_eq_true, if_false, ↓e_ite, tr_bool, retOf_ret, if_true, hs, eq_add, hz, h8, hb, h67] <;> simp only [Nat.add_assoc]
theorem f202 (hW : 2000 ≤ W) (n : Nat) : P202 (run FTf W (n + 5)) := fun t a p H ht ha => (r202 _ _ _).trans (g202 (f181 hW n) (f188 hW n) (f167 hW (n + 1)) t a p ht ha)
end
theorem isin_one (g : Nat) (y : List Nat) : isIn (.str [g]) (.str y) = some (y.contains g) := rfl
theorem isin_nil (y : List Nat) : isIn (.str []) (.str y) = some true := rfl
section
variable {O : Orc} {W : Nat} {H : Hp}
theorem l195 (t : List Nat) (ht : t.length ≤ 1000) (a p io : Option V) (g : Nat) (hg : (g != 48) = true) : ∀ (k : Nat) (s : List Nat), s.length < k → ∀ (e fuel : Nat), t.drop e = s → e ≤ 1500 → k ≤ fuel →
    wloop (tst O wc195_0) (exs O W wb195_1) fuel [some (.str t), a, p, some (.str [g]), some (.int (e : Nat)), io] H = some (.next, [some (.str t), a, p, some (.str [g]), some (.int ((e + dl s : Nat) : Int)), io], H) := by
  intro k
  induction k with
  | zero => intro s hs; omega
  | succ k ih =>
    intro s hs e fuel hd he hf
    obtain ⟨fuel, rfl⟩ : ∃ f, fuel = f + 1 := ⟨fuel - 1, by omega⟩
    cases s with
    | nil =>
      have := drop_nil hd
      refine wl_end ?_
      unfold wc195_0
      simp (disch := omega) only [↓t_and, ↓t_cmp, ↓e_loc, List.getElem?_cons_succ, List.getElem?_cons_zero, obs, ↓e_lit, q_nes, one_ne, ↓e_len, x_len, q_lt, nlt, ↓t_chain, ↓e_chain, ↓e_idx, Bool.false_eq_true, if_false, ite_tand, Bool.and_false, hg, decide_eq_false (show ¬ e < t.length by omega)]
    | cons c r =>
      obtain ⟨hl, hr⟩ := drop_cons hd
      have hi := fun H => x_idx t (H := H) e c r hd (by omega)
      have hdg : (decide (48 ≤ c) && decide (c ≤ 57)) = dg c := rfl
      cases hc : dg c with
      | false =>
        rw [dl, hc, if_neg (by decide)]
        refine wl_end ?_
        unfold wc195_0
        simp (disch := omega) only [↓t_and, ↓t_cmp, ↓e_loc, List.getElem?_cons_succ, List.getElem?_cons_zero, obs, ↓e_lit, q_nes, one_ne, ↓e_len, x_len, q_lt, nlt, ↓t_chain, ↓e_chain, ↓e_idx, q_les, le_sign, ite_ch, tr_bool, ite_tand, Bool.and_false, hg, decide_eq_true hl, hi, hdg, hc]
      | true =>
        rw [dl, hc, if_pos rfl]
        rw [List.length_cons] at hs
        refine (wl_next (H' := H) (ρ2 := [some (.str t), a, p, some (.str [g]), some (.int ((e + 1 : Nat) : Int)), io]) (H2 := H) ?_ ?_).trans ((ih r (by omega) (e + 1) fuel hr (by omega) (by omega)).trans ?_)
        · unfold wc195_0
          simp (disch := omega) only [↓t_and, ↓t_cmp, ↓e_loc, List.getElem?_cons_succ, List.getElem?_cons_zero, obs, ↓e_lit, q_nes, one_ne, ↓e_len, x_len, q_lt, nlt, ↓t_chain, ↓e_chain, ↓e_idx, q_les, le_sign, ite_ch, tr_bool, ite_tand, Bool.and_true, hg, decide_eq_true hl, hi, hdg, hc]
        · unfold wb195_1
          simp (disch := omega) only [↓s_cons, ↓x_augN, List.getElem?_cons_succ, List.getElem?_cons_zero, ↓e_lit, List.set_cons_succ, List.set_cons_zero, obs, augV_int, p_add, nc1, sq_next, ↓s_nil]
        · rw [show e + 1 + dl r = e + (dl r + 1) from by omega]
abbrev P195 (O : Orc) : Prop := ∀ (t : List Nat) (a : Nat) (p : Bool) (H : Hp), t.length ≤ 1000 → a < t.length → O 195 [.str t, .int (a : Nat), .bool p] H = some (.int ((a + sc (t.drop a) p : Nat) : Int), H)
theorem lt_add (a k : Nat) : decide (a < a + k) = decide (0 < k) := by
  by_cases h : 0 < k
  · rw [decide_eq_true h, decide_eq_true (by omega)]
  · rw [decide_eq_false h, decide_eq_false (by omega)]
theorem g195 (hW : 2000 ≤ W) (h181 : P181 O) (h188 : P188 O) (h174 : P174 O) (t : List Nat) (a : Nat) (p : Bool) (ht : t.length ≤ 1000) (ha : a < t.length) :
    (exs O W b195 [some (.str t), some (.int (a : Nat)), some (.bool p), Option.none, Option.none, Option.none] H).bind retOf = some (.int ((a + sc (t.drop a) p : Nat) : Int), H) := by
  have hdr : (t.drop a).drop 1 = t.drop (a + 1) := by rw [List.drop_drop]
  -- the parts of the body
  have pre1 : ∀ (g : Nat) (x : List Nat), t.drop (a + 1) = g :: x → (p && [41, 124].contains g) = false → ∀ r, exs O W (.cons (hd1 b195) (.cons (hd1 (tl1 b195)) r)) [some (.str t), some (.int (a : Nat)), some (.bool p), Option.none, Option.none, Option.none] H =
      exs O W r [some (.str t), some (.int (a : Nat)), some (.bool p), some (.str [g]), Option.none, Option.none] H := fun g x hd hp r => by
    have ht1 : (g :: x).take 1 = [g] := by simp
    dsimp only [b195, hd1, tl1]
    simp (disch := omega) only [↓s_cons, ↓x_asg, ↓e_slcs, ↓e_loc, List.getElem?_cons_zero, obs, ↓e_bin, List.getElem?_cons_succ, ↓e_lit, p_add, nc1, nc2, x_slc, Nat.add_sub_add_left, Nat.reduceSub, List.set_cons_succ, List.set_cons_zero, sq_next, ↓x_ite, ↓t_or, ↓t_cmp, q_eqs, cons_eq, ↓t_and, ↓t_loc, tr_bool, q_in, ite_tand, Bool.and_true, ↓x_ret, sq_ret, ↓s_nil, Bool.false_eq_true, if_false, hd, ht1, isin_one, hp]
  have pre2 : ∀ (g : Nat), (g == 35) = false → ∀ r, exs O W (.cons (hd1 (tl1 (tl1 b195))) r) [some (.str t), some (.int (a : Nat)), some (.bool p), some (.str [g]), Option.none, Option.none] H =
      exs O W r [some (.str t), some (.int (a : Nat)), some (.bool p), some (.str [g]), Option.none, Option.none] H := fun g h35 r => by
    dsimp only [b195, hd1, tl1]
    simp (disch := omega) only [↓s_cons, ↓x_ite, ↓t_cmp, ↓e_loc, List.getElem?_cons_succ, List.getElem?_cons_zero, obs, ↓e_lit, q_eqs, one_eq, ↓x_asg, ↓e_call, ↓es_cons, ↓e_bin, p_add, nc2, ↓es_nil, List.set_cons_succ, List.set_cons_zero, ↓s_nil, Bool.false_eq_true, if_false, sq_next, h35]
  have e195 : b195 = .cons (hd1 b195) (.cons (hd1 (tl1 b195)) (.cons (hd1 (tl1 (tl1 b195))) (tl1 (tl1 (tl1 b195))))) := rfl
  unfold sc
  simp only [hdr]
  cases hd : t.drop (a + 1) with
  | nil =>
    unfold b195
    simp (disch := omega) only [↓s_cons, ↓x_asg, ↓e_slcs, ↓e_loc, List.getElem?_cons_zero, obs, ↓e_bin, List.getElem?_cons_succ, ↓e_lit, p_add, nc1, nc2, x_slc, Nat.add_sub_add_left, Nat.reduceSub, List.set_cons_succ, List.set_cons_zero, sq_next, ↓x_ite, ↓t_or, ↓t_cmp, q_eqs, nil_eq, ↓t_and, ↓t_loc, tr_bool, q_in, if_true, ↓x_ret, sq_ret, ↓s_nil, retOf_ret, Nat.add_zero, hd, List.take_nil]
  | cons g r =>
    obtain ⟨hl, hr⟩ := drop_cons hd
    have hr : t.drop (a + 2) = r := hr
    have hdg : (decide (48 ≤ g) && decide (g ≤ 57)) = dg g := rfl
    have hrl : r.length ≤ 1000 := by rw [← hr, List.length_drop]; omega
    cases hp : (p && [41, 124].contains g) with
    | true =>
      have ht1 : (g :: r).take 1 = [g] := by simp
      unfold b195
      simp (disch := omega) only [↓s_cons, ↓x_asg, ↓e_slcs, ↓e_loc, List.getElem?_cons_zero, obs, ↓e_bin, List.getElem?_cons_succ, ↓e_lit, p_add, nc1, nc2, x_slc, Nat.add_sub_add_left, Nat.reduceSub, List.set_cons_succ, List.set_cons_zero, sq_next, ↓x_ite, ↓t_or, ↓t_cmp, q_eqs, cons_eq, ↓t_and, ↓t_loc, tr_bool, q_in, ite_tand, ite_tor, Bool.or_true, ↓x_ret, sq_ret, ↓s_nil, if_true, retOf_ret, Nat.add_zero, hd, ht1, isin_one, hp]
    | false =>
      rw [e195, pre1 g r hd hp]
      cases h35 : (g == 35) with
      | true =>
        have h81 := fun H => h181 t (a + 2) H ht (by omega)
        rw [hr] at h81
        dsimp only [b195, hd1, tl1]
        cases hz : (bs r == 0) <;> simp (disch := omega) only [↓s_cons, ↓x_ite, ↓t_cmp, ↓e_loc, List.getElem?_cons_succ, List.getElem?_cons_zero, obs, ↓e_lit, q_eqs, one_eq, ↓x_asg, ↓e_call, ↓es_cons, ↓e_bin, p_add, nc2, ↓es_nil, List.set_cons_succ, List.set_cons_zero, sq_next, ↓x_ret, ↓e_ite, ↓e_cmp, q_eq, neq, tr_bool, Bool.false_eq_true, if_false, sq_ret, ↓s_nil, if_true, retOf_ret, Nat.add_zero, hp, h35, h81, eq_add, hz] <;> (try simp only [Nat.add_assoc])
      | false =>
        rw [pre2 g h35]
        cases hdd : dg g with
        | true =>
          dsimp only [b195, hd1, tl1]
          cases h48 : (g != 48) with
          | true =>
            have hle := dl_le r
            have lp := l195 (O := O) (W := W) (H := H) t ht (some (.int (a : Nat))) (some (.bool p)) none g h48 1001 r (by omega) (a + 2) W hr (by omega) (by omega)
            have h74 := fun H => h174 t (a + 2 + dl r) p H ht (by
              have := congrArg List.length hr
              rw [List.length_drop] at this
              omega)
            rw [← List.drop_drop (l := t) (j := a + 2), hr] at h74
            simp (disch := omega) only [↓s_cons, ↓x_ite, ↓t_chain, ↓e_chain, ↓e_lit, ↓e_loc, List.getElem?_cons_succ, List.getElem?_cons_zero, obs, q_les, le_sign, ite_ch, tr_bool, ↓x_asg, ↓e_bin, p_add, nc2, List.set_cons_succ, List.set_cons_zero, sq_next, ↓x_whl, ↓s_nil, ↓x_ret, ↓e_call, ↓es_cons, ↓es_nil, sq_ret, if_true, retOf_ret, Bool.false_eq_true, if_false, hp, h35, h48, hdg, hdd, lp, h74]
            try simp only [Nat.add_assoc]
          | false =>
            have lp : wloop (tst O wc195_0) (exs O W wb195_1) W [some (.str t), some (.int (a : Nat)), some (.bool p), some (.str [g]), some (.int ((a + 2 : Nat) : Int)), none] H = some (.next, [some (.str t), some (.int (a : Nat)), some (.bool p), some (.str [g]), some (.int ((a + 2 : Nat) : Int)), none], H) := by
              obtain ⟨W', rfl⟩ : ∃ f, W = f + 1 := ⟨W - 1, by omega⟩
              refine wl_end ?_
              unfold wc195_0
              simp (disch := omega) only [↓t_and, ↓t_cmp, ↓e_loc, List.getElem?_cons_succ, List.getElem?_cons_zero, obs, ↓e_lit, q_nes, one_ne, ↓e_len, x_len, q_lt, nlt, ↓t_chain, ↓e_chain, ↓e_idx, Bool.false_eq_true, if_false, h48]
            have h74 := fun H => h174 t (a + 2) p H ht (by omega)
            rw [hr] at h74
            simp (disch := omega) only [↓s_cons, ↓x_ite, ↓t_chain, ↓e_chain, ↓e_lit, ↓e_loc, List.getElem?_cons_succ, List.getElem?_cons_zero, obs, q_les, le_sign, ite_ch, tr_bool, ↓x_asg, ↓e_bin, p_add, nc2, List.set_cons_succ, List.set_cons_zero, sq_next, ↓x_whl, ↓s_nil, ↓x_ret, ↓e_call, ↓es_cons, ↓es_nil, sq_ret, if_true, retOf_ret, Bool.false_eq_true, if_false, Nat.add_zero, hp, h35, h48, hdg, hdd, lp, h74, List.drop_zero]
            try simp only [Nat.add_assoc]
        | false =>
          have hbl := bs_le (g :: r)
          rw [List.length_cons] at hbl
          have h81' := fun H => h181 t (a + 1) H ht (Nat.le_trans (Nat.le_of_lt hl) (Nat.le_trans ht (Nat.le_of_ble_eq_true rfl)))
          rw [hd] at h81'
          have pre3 : ∀ r', exs O W (.cons (hd1 (tl1 (tl1 (tl1 b195)))) (.cons (hd1 (tl1 (tl1 (tl1 (tl1 b195))))) r')) [some (.str t), some (.int (a : Nat)), some (.bool p), some (.str [g]), Option.none, Option.none] H =
              exs O W r' [some (.str t), some (.int (a : Nat)), some (.bool p), some (.str [g]), some (.int ((a + 1 + bs (g :: r) : Nat) : Int)), Option.none] H := fun r' => by
            dsimp only [b195, hd1, tl1]
            simp (disch := omega) only [↓s_cons, ↓x_ite, ↓t_chain, ↓e_chain, ↓e_lit, ↓e_loc, List.getElem?_cons_succ, List.getElem?_cons_zero, obs, q_les, le_sign, ite_ch, tr_bool, ↓x_asg, ↓e_bin, p_add, nc2, List.set_cons_succ, List.set_cons_zero, sq_next, ↓x_whl, ↓s_nil, Bool.false_eq_true, if_false, ↓e_call, ↓es_cons, nc1, ↓es_nil, hdg, hdd, h81']
          have e3 : tl1 (tl1 (tl1 b195)) = .cons (hd1 (tl1 (tl1 (tl1 b195)))) (.cons (hd1 (tl1 (tl1 (tl1 (tl1 b195))))) (tl1 (tl1 (tl1 (tl1 (tl1 b195)))))) := rfl
          rw [e3, pre3]
          dsimp only [b195, hd1, tl1]
          have hrl2 : a + 2 + r.length ≤ 1001 := by
            have := congrArg List.length hr
            rw [List.length_drop] at this
            omega
          cases hk : decide (0 < bs (g :: r)) with
          | true =>
            have hk' := of_decide_eq_true hk
            have h8 := fun H => h188 t (a + 1) (bs (g :: r)) H ht (by omega) (by omega) (by omega)
            rw [hd] at h8
            have h74 := fun H => h174 t (a + 1 + bs (g :: r)) p H ht (by omega)
            have hdk : t.drop (a + 1 + bs (g :: r)) = (g :: r).drop (bs (g :: r)) := by rw [← List.drop_drop, hd]
            rw [hdk] at h74
            cases hb : (bn (g :: r) (bs (g :: r)) && ((g :: r).drop (bs (g :: r))).take 2 != [45, 62]) <;> simp (disch := omega) only [↓s_cons, ↓x_ite, ↓t_cmp, ↓e_loc, List.getElem?_cons_succ, List.getElem?_cons_zero, obs, ↓e_bin, ↓e_lit, p_add, nc1, q_gt, nlt, ↓x_asg, ↓e_and, ↓e_call, ↓es_cons, ↓es_nil, ↓e_cmp, ↓e_slcs, nc2, x_slc, Nat.add_sub_cancel_left, q_nes, tr_bool, ite_and, List.set_cons_succ, List.set_cons_zero, sq_next, ↓x_ret, ↓e_ite, Bool.false_eq_true, if_false, sq_ret, ↓s_nil, if_true, retOf_ret, hp, h35, hdd, lt_add, hk, h8, hb, hdk, h74] <;> (try simp only [Nat.add_assoc])
          | false =>
            have h74 := fun H => h174 t (a + 2) p H ht (by omega)
            rw [hr] at h74
            cases hpu : ([38, 44, 59, 33, 64, 47, 34].contains g || ([96, 39, 43, 124, 46].contains g && (!p && (g :: r).take 2 != [43, 91]))) <;> simp (disch := omega) only [↓s_cons, ↓x_ite, ↓t_cmp, ↓e_loc, List.getElem?_cons_succ, List.getElem?_cons_zero, obs, ↓e_bin, ↓e_lit, p_add, nc1, q_gt, nlt, ↓x_asg, ↓e_and, ↓e_call, ↓es_cons, ↓es_nil, ↓e_cmp, ↓e_slcs, nc2, x_slc, Nat.add_sub_cancel_left, q_nes, List.set_cons_succ, List.set_cons_zero, ↓s_nil, Bool.false_eq_true, if_false, sq_next, ↓t_or, q_in, ↓t_and, ↓t_not, ↓t_loc, tr_bool, nc3, Nat.add_sub_add_left, Nat.reduceSub, ite_tand, ite_tor, ↓x_ret, sq_ret, retOf_ret, Nat.add_zero, if_true, hp, h35, hdd, hd, isin_one, lt_add, hk, hpu, h74] <;> (try simp only [Nat.add_assoc])
theorem f195 (hW : 2000 ≤ W) (n : Nat) : P195 (run FTf W (n + 5)) := fun t a p H ht ha => (r195 _ _ _).trans (g195 hW (f181 hW n) (f188 hW n) (f174 hW n) t a p ht ha)
end
inductive PP where
  | t (s : List Nat)
  | x (s : List Nat)
  | c (m : List Nat) (l : List (Bool × List Nat))
  deriving DecidableEq
noncomputable def tTx : List Nat := [116, 101, 120, 116]
noncomputable def tEx : List Nat := [101, 120, 112, 114]
noncomputable def tCa : List Nat := [99, 97, 115, 101]
noncomputable def vPr (q : Bool × List Nat) : V := .tup [.str (if q.1 then tTx else tEx), .str q.2]
inductive VQ (n : Nat) (H : Hp) : V → PP → Prop
  | t (s : List Nat) : VQ n H (.tup [.str tTx, .str s]) (.t s)
  | x (s : List Nat) : VQ n H (.tup [.str tEx, .str s]) (.x s)
  | cr (m : List Nat) (l : List (Bool × List Nat)) (r : Nat) : n + 2 < r → H[r]? = some (l.map vPr) → VQ n H (.tup [.str tCa, .str m, .ref r]) (.c m l)
  | cf (m : List Nat) (l : List (Bool × List Nat)) : VQ n H (.tup [.str tCa, .str m, .fl (l.map vPr)]) (.c m l)
inductive VQs (n : Nat) (H : Hp) : List V → List PP → Prop
  | nil : VQs n H [] []
  | cons {v : V} {q : PP} {vs : List V} {qs : List PP} : VQ n H v q → VQs n H vs qs → VQs n H (v :: vs) (q :: qs)
theorem VQs.len {n : Nat} {H : Hp} : ∀ {vs : List V} {qs : List PP}, VQs n H vs qs → vs.length = qs.length
  | _, _, .nil => rfl
  | _, _, .cons _ r => congrArg (· + 1) r.len
theorem VQs.app {n : Nat} {H : Hp} : ∀ {vs ws : List V} {qs ps : List PP}, VQs n H vs qs → VQs n H ws ps → VQs n H (vs ++ ws) (qs ++ ps)
  | _, _, _, _, .nil, h => h
  | _, _, _, _, .cons a r, h => .cons a (r.app h)
theorem VQs.snoc {n : Nat} {H : Hp} : ∀ {qs : List PP} {q : PP} {vs : List V}, VQs n H vs (qs ++ [q]) → ∃ ws w, vs = ws ++ [w] ∧ VQs n H ws qs ∧ VQ n H w q
  | [], _, _, .cons h .nil => ⟨[], _, rfl, .nil, h⟩
  | _ :: _, _, _, .cons h r => let ⟨ws, w, e, a, b⟩ := VQs.snoc r; ⟨_ :: ws, w, by rw [e]; rfl, .cons h a, b⟩
noncomputable def Ext (n : Nat) (H H' : Hp) : Prop := H.length ≤ H'.length ∧ ∀ i, i < H.length → i ≠ n → H'[i]? = H[i]?
theorem Ext.refl (n : Nat) (H : Hp) : Ext n H H := ⟨Nat.le_refl _, fun _ _ _ => rfl⟩
theorem Ext.trans {n : Nat} {H1 H2 H3 : Hp} (a : Ext n H1 H2) (b : Ext n H2 H3) : Ext n H1 H3 := ⟨Nat.le_trans a.1 b.1, fun i hi hn => (b.2 i (Nat.lt_of_lt_of_le hi a.1) hn).trans (a.2 i hi hn)⟩
theorem Ext.get {n : Nat} {H H' : Hp} (x : Ext n H H') {i : Nat} {l : List V} (h : H[i]? = some l) (hn : i ≠ n) : H'[i]? = some l := (x.2 i (List.getElem?_eq_some_iff.mp h).1 hn).trans h
theorem Ext.set (n : Nat) (H : Hp) (l : List V) : Ext n H (H.set n l) := ⟨by simp, fun i _ hn => by rw [List.getElem?_set_ne (Ne.symm hn)]⟩
theorem VQ.mono {n : Nat} {H H' : Hp} (x : Ext n H H') : ∀ {v : V} {q : PP}, VQ n H v q → VQ n H' v q
  | _, _, .t s => .t s
  | _, _, .x s => .x s
  | _, _, .cr m l r h e => .cr m l r h (x.get e (by omega))
  | _, _, .cf m l => .cf m l
theorem VQs.mono {n : Nat} {H H' : Hp} (x : Ext n H H') : ∀ {vs : List V} {qs : List PP}, VQs n H vs qs → VQs n H' vs qs
  | _, _, .nil => .nil
  | _, _, .cons a r => .cons (a.mono x) (r.mono x)

noncomputable def addP (l : List PP) (q : PP) : List PP := match l.getLast?, q with
  | some (.t s), .t s' => l.dropLast ++ [.t (s ++ s')]
  | _, q => l ++ [q]
theorem addP_tt (l : List PP) (s s' : List Nat) : addP (l ++ [.t s]) (.t s') = l ++ [.t (s ++ s')] := by simp [addP]
theorem addP_nil (q : PP) : addP [] q = [q] := rfl
theorem addP_x (l : List PP) (s : List Nat) : addP l (.x s) = l ++ [.x s] := by
  unfold addP
  split
  · rename_i h; cases h
  · rfl
theorem addP_c (l : List PP) (m : List Nat) (k : List (Bool × List Nat)) : addP l (.c m k) = l ++ [.c m k] := by
  unfold addP
  split
  · rename_i h; cases h
  · rfl
theorem addP_nt (l : List PP) (q : PP) (s : List Nat) (h : ∀ u, q ≠ .t u) : addP (l ++ [q]) (.t s) = l ++ [q] ++ [.t s] := by
  unfold addP
  split
  · rename_i e _
    simp only [List.getLast?_append, List.getLast?_singleton, Option.some_or, Option.some.injEq] at e
    exact absurd e (h _)
  · rfl

section
variable {O : Orc} {W : Nat} {H : Hp}
theorem lenR {r : Nat} {l : List V} (h : H[r]? = some l) (hl : l.length ≤ 1048576) : lenV (.ref r) H = some (.int (l.length : Int), H) := by
  show ((H[r]?).bind fun l => if l.length ≤ lim then some (V.int (l.length : Int), H) else Option.none) = _
  rw [h]
  exact if_pos (lim_le hl)
theorem idxR {r k : Nat} {l : List V} {v : V} (h : H[r]? = some l) (hv : l[k]? = some v) (hk : k ≤ 1048576) : idx2 (.ref r) (.int (k : Int)) H = some v := by
  show ((H[r]?).bind fun vs => if 0 ≤ (k : Int) ∧ (k : Int) ≤ (lim : Int) then vs[(k : Int).toNat]? else if (k : Int) = -1 then vs.getLast? else Option.none) = _
  rw [h]
  show (if 0 ≤ (k : Int) ∧ (k : Int) ≤ (lim : Int) then l[(k : Int).toNat]? else _) = _
  rw [if_pos (by rw [lim_eq]; omega), Int.toNat_natCast, hv]
theorem idxR0 {r : Nat} {l : List V} {v : V} (h : H[r]? = some l) (hv : l[0]? = some v) : idx2 (.ref r) (.int 0) H = some v := idxR (k := 0) h hv (by omega)
theorem idxR1 {r : Nat} {l : List V} {v : V} (h : H[r]? = some l) (hv : l[1]? = some v) : idx2 (.ref r) (.int 1) H = some v := idxR (k := 1) h hv (by omega)
theorem idxT0 (v : V) (vs : List V) : idx2 (.tup (v :: vs)) (.int 0) H = some v := by
  show (if 0 ≤ (0 : Int) ∧ (0 : Int) ≤ (lim : Int) then (v :: vs)[(0 : Int).toNat]? else Option.none) = _
  rw [if_pos (by rw [lim_eq]; omega)]
  rfl
theorem idxT1 (u v : V) (vs : List V) : idx2 (.tup (u :: v :: vs)) (.int 1) H = some v := by
  show (if 0 ≤ (1 : Int) ∧ (1 : Int) ≤ (lim : Int) then (u :: v :: vs)[(1 : Int).toNat]? else Option.none) = _
  rw [if_pos (by rw [lim_eq]; omega)]
  rfl
theorem appR {r : Nat} {l : List V} (y : V) (h : H[r]? = some l) (hl : l.length ≤ 1048576) : appV (.ref r) y H = some (.none, H.set r (l ++ [y])) := by
  show ((H[r]?).bind fun l => if l.length ≤ lim then some (V.none, H.set r (l ++ [y])) else Option.none) = _
  rw [h]
  exact if_pos (lim_le hl)
theorem popR {r : Nat} {l : List V} {v : V} (h : H[r]? = some (l ++ [v])) (hl : (l ++ [v]).length ≤ 1048576) : popV (.ref r) H = some (v, H.set r l) := by
  show ((H[r]?).bind fun l => (l.getLast?).bind fun v => if l.length ≤ lim then some (v, H.set r l.dropLast) else Option.none) = _
  rw [h]
  simp only [Option.bind_some, List.getLast?_append, List.getLast?_singleton, Option.some_or, List.dropLast_append_cons, List.dropLast_singleton, List.append_nil]
  exact if_pos (lim_le hl)
theorem setR {ρ : Loc} {r k : Nat} {l : List V} (v : V) (h : H[r]? = some l) (hk : k < l.length) (hl : l.length ≤ 1048576) : setV ρ (.ref r) (.int (k : Int)) v H = some (.next, ρ, H.set r (l.set k v)) := by
  show ((H[r]?).bind fun l => if 0 ≤ (k : Int) ∧ (k : Int) < (l.length : Int) ∧ l.length ≤ lim then some (Out.next, ρ, H.set r (l.set (k : Int).toNat v)) else _) = _
  rw [h]
  show (if 0 ≤ (k : Int) ∧ (k : Int) < (l.length : Int) ∧ l.length ≤ lim then some (Out.next, ρ, H.set r (l.set (k : Int).toNat v)) else _) = _
  rw [if_pos (by rw [lim_eq]; omega), Int.toNat_natCast]
theorem z0 : decide ((0 : Int) < 0) = false := rfl
theorem pos1 (a : Nat) : decide ((0 : Int) < ((a + 1 : Nat) : Int)) = true := decide_eq_true (by omega)
theorem addS (x y : List Nat) (h : x.length + y.length ≤ 1048576) : bin2 .add (.str x) (.str y) H = some (.str (x ++ y), H) := if_pos (lim_le h)

structure Top1 (H : Hp) (S e p : Nat) (st : List V) (m : List Nat) (l : List V) : Prop where
  hS : H[S]? = some (st ++ [.ref e])
  he : H[e]? = some [.str m, .ref p]
  hp : H[p]? = some l
  hm : m = [] ∨ m = [85] ∨ m = [81]
  l1 : st.length ≤ 1000
  l2 : l.length ≤ 2000
  d1 : S ≠ p
  d2 : e ≠ p
abbrev A209 (O : Orc) (H : Hp) (S p : Nat) (v : V) (l' : List V) : Prop := O 209 [.ref S, v] H = some (.none, H.set p l')
theorem top_facts {S e p : Nat} {st l : List V} {m : List Nat} (T : Top1 H S e p st m l) : lenV (.ref S) H = some (.int ((st.length + 1 : Nat) : Int), H) ∧ idx2 (.ref S) (.int (st.length : Int)) H = some (.ref e) ∧ idx2 (.ref e) (.int 1) H = some (.ref p) ∧ idx2 (.ref e) (.int 0) H = some (.str m) := by
  have h1 := lenR T.hS (by have := T.l1; simp; omega)
  rw [List.length_append, List.length_singleton] at h1
  exact ⟨h1, idxR T.hS (by simp) (by have := T.l1; omega), idxR1 T.he rfl, idxR0 T.he rfl⟩
theorem Top1.set {S e p : Nat} {st l : List V} {m : List Nat} (T : Top1 H S e p st m l) (l2 : List V) (h2 : l2.length ≤ 2000) : Top1 (H.set p l2) S e p st m l2 where
  hS := by rw [List.getElem?_set_ne (Ne.symm T.d1)]; exact T.hS
  he := by rw [List.getElem?_set_ne (Ne.symm T.d2)]; exact T.he
  hp := by rw [List.getElem?_set_self (List.getElem?_eq_some_iff.mp T.hp).1]
  hm := T.hm
  l1 := T.l1
  l2 := h2
  d1 := T.d1
  d2 := T.d2
theorem mark_in {m : List Nat} (h : m = [] ∨ m = [85] ∨ m = [81]) : isIn (.str m) (.str [117, 108]) = some (m == []) ∧ ((m == []) && (m != [])) = false := by
  rcases h with rfl | rfl | rfl <;> exact ⟨rfl, rfl⟩
theorem g209_tt {S e p : Nat} {st l : List V} {m s s' : List Nat} (T : Top1 H S e p st m (l ++ [.tup [.str tTx, .str s]])) (hs : s.length + s'.length ≤ 1048576) :
    (exs O W b209 [some (.ref S), some (.tup [.str tTx, .str s']), Option.none] H).bind retOf = some (.none, H.set p (l ++ [.tup [.str tTx, .str (s ++ s')]])) := by
  obtain ⟨a1, a2, a3, a4⟩ := top_facts T
  have hz := T.l2
  rw [List.length_append, List.length_singleton] at hz
  have b1 := lenR T.hp (by rw [List.length_append, List.length_singleton]; omega)
  rw [List.length_append, List.length_singleton] at b1
  have b2 := idxR (k := l.length) T.hp (v := .tup [.str tTx, .str s]) (by simp) (by omega)
  have T' := T.set (l ++ [.tup [.str tTx, .str (s ++ s')]]) (by rw [List.length_append, List.length_singleton]; omega)
  obtain ⟨c1, c2, c3, c4⟩ := top_facts T'
  obtain ⟨m1, m2⟩ := mark_in T.hm
  have hset := fun ρ => setR (ρ := ρ) (.tup [.str tTx, .str (s ++ s')]) T.hp (k := l.length) (by simp) (by rw [List.length_append, List.length_singleton]; omega)
  have hset2 : (l ++ [V.tup [V.str tTx, V.str s]]).set l.length (.tup [.str tTx, .str (s ++ s')]) = l ++ [.tup [.str tTx, .str (s ++ s')]] := by simp
  rw [hset2] at hset
  have ht : (tTx == [116, 101, 120, 116]) = true := rfl
  have htx : ([116, 101, 120, 116] : List Nat) = tTx := rfl
  unfold b209
  simp (disch := omega) only [↓s_cons, ↓x_asg, ↓e_idx, ↓e_loc, List.getElem?_cons_zero, obs, ↓e_bin, ↓e_len, ↓e_lit, p_sub, ncs, List.set_cons_succ, List.set_cons_zero, sq_next, ↓x_ite, ↓t_and, ↓t_cmp, List.getElem?_cons_succ, q_eqs, q_gt, if_true, ↓x_set, ↓e_tup, ↓es_cons, ↓es_nil, sq_id, ↓x_ex, ↓e_app, q_in, q_nes, ite_tand, ↓e_call, ↓s_nil, Bool.false_eq_true, if_false, retOf_next, a1, a2, a3, a4, b1, b2, idxT0, idxT1, htx, beq_self_eq_true, pos1, addS, hset, c1, c2, c3, c4, m1, m2]
theorem g209_tn {S e p : Nat} {st l : List V} {m s' : List Nat} (T : Top1 H S e p st m l) (hz : l.length ≤ 1999) (hl : l = [] ∨ ∃ l' k vs, l = l' ++ [.tup (.str k :: vs)] ∧ (k == tTx) = false) :
    (exs O W b209 [some (.ref S), some (.tup [.str tTx, .str s']), Option.none] H).bind retOf = some (.none, H.set p (l ++ [.tup [.str tTx, .str s']])) := by
  obtain ⟨a1, a2, a3, a4⟩ := top_facts T
  have T' := T.set (l ++ [.tup [.str tTx, .str s']]) (by rw [List.length_append, List.length_singleton]; omega)
  obtain ⟨c1, c2, c3, c4⟩ := top_facts T'
  obtain ⟨m1, m2⟩ := mark_in T.hm
  have happ := appR (.tup [.str tTx, .str s']) T.hp (by omega)
  have htx : ([116, 101, 120, 116] : List Nat) = tTx := rfl
  have b1 := lenR T.hp (by omega)
  unfold b209
  rcases hl with rfl | ⟨l', k, vs, rfl, hk⟩
  · have b1 : lenV (.ref p) H = some (.int 0, H) := b1
    simp (disch := omega) only [↓s_cons, ↓x_asg, ↓e_idx, ↓e_loc, List.getElem?_cons_zero, obs, ↓e_bin, ↓e_len, ↓e_lit, p_sub, ncs, List.set_cons_succ, List.set_cons_zero, sq_next, ↓x_ite, ↓t_and, ↓t_cmp, List.getElem?_cons_succ, q_eqs, q_gt, Bool.false_eq_true, if_false, if_true, ↓x_set, ↓e_tup, ↓es_cons, ↓es_nil, sq_id, ↓x_ex, ↓e_app, exV_none, q_in, q_nes, ite_tand, ↓e_call, ↓s_nil, retOf_next, a1, a2, a3, a4, b1, idxT0, idxT1, htx, beq_self_eq_true, z0, happ, c1, c2, c3, c4, m1, m2]
  · rw [List.length_append, List.length_singleton] at b1
    have b2 := idxR (k := l'.length) T.hp (v := .tup (.str k :: vs)) (by simp) (by rw [List.length_append, List.length_singleton] at hz; omega)
    simp (disch := omega) only [↓s_cons, ↓x_asg, ↓e_idx, ↓e_loc, List.getElem?_cons_zero, obs, ↓e_bin, ↓e_len, ↓e_lit, p_sub, ncs, List.set_cons_succ, List.set_cons_zero, sq_next, ↓x_ite, ↓t_and, ↓t_cmp, List.getElem?_cons_succ, q_eqs, q_gt, if_true, ↓x_set, ↓e_tup, ↓es_cons, ↓es_nil, sq_id, ↓x_ex, ↓e_app, Bool.false_eq_true, exV_none, if_false, q_in, q_nes, ite_tand, ↓e_call, ↓s_nil, retOf_next, a1, a2, a3, a4, b1, b2, idxT0, idxT1, htx, beq_self_eq_true, pos1, hk, happ, c1, c2, c3, c4, m1, m2]
theorem g209_n {S e p : Nat} {st l : List V} {m k : List Nat} {vs : List V} (T : Top1 H S e p st m l) (hz : l.length ≤ 1999) (hk : (k == tTx) = false) :
    (exs O W b209 [some (.ref S), some (.tup (.str k :: vs)), Option.none] H).bind retOf = some (.none, H.set p (l ++ [.tup (.str k :: vs)])) := by
  obtain ⟨a1, a2, a3, a4⟩ := top_facts T
  have happ := appR (.tup (.str k :: vs)) T.hp (by omega)
  have htx : ([116, 101, 120, 116] : List Nat) = tTx := rfl
  unfold b209
  simp (disch := omega) only [↓s_cons, ↓x_asg, ↓e_idx, ↓e_loc, List.getElem?_cons_zero, obs, ↓e_bin, ↓e_len, ↓e_lit, p_sub, ncs, List.set_cons_succ, List.set_cons_zero, sq_next, ↓x_ite, ↓t_and, ↓t_cmp, List.getElem?_cons_succ, q_eqs, Bool.false_eq_true, if_false, ↓x_set, ↓e_tup, ↓es_cons, ↓es_nil, sq_id, ↓x_ex, ↓e_app, exV_none, q_in, ↓e_call, ↓s_nil, retOf_next, a1, a2, a3, a4, idxT0, htx, hk, happ]
abbrev P209 (O : Orc) : Prop := ∀ (H : Hp) (n S e p : Nat) (st l : List V) (m : List Nat) (ql : List PP) (v : V) (q : PP), Top1 H S e p st m l → VQs n H l ql → VQ n H v q → ql.length ≤ 1999 → (∀ s ∈ ql, ∀ u, s = .t u → u.length ≤ 500000) → (∀ u, q = .t u → u.length ≤ 500000) →
  ∃ l', O 209 [.ref S, v] H = some (.none, H.set p l') ∧ VQs n H l' (addP ql q) ∧ l'.length ≤ 2000
theorem f209 (n : Nat) : P209 (run FTf W (n + 1)) := by
  intro H n0 S e p st l m ql v q T hl hv hlen hb hq
  have hll := hl.len
  cases hv with
  | x s => exact ⟨_, (r209 _ _).trans (g209_n T (by omega) rfl), by rw [addP_x]; exact hl.app (.cons (.x s) .nil), by rw [List.length_append, List.length_singleton]; omega⟩
  | cr m' k r h1 h2 => exact ⟨_, (r209 _ _).trans (g209_n T (by omega) rfl), by rw [addP_c]; exact hl.app (.cons (.cr m' k r h1 h2) .nil), by rw [List.length_append, List.length_singleton]; omega⟩
  | cf m' k => exact ⟨_, (r209 _ _).trans (g209_n T (by omega) rfl), by rw [addP_c]; exact hl.app (.cons (.cf m' k) .nil), by rw [List.length_append, List.length_singleton]; omega⟩
  | t s' =>
    rcases List.eq_nil_or_concat ql with rfl | ⟨ql', q', rfl⟩
    · cases hl
      exact ⟨_, (r209 _ _).trans (g209_tn T (by simp) (.inl rfl)), by rw [addP_nil]; exact .cons (.t s') .nil, by simp⟩
    · rw [List.concat_eq_append] at *
      obtain ⟨ws, w, rfl, hws, hw⟩ := hl.snoc
      rw [List.length_append, List.length_singleton] at hll hlen
      rw [List.length_append, List.length_singleton] at hll
      have key : ∀ (k : List Nat) (vs : List V), w = .tup (.str k :: vs) → (k == tTx) = false → (∀ u, q' ≠ .t u) → ∃ l', run FTf W (n + 1) 209 [.ref S, .tup [.str tTx, .str s']] H = some (.none, H.set p l') ∧ VQs n0 H l' (addP (ql' ++ [q']) (.t s')) ∧ l'.length ≤ 2000 := fun k vs hw' hk hne => by
        refine ⟨_, (r209 _ _).trans (g209_tn T (by rw [List.length_append, List.length_singleton]; omega) (.inr ⟨ws, k, vs, by rw [hw'], hk⟩)), ?_, by simp only [List.length_append, List.length_singleton]; omega⟩
        rw [addP_nt _ _ _ hne]
        exact hl.app (.cons (.t s') .nil)
      cases hw with
      | t s =>
        refine ⟨_, (r209 _ _).trans (g209_tt T (by have h1 := hb (.t s) (by simp) s rfl; have h2 := hq s' rfl; omega)), ?_, by simp only [List.length_append, List.length_singleton]; omega⟩
        rw [addP_tt]
        exact hws.app (.cons (.t _) .nil)
      | x s => exact key _ _ rfl rfl (fun u h => by cases h)
      | cr m' k r h1 h2 => exact key _ _ rfl rfl (fun u h => by cases h)
      | cf m' k => exact key _ _ rfl rfl (fun u h => by cases h)
end
section
variable {O : Orc} {W : Nat} {H : Hp}
theorem get_old {H : Hp} {i : Nat} {l : List V} (h : H[i]? = some l) (x : Hp) : (H ++ x)[i]? = some l := by
  rw [List.getElem?_append_left (List.getElem?_eq_some_iff.mp h).1]; exact h
theorem comp_none {S e p : Nat} {m : List Nat} {ρ : Loc} {ts : E} (h0 : ρ[0]? = some (some (.ref S))) (hS : H[S]? = some [.ref e])
    (ht : ∀ H' : Hp, (∀ (i : Nat) (l : List V), H[i]? = some l → H'[i]? = some l) → ev dead ts [Option.none, some (.ref e)] H' = some (.bool false, H')) :
    ev O (.comp 2 [1] false (.loc 0) (.loc 1) ts) ρ H = some (.ref H.length, H ++ [[]]) := by
  have h1 : lv (H ++ [[]]) (.ref S) = some [.ref e] := get_old hS _
  have e2 : cloop (.ref S) (bnd 2 [1] false) (ev dead (.loc 1)) (ev dead ts) H.length 199 1 (H ++ [[]]) = some (H ++ [[]]) := by
    show (lv (H ++ [[]]) (.ref S)).bind _ = _
    rw [h1]
    rfl
  have e1 : cloop (.ref S) (bnd 2 [1] false) (ev dead (.loc 1)) (ev dead ts) H.length 200 0 (H ++ [[]]) = some (H ++ [[]]) := by
    show (lv (H ++ [[]]) (.ref S)).bind _ = _
    rw [h1]
    show (ev dead ts [Option.none, some (.ref e)] (H ++ [[]])).bind _ = _
    rw [ht (H ++ [[]]) (fun i l h => get_old h _)]
    exact e2
  rw [e_comp, e_loc, h0]
  show (cloop (.ref S) (bnd 2 [1] false) (ev dead (.loc 1)) (ev dead ts) H.length 200 0 (H ++ [[]])).bind _ = _
  rw [e1]
  rfl
theorem same_nil {H : Hp} {i j : Nat} (hi : H[i]? = some []) (hj : H[j]? = some []) : cmp2 .ne (.ref i) (.ref j) H = some false := by
  show (same H (.ref i) (.ref j)).map (!·) = _
  have e1 : rd 64 H (.ref i) = some (.list []) := by
    show ((H[i]?).bind fun vs => (rds 63 H vs).map PyData.list) = _
    rw [hi]; rfl
  have e2 : rd 64 H (.ref j) = some (.list []) := by
    show ((H[j]?).bind fun vs => (rds 63 H vs).map PyData.list) = _
    rw [hj]; rfl
  unfold same
  rw [e1, e2]
  decide
theorem g228 (hW : 2000 ≤ W) {S e p : Nat} (hS : H[S]? = some [.ref e]) (he : H[e]? = some [.str [], .ref p]) :
    (exs O W b228 [some (.ref S)] H).bind retOf = some (.none, H ++ [[]] ++ [[]]) := by
  obtain ⟨W', rfl⟩ : ∃ f, W = f + 1 := ⟨W - 1, by omega⟩
  have hc := comp_none (O := O) (p := p) (m := []) (ts := (.cmp .isin (.idx (.loc 1) (.lit (.int (0)))) (.tup (.cons (.lit (.str [85])) (.cons (.lit (.str [76])) (.cons (.lit (.str [70])) .nil)))))) (ρ := [some (.ref S)]) rfl hS (fun H' h => by
    have := idxR0 (h _ _ he) rfl
    have hin : isIn (.str []) (.tup [.str [85], .str [76], .str [70]]) = some false := by decide
    simp (disch := omega) only [↓e_cmp, ↓e_idx, ↓e_loc, List.getElem?_cons_succ, List.getElem?_cons_zero, obs, ↓e_lit, ↓e_tup, ↓es_cons, ↓es_nil, q_in, this, hin])
  have hsame : cmp2 .ne (.ref H.length) (.ref (H ++ [[]]).length) (H ++ [[]] ++ [[]]) = some false := same_nil (by simp) (by simp)
  have hl : wloop (tst O wc228_0) (exs O (W' + 1) wb228_1) (W' + 1) [some (.ref S)] H = some (.next, [some (.ref S)], H ++ [[]] ++ [[]]) := by
    refine wl_end ?_
    unfold wc228_0
    rw [t_cmp, hc]
    simp (disch := omega) only [↓e_lst, ↓es_nil, obs, hsame]
  unfold b228
  simp (disch := omega) only [↓s_cons, ↓x_whl, obs, sq_next, ↓s_nil, retOf_next, hl]
end
section
variable {O : Orc} {W : Nat} {H : Hp}
theorem gt40 : decide ((40 : Int) < 1) = false := rfl
theorem gt11 : decide ((1 : Int) < 1) = false := rfl
theorem gt21 : decide ((1 : Int) < 2) = true := rfl
theorem ge08 : decide ((8 : Int) ≤ 0) = false := rfl
noncomputable def opened (H junk : Hp) (S e m : Nat) : Hp := ((H ++ junk) ++ [[]] ++ [[V.str [m], V.ref (H ++ junk).length]]).set S [V.ref e, V.ref ((H ++ junk) ++ [[]]).length]
theorem app_open (junk : Hp) {S e m : Nat} (hS : H[S]? = some [.ref e]) :
    appV (.ref S) (.ref ((H ++ junk) ++ [[]]).length) ((H ++ junk) ++ [[]] ++ [[V.str [m], V.ref (H ++ junk).length]]) = some (.none, opened H junk S e m) :=
  appR (H := (H ++ junk) ++ [[]] ++ [[V.str [m], V.ref (H ++ junk).length]]) (r := S) (l := [.ref e]) _ (get_old (get_old (get_old hS _) _) _) (by simp)
theorem g233U {S e : Nat} (hS : H[S]? = some [.ref e]) (h228 : O 228 [.ref S] H = some (.none, H ++ [[]] ++ [[]])) :
    (exs O W b233 [some (.ref S), some (.str [85])] H).bind retOf = some (.none, opened H [[], []] S e 85) := by
  have e0 : H ++ [[]] ++ [[]] = H ++ [[], []] := by simp
  rw [e0] at h228
  have h1 : lenV (.ref S) (H ++ [[], []]) = some (.int 1, H ++ [[], []]) := lenR (get_old hS _) (by simp)
  have ha := app_open (m := 85) [[], []] hS
  unfold b233
  simp (disch := omega) only [↓s_cons, ↓x_ite, ↓t_cmp, ↓e_loc, List.getElem?_cons_succ, List.getElem?_cons_zero, obs, ↓e_lit, q_in, ↓x_ex, ↓e_call, ↓es_cons, ↓es_nil, sq_id, ↓s_nil, exV_none, if_true, sq_next, ↓t_or, ↓e_len, q_gt, ↓t_and, q_eqs, one_eq, Bool.false_eq_true, if_false, ite_tand, Bool.and_true, ↓e_app, ↓e_lst, retOf_next, isin_one, show ([85, 76, 70] : List Nat).contains 85 = true from rfl, h228, h1, gt40, show ((85 : Nat) == 81) = false from rfl, ha]
theorem g233Q {S e p : Nat} (hS : H[S]? = some [.ref e]) (he : H[e]? = some [.str [], .ref p]) :
    (exs O W b233 [some (.ref S), some (.str [81])] H).bind retOf = some (.none, opened H [[]] S e 81) := by
  have h1 : lenV (.ref S) H = some (.int 1, H) := lenR hS (by simp)
  have ha := app_open (m := 81) [[]] hS
  have hc : ev O (.comp 2 [1] false (.loc 0) (.loc 1) (.cmp .eq (.idx (.loc 1) (.lit (.int (0)))) (.lit (.str [81])))) [some (.ref S), some (.str [81])] H = some (.ref H.length, H ++ [[]]) := by
    have := comp_none (O := O) (p := p) (m := []) (ts := (.cmp .eq (.idx (.loc 1) (.lit (.int (0)))) (.lit (.str [81])))) (ρ := [some (.ref S), some (.str [81])]) rfl hS (fun H' h => by
      have := idxR0 (h _ _ he) rfl
      simp (disch := omega) only [↓e_cmp, ↓e_idx, ↓e_loc, List.getElem?_cons_succ, List.getElem?_cons_zero, obs, ↓e_lit, q_eqs, nil_eqc, this])
    exact this
  have h2 : lenV (.ref H.length) (H ++ [[]]) = some (.int 0, H ++ [[]]) := lenR (l := []) (by simp) (by simp)
  unfold b233
  simp (disch := omega) only [↓s_cons, ↓x_ite, ↓t_cmp, ↓e_loc, List.getElem?_cons_succ, List.getElem?_cons_zero, obs, ↓e_lit, q_in, ↓x_ex, ↓e_call, ↓es_cons, ↓es_nil, sq_id, ↓s_nil, Bool.false_eq_true, if_false, sq_next, ↓t_or, ↓e_len, q_gt, ↓t_and, q_eqs, one_eq, if_true, q_ge, ↓e_app, ↓e_lst, exV_none, retOf_next, isin_one, show ([85, 76, 70] : List Nat).contains 81 = false from rfl, h1, gt40, show ((81 : Nat) == 81) = true from rfl, ↓hc, h2, ge08, ha]
theorem g240b {S a m : Nat} {t r : List Nat} {H' : Hp} (ht : t.length ≤ 1000) (hd : t.drop a = 92 :: m :: r) (hm : (m == 69) = false) (x1 : ((t.drop a).take 4 == [92, 76, 92, 117]) = false) (x2 : ((t.drop a).take 4 == [92, 85, 92, 108]) = false)
    (h233 : O 233 [.ref S, .str [m]] H = some (.none, H')) : (exs O W b240 [some (.ref S), some (.str t), some (.int (a : Nat)), Option.none, Option.none] H).bind retOf = some (.int ((a + 2 : Nat) : Int), H') := by
  obtain ⟨hl, hr⟩ := drop_cons hd
  have hi := fun H => x_idx t (H := H) (a + 1) m r hr (by omega)
  unfold b240
  simp (disch := omega) only [↓s_cons, ↓x_asg, ↓e_idx, ↓e_loc, List.getElem?_cons_succ, List.getElem?_cons_zero, obs, ↓e_bin, ↓e_lit, p_add, nc1, List.set_cons_succ, List.set_cons_zero, sq_next, ↓e_slcs, nc4, x_slc, Nat.add_sub_cancel_left, ↓x_ite, ↓t_or, ↓t_cmp, q_eqs, ite_tand, Bool.and_true, ↓x_ex, ↓e_call, ↓es_cons, ↓es_nil, ↓s_nil, Bool.false_eq_true, if_false, one_eq, sq_id, exV_none, ↓x_ret, nc2, sq_ret, retOf_ret, hi, x1, x2, hm, h233]
theorem g240e {S a : Nat} {t r : List Nat} {H' : Hp} (ht : t.length ≤ 1000) (hd : t.drop a = 92 :: 69 :: r) (x1 : ((t.drop a).take 4 == [92, 76, 92, 117]) = false) (x2 : ((t.drop a).take 4 == [92, 85, 92, 108]) = false)
    (h223 : O 223 [.ref S] H = some (.none, H')) : (exs O W b240 [some (.ref S), some (.str t), some (.int (a : Nat)), Option.none, Option.none] H).bind retOf = some (.int ((a + 2 : Nat) : Int), H') := by
  obtain ⟨hl, hr⟩ := drop_cons hd
  have hi := fun H => x_idx t (H := H) (a + 1) 69 r hr (by omega)
  unfold b240
  simp (disch := omega) only [↓s_cons, ↓x_asg, ↓e_idx, ↓e_loc, List.getElem?_cons_succ, List.getElem?_cons_zero, obs, ↓e_bin, ↓e_lit, p_add, nc1, List.set_cons_succ, List.set_cons_zero, sq_next, ↓e_slcs, nc4, x_slc, Nat.add_sub_cancel_left, ↓x_ite, ↓t_or, ↓t_cmp, q_eqs, ite_tand, Bool.and_true, ↓x_ex, ↓e_call, ↓es_cons, ↓es_nil, ↓s_nil, Bool.false_eq_true, if_false, one_eq, sq_id, exV_none, if_true, ↓x_ret, nc2, sq_ret, retOf_ret, hi, x1, x2, show ((69 : Nat) == 69) = true from rfl, h223]
theorem g216 {S e0 e1 p1 m : Nat} {k : List Nat} {vs l : List V} {H' : Hp} (hS : H[S]? = some [.ref e0, .ref e1]) (he : H[e1]? = some [.str [m], .ref p1]) (hp : H[p1]? = some (.tup (.str k :: vs) :: l)) (h1 : S ≠ e1) (h2 : S ≠ p1)
    (hl : l.length ≤ 100) (hk : l = [] → (k == tTx) = false)
    (h209 : O 209 [.ref S, .tup [.str tCa, .str [m], .ref p1]] (H.set S [.ref e0]) = some (.none, H')) :
    (exs O W b216 [some (.ref S), Option.none, Option.none] H).bind retOf = some (.none, H') := by
  have hpop : popV (.ref S) H = some (.ref e1, H.set S [.ref e0]) := popR (l := [.ref e0]) hS (by simp)
  have he' : (H.set S [.ref e0])[e1]? = some [.str [m], .ref p1] := by rw [List.getElem?_set_ne h1]; exact he
  have hp' : (H.set S [.ref e0])[p1]? = some (.tup (.str k :: vs) :: l) := by rw [List.getElem?_set_ne h2]; exact hp
  have hasg : ∀ ρ, asgV [1, 2] ρ (.ref e1) (H.set S [.ref e0]) = some (.next, (ρ.set 1 (some (.str [m]))).set 2 (some (.ref p1)), H.set S [.ref e0]) := fun ρ => by
    show (((H.set S [.ref e0])[e1]?).bind fun vs => (setAll [1, 2] vs ρ).bind fun ρ => some (Out.next, ρ, H.set S [.ref e0])) = _
    rw [he']
    rfl
  have hlen : lenV (.ref p1) (H.set S [.ref e0]) = some (.int ((l.length + 1 : Nat) : Int), H.set S [.ref e0]) := lenR hp' (by simp; omega)
  have hi0 : idx2 (.ref p1) (.int 0) (H.set S [.ref e0]) = some (.tup (.str k :: vs)) := idxR0 hp' rfl
  have htx : ([116, 101, 120, 116] : List Nat) = tTx := rfl
  have htc : ([99, 97, 115, 101] : List Nat) = tCa := rfl
  unfold b216
  cases l with
  | nil =>
    have hlen : lenV (.ref p1) (H.set S [.ref e0]) = some (.int 1, H.set S [.ref e0]) := hlen
    simp (disch := omega) only [↓s_cons, ↓x_asgT, ↓e_pop, ↓e_loc, List.getElem?_cons_zero, obs, List.set_cons_succ, List.set_cons_zero, sq_next, ↓x_ite, ↓t_and, ↓t_cmp, ↓e_len, List.getElem?_cons_succ, ↓e_lit, q_eq, ↓e_idx, q_eqs, if_true, ↓x_ex, ↓e_call, ↓es_cons, ↓e_tup, ↓es_nil, sq_id, ↓s_nil, Bool.false_eq_true, q_gt, exV_none, if_false, retOf_next, hpop, hasg, hlen, hi0, idxT0, htx, htc, hk rfl, show ((1 : Int) == 1) = true from rfl, show decide ((0 : Int) < 1) = true from rfl, h209]
  | cons w l =>
    have hne : ((((w :: l).length + 1 : Nat) : Int) == 1) = false := by
      rw [beq_eq_false_iff_ne, List.length_cons]
      omega
    simp (disch := omega) only [↓s_cons, ↓x_asgT, ↓e_pop, ↓e_loc, List.getElem?_cons_zero, obs, List.set_cons_succ, List.set_cons_zero, sq_next, ↓x_ite, ↓t_and, ↓t_cmp, ↓e_len, List.getElem?_cons_succ, ↓e_lit, q_eq, ↓e_idx, Bool.false_eq_true, q_eqs, if_false, ↓x_ex, ↓e_call, ↓es_cons, ↓e_tup, ↓es_nil, sq_id, ↓s_nil, q_gt, exV_none, if_true, retOf_next, hpop, hasg, hlen, hi0, idxT0, htx, htc, pos1, hne, h209]
end
noncomputable def tk (s : List Nat) (p : Bool) : Nat := match s with
  | [] => 0
  | c :: _ => if c == 36 then sc s p else if c == 64 then ar s p else 0
section
variable {O : Orc} {W : Nat} {H : Hp}
theorem sub21 : (2 : Int) - 1 = 1 := rfl
theorem g223 (hW : 2000 ≤ W) {S e0 e1 p1 m : Nat} {H' : Hp} (hS : H[S]? = some [.ref e0, .ref e1]) (he : H[e1]? = some [.str [m], .ref p1]) (hm : ([117, 108] : List Nat).contains m = false)
    (h216 : O 216 [.ref S] H = some (.none, H')) : (exs O W b223 [some (.ref S)] H).bind retOf = some (.none, H') := by
  obtain ⟨W', rfl⟩ : ∃ f, W = f + 1 := ⟨W - 1, by omega⟩
  have h1 : lenV (.ref S) H = some (.int 2, H) := lenR hS (by simp)
  have h2 : idx2 (.ref S) (.int 1) H = some (.ref e1) := idxR1 hS rfl
  have h3 : idx2 (.ref e1) (.int 0) H = some (.str [m]) := idxR0 he rfl
  have hl : wloop (tst O wc223_0) (exs O (W' + 1) wb223_1) (W' + 1) [some (.ref S)] H = some (.next, [some (.ref S)], H) := by
    refine wl_end ?_
    unfold wc223_0
    simp (disch := omega) only [↓t_and, ↓t_cmp, ↓e_len, ↓e_loc, List.getElem?_cons_zero, obs, ↓e_lit, q_gt, ↓e_idx, ↓e_bin, q_in, p_sub, if_true, h1, h2, h3, gt21, sub21, isin_one, hm]
  unfold b223
  simp (disch := omega) only [↓s_cons, ↓x_whl, obs, sq_next, ↓x_ite, ↓t_cmp, ↓e_len, ↓e_loc, List.getElem?_cons_zero, ↓e_lit, q_gt, ↓x_ex, ↓e_call, ↓es_cons, ↓es_nil, sq_id, ↓s_nil, exV_none, if_true, retOf_next, hl, h1, gt21, h216]
section
variable {O : Orc} {ρ : Loc} {H : Hp} {W : Nat}
theorem n_e_lit (v : V) : ev O (.lit v) ρ H = some (v, H) := (rfl)
theorem n_e_loc (i : Nat) : ev O (.loc i) ρ H = (ρ[i]?).bind fun o => o.bind fun v => some (v, H) := (rfl)
theorem n_e_bin (o : Op2) (a b : E) : ev O (.bin o a b) ρ H = (ev O a ρ H).bind fun p => (ev O b ρ p.2).bind fun q => bin2 o p.1 q.1 q.2 := (rfl)
theorem n_e_idx (a b : E) : ev O (.idx a b) ρ H = (ev O a ρ H).bind fun p => (ev O b ρ p.2).bind fun q => (idx2 p.1 q.1 q.2).bind fun v => some (v, q.2) := (rfl)
theorem n_e_slcs (a lo hi : E) : ev O (.slcs a lo hi) ρ H = (ev O a ρ H).bind fun p => (ev O lo ρ p.2).bind fun q => (ev O hi ρ q.2).bind fun r => slcV p.1 q.1 r.1 r.2 := (rfl)
theorem n_e_call (f : Nat) (es : Es) : ev O (.call f es) ρ H = (evs O es ρ H).bind fun p => O f p.1 p.2 := (rfl)
theorem n_e_tup (es : Es) : ev O (.tup es) ρ H = (evs O es ρ H).bind fun p => some (.tup p.1, p.2) := (rfl)
theorem n_es_nil : evs O .nil ρ H = some ([], H) := (rfl)
theorem n_es_cons (e : E) (es : Es) : evs O (.cons e es) ρ H = (ev O e ρ H).bind fun p => (evs O es ρ p.2).bind fun q => some (p.1 :: q.1, q.2) := (rfl)
theorem n_t_and (a b : E) : tst O (.and a b) ρ H = (tst O a ρ H).bind fun p => if p.1 = true then tst O b ρ p.2 else some (false, p.2) := (rfl)
theorem n_s_nil : exs O W .nil ρ H = some (.next, ρ, H) := (rfl)
theorem n_s_cons (s : S) (r : Ss) : exs O W (.cons s r) ρ H = (ex O W s ρ H).bind (seqR (exs O W r)) := (rfl)
theorem n_sq_next (k : Loc → Hp → Rs) : seqR k (.next, ρ, H) = k ρ H := (rfl)
theorem n_sq_ret (k : Loc → Hp → Rs) (v : V) : seqR k (.ret v, ρ, H) = some (.ret v, ρ, H) := (rfl)
theorem n_x_asg (i : Nat) (e : E) : ex O W (.asg i e) ρ H = (ev O e ρ H).bind fun p => some (.next, ρ.set i (some p.1), p.2) := (rfl)
theorem n_x_asgT (is : List Nat) (e : E) : ex O W (.asgT is e) ρ H = (ev O e ρ H).bind fun p => asgV is ρ p.1 p.2 := (rfl)
theorem n_x_ite (c : E) (a b : Ss) : ex O W (.ite c a b) ρ H = (tst O c ρ H).bind fun p => if p.1 = true then exs O W a ρ p.2 else exs O W b ρ p.2 := (rfl)
theorem n_x_ret (e : E) : ex O W (.ret e) ρ H = (ev O e ρ H).bind fun p => some (.ret p.1, ρ, p.2) := (rfl)
theorem n_obs {α β : Type} (a : α) (f : α → Option β) : (some a).bind f = f a := (rfl)
end
theorem g90 {a : Nat} {t r : List Nat} (ht : t.length ≤ 1000) (hd : t.drop a = 92 :: 36 :: r) : (exs O W b90 [some (.str t), some (.int (a : Nat)), Option.none, Option.none, Option.none] H).bind retOf = some (.tup [.str [36], .int ((a + 2 : Nat) : Int)], H) := by
  obtain ⟨hl, hr⟩ := drop_cons hd
  have hi1 : isIn (.str [36]) (.dct [([110], [10]), ([116], [9]), ([114], [13]), ([102], [12]), ([98], [8]), ([97], [7]), ([101], [27])]) = some false := rfl
  have hi2 : ([48, 49, 50, 51, 52, 53, 54, 55] : List Nat).contains 36 = false := rfl
  have ht1 : (36 :: r).take 1 = [36] := by simp
  unfold b90
  simp (disch := omega) only [↓n_s_cons, ↓n_x_asg, ↓n_e_slcs, ↓n_e_loc, List.getElem?_cons_zero, n_obs, ↓n_e_bin, List.getElem?_cons_succ, ↓n_e_lit, p_add, nc1, nc2, x_slc, Nat.add_sub_add_left, Nat.reduceSub, List.set_cons_succ, List.set_cons_zero, n_sq_next, ↓n_x_ite, ↓t_cmp, q_eqs, cons_eq, ↓n_x_ret, ↓n_e_tup, ↓n_es_cons, ↓n_es_nil, n_sq_ret, ↓n_s_nil, Bool.false_eq_true, if_false, q_in, ↓n_e_idx, sq_id, ↓n_x_asgT, ↓n_e_call, ↓n_t_and, one_eq, nc3, ite_tand, Bool.false_and, nc5, nc4, q_nes, retOf_ret, hr, ht1, hi1, isin_one, hi2, show ((36 : Nat) == 120) = false from rfl, show ((36 : Nat) == 111) = false from rfl, show ((36 : Nat) == 78) = false from rfl, show ((36 : Nat) == 99) = false from rfl]
theorem gt_add (a k : Nat) : decide (a < a + k) = decide (0 < k) := lt_add a k
theorem g247x (h195 : P195 O) (h202 : P202 O) {S a c : Nat} {p : Bool} {t r : List Nat} {H' : Hp} (ht : t.length ≤ 1000) (hd : t.drop a = c :: r) (hc : (c == 92) = false) (hk : decide (0 < tk (c :: r) p) = true)
    (hle : a + tk (c :: r) p ≤ 3000) (h209 : O 209 [.ref S, .tup [.str tEx, .str ((t.drop a).take (tk (c :: r) p))]] H = some (.none, H')) :
    (exs O W b247 [some (.ref S), some (.str t), some (.int (a : Nat)), some (.bool p), Option.none, Option.none, Option.none] H).bind retOf = some (.int ((a + tk (c :: r) p : Nat) : Int), H') := by
  obtain ⟨hl, hr⟩ := drop_cons hd
  have hi := fun H => x_idx t (H := H) a c r hd (by omega)
  have h95 := fun H => h195 t a p H ht hl
  have h02 := fun H => h202 t a p H ht hl
  rw [hd] at h95 h02
  have hte : ([101, 120, 112, 114] : List Nat) = tEx := rfl
  unfold b247
  unfold tk at hk h209 hle ⊢
  dsimp only at hk h209 hle ⊢
  cases h36 : (c == 36) with
  | true =>
    simp only [h36, if_true] at hk h209 hle ⊢
    simp (disch := omega) only [↓s_cons, ↓x_asg, ↓e_idx, ↓e_loc, List.getElem?_cons_succ, List.getElem?_cons_zero, obs, List.set_cons_succ, List.set_cons_zero, sq_next, ↓x_ite, ↓t_cmp, ↓e_lit, q_eqs, one_eq, ↓t_loc, tr_bool, ↓x_ex, ↓e_call, ↓es_cons, ↓e_tup, ↓e_slcs, ↓e_bin, p_add, nc2, x_slc, Nat.add_sub_cancel_left, ↓es_nil, ↓s_nil, Bool.false_eq_true, if_false, sq_id, if_true, q_gt, nlt, exV_none, ↓x_ret, sq_ret, retOf_ret, hi, hc, h36, h95, lt_add, hk, hte, h209]
  | false =>
    simp only [h36, if_false, Bool.false_eq_true] at hk h209 hle ⊢
    cases h64 : (c == 64) with
    | true =>
      simp only [h64, if_true] at hk h209 hle ⊢
      simp (disch := omega) only [↓s_cons, ↓x_asg, ↓e_idx, ↓e_loc, List.getElem?_cons_succ, List.getElem?_cons_zero, obs, List.set_cons_succ, List.set_cons_zero, sq_next, ↓x_ite, ↓t_cmp, ↓e_lit, q_eqs, one_eq, ↓t_loc, tr_bool, ↓x_ex, ↓e_call, ↓es_cons, ↓e_tup, ↓e_slcs, ↓e_bin, p_add, nc2, x_slc, Nat.add_sub_cancel_left, ↓es_nil, ↓s_nil, Bool.false_eq_true, if_false, sq_id, if_true, q_gt, nlt, exV_none, ↓x_ret, sq_ret, retOf_ret, hi, hc, h36, h64, h02, lt_add, hk, hte, h209]
    | false =>
      simp only [h64, if_false, Bool.false_eq_true] at hk
      cases hk
theorem g247t (h195 : P195 O) (h202 : P202 O) {S a c : Nat} {p : Bool} {t r : List Nat} {H' : Hp} (ht : t.length ≤ 1000) (hd : t.drop a = c :: r) (hc : (c == 92) = false) (hk : decide (0 < tk (c :: r) p) = false)
    (h209 : O 209 [.ref S, .tup [.str tTx, .str [c]]] H = some (.none, H')) :
    (exs O W b247 [some (.ref S), some (.str t), some (.int (a : Nat)), some (.bool p), Option.none, Option.none, Option.none] H).bind retOf = some (.int ((a + 1 : Nat) : Int), H') := by
  obtain ⟨hl, hr⟩ := drop_cons hd
  have hi := fun H => x_idx t (H := H) a c r hd (by omega)
  have h95 := fun H => h195 t a p H ht hl
  have h02 := fun H => h202 t a p H ht hl
  rw [hd] at h95 h02
  have htt : ([116, 101, 120, 116] : List Nat) = tTx := rfl
  have haa : decide (a < a) = false := decide_eq_false (by omega)
  unfold b247
  unfold tk at hk
  dsimp only at hk
  cases h36 : (c == 36) with
  | true =>
    simp only [h36, if_true] at hk
    simp (disch := omega) only [↓s_cons, ↓x_asg, ↓e_idx, ↓e_loc, List.getElem?_cons_succ, List.getElem?_cons_zero, obs, List.set_cons_succ, List.set_cons_zero, sq_next, ↓x_ite, ↓t_cmp, ↓e_lit, q_eqs, one_eq, ↓t_loc, tr_bool, ↓x_ex, ↓e_call, ↓es_cons, ↓e_tup, ↓e_slcs, ↓e_bin, p_add, nc2, x_slc, Nat.add_sub_cancel_left, ↓es_nil, ↓s_nil, Bool.false_eq_true, if_false, sq_id, if_true, q_gt, nlt, exV_none, ↓x_ret, nc1, sq_ret, retOf_ret, hi, hc, h36, h95, lt_add, hk, htt, h209]
  | false =>
    simp only [h36, if_false, Bool.false_eq_true] at hk
    cases h64 : (c == 64) with
    | true =>
      simp only [h64, if_true] at hk
      simp (disch := omega) only [↓s_cons, ↓x_asg, ↓e_idx, ↓e_loc, List.getElem?_cons_succ, List.getElem?_cons_zero, obs, List.set_cons_succ, List.set_cons_zero, sq_next, ↓x_ite, ↓t_cmp, ↓e_lit, q_eqs, one_eq, ↓t_loc, tr_bool, ↓x_ex, ↓e_call, ↓es_cons, ↓e_tup, ↓e_slcs, ↓e_bin, p_add, nc2, x_slc, Nat.add_sub_cancel_left, ↓es_nil, ↓s_nil, Bool.false_eq_true, if_false, sq_id, if_true, q_gt, nlt, exV_none, ↓x_ret, nc1, sq_ret, retOf_ret, hi, hc, h36, h64, h02, lt_add, hk, htt, h209]
    | false =>
      simp (disch := omega) only [↓s_cons, ↓x_asg, ↓e_idx, ↓e_loc, List.getElem?_cons_succ, List.getElem?_cons_zero, obs, List.set_cons_succ, List.set_cons_zero, sq_next, ↓x_ite, ↓t_cmp, ↓e_lit, q_eqs, one_eq, ↓t_loc, tr_bool, ↓x_ex, ↓e_call, ↓es_cons, ↓e_tup, ↓e_slcs, ↓e_bin, p_add, nc2, x_slc, Nat.add_sub_cancel_left, ↓es_nil, ↓s_nil, Bool.false_eq_true, if_false, sq_id, q_gt, nlt, exV_none, ↓x_ret, nc1, sq_ret, retOf_ret, hi, hc, h36, h64, haa, htt, h209]
theorem g247b {S a : Nat} {t r : List Nat} {H' : Hp} (ht : t.length ≤ 1000) (hd : t.drop a = 92 :: 36 :: r) (h90 : O 90 [.str t, .int (a : Nat)] H = some (.tup [.str [36], .int ((a + 2 : Nat) : Int)], H))
    (h209 : O 209 [.ref S, .tup [.str tTx, .str [36]]] H = some (.none, H')) :
    (exs O W b247 [some (.ref S), some (.str t), some (.int (a : Nat)), some (.bool false), Option.none, Option.none, Option.none] H).bind retOf = some (.int ((a + 2 : Nat) : Int), H') := by
  obtain ⟨hl, hr⟩ := drop_cons hd
  have hi := fun H => x_idx t (H := H) a 92 _ hd (by omega)
  have htt : ([116, 101, 120, 116] : List Nat) = tTx := rfl
  unfold b247
  simp (disch := omega) only [↓s_cons, ↓x_asg, ↓e_idx, ↓e_loc, List.getElem?_cons_succ, List.getElem?_cons_zero, obs, List.set_cons_succ, List.set_cons_zero, sq_next, ↓x_ite, ↓t_cmp, ↓e_lit, q_eqs, one_eq, ↓t_loc, tr_bool, ↓x_ex, ↓e_call, ↓es_cons, ↓e_tup, ↓e_slcs, ↓e_bin, p_add, nc2, x_slc, Nat.add_sub_cancel_left, ↓es_nil, ↓s_nil, Bool.false_eq_true, if_false, ↓x_asgT, asgV_tup, setAll_cons, setAll_nil, exV_none, ↓x_ret, sq_ret, if_true, retOf_ret, hi, show ((92 : Nat) == 92) = true from rfl, h90, htt, h209]
end
noncomputable def sK (s : List Nat) (p : Bool) : Nat := if decide (0 < tk s p) then tk s p else 1
noncomputable def sQ (s : List Nat) (p : Bool) : PP := if decide (0 < tk s p) then .x (s.take (tk s p)) else .t (s.take 1)
structure Sz (ql : List PP) (a : Nat) : Prop where
  n : ql.length ≤ a
  t : ∀ s ∈ ql, ∀ u, s = .t u → u.length ≤ a
structure Inv (n : Nat) (H : Hp) (ql : List PP) (a : Nat) : Prop where
  ex : ∃ vl, H[n]? = some vl ∧ VQs n H vl ql
  h1 : H[n + 1]? = some [.str [], .ref n]
  h2 : H[n + 2]? = some [.ref (n + 1)]
  sz : Sz ql a
theorem Sz.mono {ql : List PP} {a b : Nat} (z : Sz ql a) (h : a ≤ b) : Sz ql b := ⟨Nat.le_trans z.n h, fun s hs u e => Nat.le_trans (z.t s hs u e) h⟩
theorem addP_mem {l : List PP} {q s : PP} (h : s ∈ addP l q) : s ∈ l ∨ s = q ∨ ∃ u u', .t u ∈ l ∧ q = .t u' ∧ s = .t (u ++ u') := by
  unfold addP at h
  split at h
  · rename_i u u' e
    rw [List.mem_append, List.mem_singleton] at h
    rcases h with h | h
    · exact .inl ((List.dropLast_sublist l).subset h)
    · exact .inr (.inr ⟨u, u', List.mem_of_getLast? e, rfl, h⟩)
  · rw [List.mem_append, List.mem_singleton] at h
    rcases h with h | h
    · exact .inl h
    · exact .inr (.inl h)
theorem addP_len (l : List PP) (q : PP) : (addP l q).length ≤ l.length + 1 := by
  unfold addP
  split
  · simp [List.length_dropLast]
  · simp
theorem Sz.add {ql : List PP} {a k : Nat} (z : Sz ql a) (hk : 1 ≤ k) {q : PP} (hq : ∀ u, q = .t u → u.length ≤ k) : Sz (addP ql q) (a + k) := by
  refine ⟨Nat.le_trans (addP_len _ _) (by have := z.n; omega), fun s hs u e => ?_⟩
  rcases addP_mem hs with h | rfl | ⟨w, w', h1, h2, h3⟩
  · exact Nat.le_trans (z.t s h u e) (Nat.le_add_right _ _)
  · exact Nat.le_trans (hq u e) (Nat.le_add_left _ _)
  · rw [h3] at e
    cases e
    rw [List.length_append]
    exact Nat.add_le_add (z.t _ h1 w rfl) (hq w' h2)
theorem sc_le (s : List Nat) (p : Bool) : sc s p ≤ s.length := by
  cases s with
  | nil => simp [sc]
  | cons c r =>
    unfold sc
    dsimp only
    rw [List.drop_succ_cons, List.drop_zero]
    cases r with
    | nil => simp
    | cons g r =>
      dsimp only
      rw [List.length_cons, List.length_cons]
      have h1 := bs_le r
      have h2 := bs_le (g :: r)
      have h3 := dl_le r
      have h4 := asl_le 1001 r p
      rw [List.length_cons] at h2
      split
      · omega
      · split
        · split <;> omega
        · split
          · split
            · have := asl_le 1001 (r.drop (dl r)) p
              rw [List.length_drop] at this
              omega
            · have := asl_le 1001 (r.drop 0) p
              rw [List.length_drop] at this
              omega
          · split
            · split
              · omega
              · have := asl_le 1001 ((g :: r).drop (bs (g :: r))) p
                rw [List.length_drop, List.length_cons] at this
                omega
            · split <;> omega
theorem ar_le (s : List Nat) (p : Bool) (hs : s ≠ []) : ar s p ≤ s.length := by
  cases s with
  | nil => exact absurd rfl hs
  | cons c r =>
    unfold ar
    dsimp only
    rw [List.drop_succ_cons, List.drop_zero, List.length_cons]
    have h1 := bs_le r
    have h2 := os_le (r.drop (bs r)) p
    rw [List.length_drop] at h2
    split
    · omega
    · split <;> omega
theorem tk_le (s : List Nat) (p : Bool) : tk s p ≤ s.length := by
  unfold tk
  split
  · omega
  · split
    · exact sc_le _ _
    · split
      · exact ar_le _ _ (by simp)
      · omega
theorem Inv.top {n : Nat} {H : Hp} {ql : List PP} {a : Nat} (I : Inv n H ql a) (ha : a ≤ 1000) : ∃ vl, H[n]? = some vl ∧ VQs n H vl ql ∧ Top1 H (n + 2) (n + 1) n [] [] vl := by
  obtain ⟨vl, h, q⟩ := I.ex
  exact ⟨vl, h, q, ⟨I.h2, I.h1, h, .inl rfl, by simp, by rw [q.len]; have := I.sz.n; omega, by omega, by omega⟩⟩
theorem Inv.set {n : Nat} {H : Hp} {ql : List PP} {a k : Nat} (I : Inv n H ql a) {l' : List V} {q : PP} (h : VQs n H l' (addP ql q)) (hk : 1 ≤ k) (hq : ∀ u, q = .t u → u.length ≤ k) : Inv n (H.set n l') (addP ql q) (a + k) ∧ Ext n H (H.set n l') := by
  obtain ⟨vl, h0, _⟩ := I.ex
  refine ⟨⟨⟨l', ?_, h.mono (Ext.set n H l')⟩, ?_, ?_, I.sz.add hk hq⟩, Ext.set n H l'⟩
  · rw [List.getElem?_set_self (List.getElem?_eq_some_iff.mp h0).1]
  · rw [List.getElem?_set_ne (by omega)]; exact I.h1
  · rw [List.getElem?_set_ne (by omega)]; exact I.h2

section
variable {W : Nat} {H : Hp}
abbrev P247 (O : Orc) : Prop := ∀ (n : Nat) (H : Hp) (ql : List PP) (a c : Nat) (r t : List Nat) (p : Bool), Inv n H ql a → t.length ≤ 1000 → t.drop a = c :: r → (c == 92) = false →
  ∃ H', O 247 [.ref (n + 2), .str t, .int (a : Nat), .bool p] H = some (.int ((a + sK (c :: r) p : Nat) : Int), H') ∧ Inv n H' (addP ql (sQ (c :: r) p)) (a + sK (c :: r) p) ∧ Ext n H H'
theorem f247 (hW : 2000 ≤ W) (N : Nat) : P247 (run FTf W (N + 6)) := by
  intro n H ql a c r t p I ht hd hc
  obtain ⟨hl, hr⟩ := drop_cons hd
  obtain ⟨vl, h1, h2, T⟩ := I.top (by omega)
  have hz := I.sz
  have hlen : (c :: r).length ≤ 1000 := by rw [← hd, List.length_drop]; omega
  have htk := tk_le (c :: r) p
  have hn := hz.n
  unfold sK sQ
  cases hk : decide (0 < tk (c :: r) p) with
  | true =>
    simp only [if_true]
    obtain ⟨l', e1, e2, e3⟩ := f209 (W := W) (N + 4) H n (n + 2) (n + 1) n [] vl [] ql (.tup [.str tEx, .str ((t.drop a).take (tk (c :: r) p))]) (.x ((t.drop a).take (tk (c :: r) p))) T h2 (.x _) (by omega) (fun s hs u e => by have := hz.t s hs u e; omega) (fun u e => by cases e)
    rw [hd] at e1 e2
    have := I.set (k := tk (c :: r) p) e2 (of_decide_eq_true hk) (fun u e => by cases e)
    exact ⟨_, (r247 _ _ _ _).trans (g247x (f195 hW N) (f202 hW N) ht hd hc hk (by omega) (by rw [hd]; exact e1)), this.1, this.2⟩
  | false =>
    simp only [Bool.false_eq_true, if_false, List.take_succ_cons, List.take_zero]
    obtain ⟨l', e1, e2, e3⟩ := f209 (W := W) (N + 4) H n (n + 2) (n + 1) n [] vl [] ql (.tup [.str tTx, .str [c]]) (.t [c]) T h2 (.t _) (by omega) (fun s hs u e => by have := hz.t s hs u e; omega) (fun u e => by cases e; simp)
    have := I.set (k := 1) e2 (by omega) (fun u e => by cases e; simp)
    exact ⟨_, (r247 _ _ _ _).trans (g247t (f195 hW N) (f202 hW N) ht hd hc hk e1), this.1, this.2⟩
abbrev P247b (O : Orc) : Prop := ∀ (n : Nat) (H : Hp) (ql : List PP) (a : Nat) (r t : List Nat), Inv n H ql a → t.length ≤ 1000 → t.drop a = 92 :: 36 :: r →
  ∃ H', O 247 [.ref (n + 2), .str t, .int (a : Nat), .bool false] H = some (.int ((a + 2 : Nat) : Int), H') ∧ Inv n H' (addP ql (.t [36])) (a + 2) ∧ Ext n H H'
theorem f247b (N : Nat) : P247b (run FTf W (N + 2)) := by
  intro n H ql a r t I ht hd
  obtain ⟨hl, hr⟩ := drop_cons hd
  obtain ⟨vl, h1, h2, T⟩ := I.top (by omega)
  have hz := I.sz
  have hn := hz.n
  obtain ⟨l', e1, e2, e3⟩ := f209 (W := W) N H n (n + 2) (n + 1) n [] vl [] ql (.tup [.str tTx, .str [36]]) (.t [36]) T h2 (.t _) (by omega) (fun s hs u e => by have := hz.t s hs u e; omega) (fun u e => by cases e; simp)
  have := I.set (k := 2) e2 (by omega) (fun u e => by cases e; simp)
  exact ⟨_, (r247 _ _ _ _).trans (g247b ht hd ((r90 _ _).trans (g90 ht hd)) e1), this.1, this.2⟩
end
noncomputable def toPP (q : Bool × List Nat) : PP := if q.1 then .t q.2 else .x q.2
theorem VQs_pr {n : Nat} {H : Hp} : ∀ {k : List (Bool × List Nat)} {l : List V}, VQs n H l (k.map toPP) → l = k.map vPr
  | [], _, .nil => rfl
  | (true, s) :: k, _, .cons h r => by
    cases h
    rw [VQs_pr r]; rfl
  | (false, s) :: k, _, .cons h r => by
    cases h
    rw [VQs_pr r]; rfl
theorem pr_VQs {n : Nat} {H : Hp} : ∀ (k : List (Bool × List Nat)), VQs n H (k.map vPr) (k.map toPP)
  | [] => .nil
  | (true, s) :: k => .cons (.t s) (pr_VQs k)
  | (false, s) :: k => .cons (.x s) (pr_VQs k)
structure Two (n : Nat) (H0 H : Hp) (m : Nat) (k : List (Bool × List Nat)) (e1 p1 : Nat) : Prop where
  hS : H[n + 2]? = some [.ref (n + 1), .ref e1]
  he : H[e1]? = some [.str [m], .ref p1]
  hp : H[p1]? = some (k.map vPr)
  l1 : H0.length ≤ e1
  l2 : H0.length ≤ p1
  ne : e1 ≠ p1
  le : H0.length ≤ H.length
  old : ∀ i, i < H0.length → i ≠ n + 2 → H[i]? = H0[i]?
theorem opened_two {n : Nat} {H0 junk : Hp} {ql : List PP} {a m : Nat} (I : Inv n H0 ql a) : Two n H0 (opened H0 junk (n + 2) (n + 1) m) m [] ((H0 ++ junk) ++ [[]]).length (H0 ++ junk).length := by
  have hlt := (List.getElem?_eq_some_iff.mp I.h2).1
  unfold opened
  have hn : n + 2 < (H0 ++ junk).length := by rw [List.length_append]; omega
  refine ⟨?_, ?_, ?_, ?_, ?_, ?_, ?_, fun i hi hne => ?_⟩
  · rw [List.getElem?_set_self (by simp only [List.length_append, List.length_singleton] at hn ⊢; omega)]
  · rw [List.getElem?_set_ne (by simp only [List.length_append, List.length_singleton] at hn ⊢; omega), List.getElem?_append_right (Nat.le_refl _), Nat.sub_self]
    rfl
  · rw [List.getElem?_set_ne (by omega), List.append_assoc, List.getElem?_append_right (Nat.le_refl _), Nat.sub_self]
    rfl
  · simp only [List.length_append, List.length_singleton]; omega
  · simp only [List.length_append]; omega
  · simp only [List.length_append, List.length_singleton]; omega
  · simp only [List.length_set, List.length_append, List.length_singleton]; omega
  · rw [List.getElem?_set_ne (Ne.symm hne), List.append_assoc, List.append_assoc, List.getElem?_append_left hi]

section
variable {W : Nat} {H : Hp}
theorem two_lt {n : Nat} {H0 H : Hp} {ql : List PP} {a m : Nat} {k : List (Bool × List Nat)} {e1 p1 : Nat} (I : Inv n H0 ql a) (T : Two n H0 H m k e1 p1) : n + 2 < H0.length := (List.getElem?_eq_some_iff.mp I.h2).1
abbrev P247c (O : Orc) : Prop := ∀ (n : Nat) (H0 H : Hp) (ql : List PP) (a0 a c : Nat) (r t : List Nat) (p : Bool) (m : Nat) (k k' : List (Bool × List Nat)) (e1 p1 : Nat), Inv n H0 ql a0 → Two n H0 H m k e1 p1 → (m = 85 ∨ m = 81) → t.length ≤ 1000 → t.drop a = c :: r → (c == 92) = false →
  k.length ≤ 100 → Sz (k.map toPP) 1000 → k'.map toPP = addP (k.map toPP) (sQ (c :: r) p) →
  ∃ H', O 247 [.ref (n + 2), .str t, .int (a : Nat), .bool p] H = some (.int ((a + sK (c :: r) p : Nat) : Int), H') ∧ Two n H0 H' m k' e1 p1
theorem f247c (hW : 2000 ≤ W) (N : Nat) : P247c (run FTf W (N + 6)) := by
  intro n H0 H ql a0 a c r t p m k k' e1 p1 I T hm ht hd hc hk hz hk'
  have hlt := two_lt I T
  obtain ⟨hl, hr⟩ := drop_cons hd
  have hlen : (c :: r).length ≤ 1000 := by rw [← hd, List.length_drop]; omega
  have htk := tk_le (c :: r) p
  have t1 := T.l1
  have t2 := T.l2
  have t3 := T.ne
  have T1 : Top1 H (n + 2) e1 p1 [.ref (n + 1)] [m] (k.map vPr) := ⟨T.hS, T.he, T.hp, by rcases hm with rfl | rfl <;> simp, by simp, by rw [List.length_map]; omega, by omega, by omega⟩
  have fin : ∀ l', VQs n H l' (addP (k.map toPP) (sQ (c :: r) p)) → Two n H0 (H.set p1 l') m k' e1 p1 := fun l' hl' => by
    rw [← hk'] at hl'
    have := VQs_pr hl'
    subst this
    refine ⟨?_, ?_, ?_, t1, t2, t3, by rw [List.length_set]; exact T.le, fun i hi hne => ?_⟩
    · rw [List.getElem?_set_ne (by omega)]; exact T.hS
    · rw [List.getElem?_set_ne (by omega)]; exact T.he
    · rw [List.getElem?_set_self (List.getElem?_eq_some_iff.mp T.hp).1]
    · rw [List.getElem?_set_ne (by omega)]; exact T.old i hi hne
  unfold sK
  unfold sQ at fin
  cases hkk : decide (0 < tk (c :: r) p) with
  | true =>
    rw [hkk] at fin
    simp only [if_true] at fin ⊢
    obtain ⟨l', b1, b2, b3⟩ := f209 (W := W) (N + 4) H n (n + 2) e1 p1 [.ref (n + 1)] (k.map vPr) [m] (k.map toPP) (.tup [.str tEx, .str ((t.drop a).take (tk (c :: r) p))]) (.x ((t.drop a).take (tk (c :: r) p))) T1 (pr_VQs k) (.x _) (by rw [List.length_map]; omega) (fun s hs u e => by have := hz.t s hs u e; omega) (fun u e => by cases e)
    rw [hd] at b1 b2
    exact ⟨_, (r247 _ _ _ _).trans (g247x (f195 hW N) (f202 hW N) ht hd hc hkk (by omega) (by rw [hd]; exact b1)), fin l' b2⟩
  | false =>
    rw [hkk] at fin
    simp only [Bool.false_eq_true, if_false, List.take_succ_cons, List.take_zero] at fin ⊢
    obtain ⟨l', b1, b2, b3⟩ := f209 (W := W) (N + 4) H n (n + 2) e1 p1 [.ref (n + 1)] (k.map vPr) [m] (k.map toPP) (.tup [.str tTx, .str [c]]) (.t [c]) T1 (pr_VQs k) (.t _) (by rw [List.length_map]; omega) (fun s hs u e => by have := hz.t s hs u e; omega) (fun u e => by cases e; simp)
    exact ⟨_, (r247 _ _ _ _).trans (g247t (f195 hW N) (f202 hW N) ht hd hc hkk b1), fin l' b2⟩

abbrev P240b (O : Orc) : Prop := ∀ (n : Nat) (H0 : Hp) (ql : List PP) (a0 a m : Nat) (r t : List Nat), Inv n H0 ql a0 → (m = 85 ∨ m = 81) → t.length ≤ 1000 → t.drop a = 92 :: m :: r → ((t.drop a).take 4 == [92, 76, 92, 117]) = false → ((t.drop a).take 4 == [92, 85, 92, 108]) = false →
  ∃ H' e1 p1, O 240 [.ref (n + 2), .str t, .int (a : Nat)] H0 = some (.int ((a + 2 : Nat) : Int), H') ∧ Two n H0 H' m [] e1 p1
theorem f240b (hW : 2000 ≤ W) (N : Nat) : P240b (run FTf W (N + 3)) := by
  intro n H0 ql a0 a m r t I hm ht hd x1 x2
  rcases hm with rfl | rfl
  · exact ⟨_, _, _, (r240 _ _ _).trans (g240b ht hd rfl x1 x2 ((r233 _ _).trans (g233U I.h2 ((r228 _).trans (g228 hW I.h2 I.h1))))), opened_two I⟩
  · exact ⟨_, _, _, (r240 _ _ _).trans (g240b ht hd rfl x1 x2 ((r233 _ _).trans (g233Q I.h2 I.h1))), opened_two I⟩
abbrev P240e (O : Orc) : Prop := ∀ (n : Nat) (H0 H : Hp) (ql : List PP) (a0 a m : Nat) (r t : List Nat) (k : List (Bool × List Nat)) (q : Bool × List Nat) (e1 p1 : Nat), Inv n H0 ql a0 → a0 ≤ 1000 → Two n H0 H m (q :: k) e1 p1 → (m = 85 ∨ m = 81) → k.length ≤ 100 → (k = [] → q.1 = false) → t.length ≤ 1000 →
  t.drop a = 92 :: 69 :: r → ((t.drop a).take 4 == [92, 76, 92, 117]) = false → ((t.drop a).take 4 == [92, 85, 92, 108]) = false →
  ∃ H', O 240 [.ref (n + 2), .str t, .int (a : Nat)] H = some (.int ((a + 2 : Nat) : Int), H') ∧ Inv n H' (addP ql (.c [m] (q :: k))) (a0 + 1) ∧ Ext n H0 H'
theorem f240e (hW : 2000 ≤ W) (N : Nat) : P240e (run FTf W (N + 4)) := by
  intro n H0 H ql a0 a m r t k q e1 p1 I ha0 T hm hk hq ht hd x1 x2
  have hlt := two_lt I T
  have t1 := T.l1
  have t2 := T.l2
  -- the store with the casing taken off the stack
  have hold : ∀ i, i < H0.length → (H.set (n + 2) [.ref (n + 1)])[i]? = H0[i]? := fun i hi => by
    by_cases hne : i = n + 2
    · subst hne
      rw [List.getElem?_set_self (by have := T.le; omega), I.h2]
    · rw [List.getElem?_set_ne (Ne.symm hne)]; exact T.old i hi hne
  have x0 : Ext n H0 (H.set (n + 2) [.ref (n + 1)]) := ⟨by rw [List.length_set]; exact T.le, fun i hi _ => hold i hi⟩
  have I1 : Inv n (H.set (n + 2) [.ref (n + 1)]) ql a0 := by
    obtain ⟨vl, h1, h2⟩ := I.ex
    exact ⟨⟨vl, by rw [hold n (by omega)]; exact h1, h2.mono x0⟩, by rw [hold (n + 1) (by omega)]; exact I.h1, by rw [hold (n + 2) hlt]; exact I.h2, I.sz⟩
  obtain ⟨vl, h1, h2, Tp⟩ := I1.top ha0
  have hz := I.sz
  have hn := hz.n
  have hp1 : (H.set (n + 2) [.ref (n + 1)])[p1]? = some ((q :: k).map vPr) := by rw [List.getElem?_set_ne (by omega)]; exact T.hp
  obtain ⟨l', b1, b2, b3⟩ := f209 (W := W) N (H.set (n + 2) [.ref (n + 1)]) n (n + 2) (n + 1) n [] vl [] ql (.tup [.str tCa, .str [m], .ref p1]) (.c [m] (q :: k)) Tp h2 (.cr _ _ _ (by omega) hp1) (by omega) (fun s hs u e => by have := hz.t s hs u e; omega) (fun u e => by cases e)
  have J := I1.set (k := 1) b2 (by omega) (fun u e => by cases e)
  have hvk : ∃ kk vv, vPr q = .tup (.str kk :: vv) ∧ (k.map vPr = [] → (kk == tTx) = false) := by
    refine ⟨_, _, rfl, fun h => ?_⟩
    rw [hq (List.map_eq_nil_iff.mp h)]
    rfl
  obtain ⟨kk, vv, hv1, hv2⟩ := hvk
  have hp : H[p1]? = some (.tup (.str kk :: vv) :: k.map vPr) := by rw [← hv1]; exact T.hp
  refine ⟨_, (r240 _ _ _).trans (g240e ht hd x1 x2 ((r223 _).trans (g223 hW T.hS T.he (by rcases hm with rfl | rfl <;> rfl) ((r216 _).trans (g216 T.hS T.he hp (by omega) (by omega) (by rw [List.length_map]; exact hk) hv2 b1))))), J.1, x0.trans J.2⟩
end
noncomputable def atoms : Nat → List Nat → Bool → List PP × List Nat
  | 0, s, _ => ([], s)
  | k + 1, s, p => (sQ s p :: (atoms k (s.drop (sK s p)) p).1, (atoms k (s.drop (sK s p)) p).2)
noncomputable def okA : Nat → List Nat → Bool → Bool
  | 0, _, _ => true
  | k + 1, s, p => (match s with | [] => false | c :: _ => !(c == 92)) && okA k (s.drop (sK s p)) p
section
variable {O : Orc} {W : Nat}
noncomputable def Go (O : Orc) (W : Nat) (t : List Nat) (p : Bool) (n a : Nat) (H : Hp) (b : Nat) (H' : Hp) : Prop :=
  ∀ (fuel : Nat) (f : Option V), t.length - a < fuel → ∃ (fuel' : Nat) (f' : Option V), t.length - b < fuel' ∧
    wloop (tst O wc254_0) (exs O W wb254_1) fuel [some (.str t), some (.bool p), some (.ref (n + 2)), some (.int (a : Nat)), f] H = wloop (tst O wc254_0) (exs O W wb254_1) fuel' [some (.str t), some (.bool p), some (.ref (n + 2)), some (.int (b : Nat)), f'] H'
theorem Go.refl (t : List Nat) (p : Bool) (n a : Nat) (H : Hp) : Go O W t p n a H a H := fun fuel f h => ⟨fuel, f, h, rfl⟩
theorem Go.trans {t : List Nat} {p : Bool} {n a b c : Nat} {H H' H'' : Hp} (x : Go O W t p n a H b H') (y : Go O W t p n b H' c H'') : Go O W t p n a H c H'' := fun fuel f h => by
  obtain ⟨fuel', f', h', e⟩ := x fuel f h
  obtain ⟨fuel'', f'', h'', e'⟩ := y fuel' f' h'
  exact ⟨fuel'', f'', h'', e.trans e'⟩
theorem go_one {t : List Nat} {p : Bool} {n a b : Nat} {H H' : Hp} (ht : t.length ≤ 1000) (ha : a < t.length) (hab : a < b)
    (hb : ∀ f, ∃ f', exs O W wb254_1 [some (.str t), some (.bool p), some (.ref (n + 2)), some (.int (a : Nat)), f] H = some (.next, [some (.str t), some (.bool p), some (.ref (n + 2)), some (.int (b : Nat)), f'], H')) : Go O W t p n a H b H' := fun fuel f h => by
  obtain ⟨fuel, rfl⟩ : ∃ g, fuel = g + 1 := ⟨fuel - 1, by omega⟩
  obtain ⟨f', hf⟩ := hb f
  refine ⟨fuel, f', by omega, wl_next (H' := H) ?_ hf⟩
  unfold wc254_0
  simp (disch := omega) only [↓t_cmp, ↓e_loc, List.getElem?_cons_succ, List.getElem?_cons_zero, obs, ↓e_len, x_len, q_lt, nlt, decide_eq_true ha]
theorem go_n (h247 : P247 O) {t : List Nat} {p : Bool} {n a c : Nat} {r : List Nat} {H : Hp} {ql : List PP} (I : Inv n H ql a) (ht : t.length ≤ 1000) (hd : t.drop a = c :: r) (hc : (c == 92) = false) :
    ∃ H', Go O W t p n a H (a + sK (c :: r) p) H' ∧ Inv n H' (addP ql (sQ (c :: r) p)) (a + sK (c :: r) p) ∧ Ext n H H' := by
  obtain ⟨hl, hr⟩ := drop_cons hd
  obtain ⟨H', e, I', x⟩ := h247 n H ql a c r t p I ht hd hc
  have hi := fun H => x_idx t (H := H) a c r hd (by omega)
  refine ⟨H', go_one ht hl ?_ (fun f => ⟨some (.str ((t.drop (a + 1)).take 1)), ?_⟩), I', x⟩
  · unfold sK
    split
    · rename_i h
      have := of_decide_eq_true h
      omega
    · omega
  · unfold wb254_1
    simp (disch := omega) only [↓s_cons, ↓x_asg, ↓e_slcs, ↓e_loc, List.getElem?_cons_zero, obs, ↓e_bin, List.getElem?_cons_succ, ↓e_lit, p_add, nc1, nc2, x_slc, Nat.add_sub_add_left, Nat.reduceSub, List.set_cons_succ, List.set_cons_zero, sq_next, ↓x_ite, ↓t_and, ↓t_cmp, ↓e_idx, q_eqs, one_eq, q_nes, q_in, Bool.false_eq_true, if_false, ↓e_call, ↓es_cons, ↓es_nil, sq_id, ↓s_nil, hi, hc, e]
theorem go_b (h247 : P247b O) {t : List Nat} {n a : Nat} {r : List Nat} {H : Hp} {ql : List PP} (I : Inv n H ql a) (ht : t.length ≤ 1000) (hd : t.drop a = 92 :: 36 :: r) :
    ∃ H', Go O W t false n a H (a + 2) H' ∧ Inv n H' (addP ql (.t [36])) (a + 2) ∧ Ext n H H' := by
  obtain ⟨hl, hr⟩ := drop_cons hd
  obtain ⟨H', e, I', x⟩ := h247 n H ql a r t I ht hd
  have hi := fun H => x_idx t (H := H) a 92 _ hd (by omega)
  have ht1 : (36 :: r).take 1 = [36] := by simp
  refine ⟨H', go_one ht hl (by omega) (fun f => ⟨some (.str [36]), ?_⟩), I', x⟩
  unfold wb254_1
  simp (disch := omega) only [↓s_cons, ↓x_asg, ↓e_slcs, ↓e_loc, List.getElem?_cons_zero, obs, ↓e_bin, List.getElem?_cons_succ, ↓e_lit, p_add, nc1, nc2, x_slc, Nat.add_sub_add_left, Nat.reduceSub, List.set_cons_succ, List.set_cons_zero, sq_next, ↓x_ite, ↓t_and, ↓t_cmp, ↓e_idx, q_eqs, one_eq, q_nes, cons_ne, q_in, ite_tand, Bool.and_false, ↓e_call, ↓es_cons, ↓es_nil, sq_id, Bool.false_eq_true, if_false, ↓s_nil, hi, hr, ht1, isin_one, show ((92 : Nat) == 92) = true from rfl, show ([85, 76, 70, 81, 117, 108, 69] : List Nat).contains 36 = false from rfl, e]
theorem go_in (h247 : P247c O) {t : List Nat} {p : Bool} {n a c a0 m e1 p1 : Nat} {r : List Nat} {H0 H : Hp} {ql : List PP} {k : List (Bool × List Nat)} (k' : List (Bool × List Nat)) (I : Inv n H0 ql a0) (T : Two n H0 H m k e1 p1) (hm : m = 85 ∨ m = 81) (ht : t.length ≤ 1000) (hd : t.drop a = c :: r) (hc : (c == 92) = false)
    (hk : k.length ≤ 100) (hz : Sz (k.map toPP) 1000) (hk' : k'.map toPP = addP (k.map toPP) (sQ (c :: r) p)) :
    ∃ H', Go O W t p n a H (a + sK (c :: r) p) H' ∧ Two n H0 H' m k' e1 p1 := by
  obtain ⟨hl, hr⟩ := drop_cons hd
  obtain ⟨H', e, T'⟩ := h247 n H0 H ql a0 a c r t p m k k' e1 p1 I T hm ht hd hc hk hz hk'
  have hi := fun H => x_idx t (H := H) a c r hd (by omega)
  refine ⟨H', go_one ht hl ?_ (fun f => ⟨some (.str ((t.drop (a + 1)).take 1)), ?_⟩), T'⟩
  · unfold sK
    split
    · rename_i h
      have := of_decide_eq_true h
      omega
    · omega
  · unfold wb254_1
    simp (disch := omega) only [↓s_cons, ↓x_asg, ↓e_slcs, ↓e_loc, List.getElem?_cons_zero, obs, ↓e_bin, List.getElem?_cons_succ, ↓e_lit, p_add, nc1, nc2, x_slc, Nat.add_sub_add_left, Nat.reduceSub, List.set_cons_succ, List.set_cons_zero, sq_next, ↓x_ite, ↓t_and, ↓t_cmp, ↓e_idx, q_eqs, one_eq, q_nes, q_in, Bool.false_eq_true, if_false, ↓e_call, ↓es_cons, ↓es_nil, sq_id, ↓s_nil, hi, hc, e]
theorem go_open (h240 : P240b O) {t : List Nat} {p : Bool} {n a a0 m : Nat} {r : List Nat} {H0 : Hp} {ql : List PP} (I : Inv n H0 ql a0) (hm : m = 85 ∨ m = 81) (ht : t.length ≤ 1000) (hd : t.drop a = 92 :: m :: r) (x1 : ((t.drop a).take 4 == [92, 76, 92, 117]) = false) (x2 : ((t.drop a).take 4 == [92, 85, 92, 108]) = false) :
    ∃ H' e1 p1, Go O W t p n a H0 (a + 2) H' ∧ Two n H0 H' m [] e1 p1 := by
  obtain ⟨hl, hr⟩ := drop_cons hd
  obtain ⟨H', e1, p1, e, T'⟩ := h240 n H0 ql a0 a m r t I hm ht hd x1 x2
  have hi := fun H => x_idx t (H := H) a 92 _ hd (by omega)
  have ht1 : (m :: r).take 1 = [m] := by simp
  have hin : ([85, 76, 70, 81, 117, 108, 69] : List Nat).contains m = true := by rcases hm with rfl | rfl <;> rfl
  refine ⟨H', e1, p1, go_one ht hl (by omega) (fun f => ⟨some (.str [m]), ?_⟩), T'⟩
  unfold wb254_1
  simp (disch := omega) only [↓s_cons, ↓x_asg, ↓e_slcs, ↓e_loc, List.getElem?_cons_zero, obs, ↓e_bin, List.getElem?_cons_succ, ↓e_lit, p_add, nc1, nc2, x_slc, Nat.add_sub_add_left, Nat.reduceSub, List.set_cons_succ, List.set_cons_zero, sq_next, ↓x_ite, ↓t_and, ↓t_cmp, ↓e_idx, q_eqs, one_eq, q_nes, cons_ne, q_in, ite_tand, Bool.and_true, ↓e_call, ↓es_cons, ↓es_nil, sq_id, if_true, ↓s_nil, hi, hr, ht1, isin_one, show ((92 : Nat) == 92) = true from rfl, hin, e]
theorem go_close (h240 : P240e O) {t : List Nat} {p : Bool} {n a a0 m e1 p1 : Nat} {r : List Nat} {H0 H : Hp} {ql : List PP} {q : Bool × List Nat} {k : List (Bool × List Nat)} (I : Inv n H0 ql a0) (ha0 : a0 ≤ 1000) (T : Two n H0 H m (q :: k) e1 p1) (hm : m = 85 ∨ m = 81) (hk : k.length ≤ 100) (hq : k = [] → q.1 = false) (ht : t.length ≤ 1000) (hd : t.drop a = 92 :: 69 :: r)
    (x1 : ((t.drop a).take 4 == [92, 76, 92, 117]) = false) (x2 : ((t.drop a).take 4 == [92, 85, 92, 108]) = false) :
    ∃ H', Go O W t p n a H (a + 2) H' ∧ Inv n H' (addP ql (.c [m] (q :: k))) (a0 + 1) ∧ Ext n H0 H' := by
  obtain ⟨hl, hr⟩ := drop_cons hd
  obtain ⟨H', e, I', x⟩ := h240 n H0 H ql a0 a m r t k q e1 p1 I ha0 T hm hk hq ht hd x1 x2
  have hi := fun H => x_idx t (H := H) a 92 _ hd (by omega)
  have ht1 : (69 :: r).take 1 = [69] := by simp
  refine ⟨H', go_one ht hl (by omega) (fun f => ⟨some (.str [69]), ?_⟩), I', x⟩
  unfold wb254_1
  simp (disch := omega) only [↓s_cons, ↓x_asg, ↓e_slcs, ↓e_loc, List.getElem?_cons_zero, obs, ↓e_bin, List.getElem?_cons_succ, ↓e_lit, p_add, nc1, nc2, x_slc, Nat.add_sub_add_left, Nat.reduceSub, List.set_cons_succ, List.set_cons_zero, sq_next, ↓x_ite, ↓t_and, ↓t_cmp, ↓e_idx, q_eqs, one_eq, q_nes, cons_ne, q_in, ite_tand, Bool.and_true, ↓e_call, ↓es_cons, ↓es_nil, sq_id, if_true, ↓s_nil, hi, hr, ht1, isin_one, show ((92 : Nat) == 92) = true from rfl, show ([85, 76, 70, 81, 117, 108, 69] : List Nat).contains 69 = true from rfl, e]
theorem go_atoms (h247 : P247 O) {t : List Nat} (ht : t.length ≤ 1000) {p : Bool} {n : Nat} : ∀ (k : Nat) (s : List Nat) (a : Nat) (H : Hp) (ql : List PP), okA k s p = true → t.drop a = s → Inv n H ql a →
    ∃ H' b, Go O W t p n a H b H' ∧ t.drop b = (atoms k s p).2 ∧ Inv n H' ((atoms k s p).1.foldl addP ql) b ∧ Ext n H H'
  | 0, s, a, H, ql, _, hd, I => ⟨H, a, Go.refl t p n a H, hd, I, Ext.refl n H⟩
  | k + 1, s, a, H, ql, ho, hd, I => by
    unfold okA at ho
    rw [Bool.and_eq_true] at ho
    cases s with
    | nil => exact absurd ho.1 (by decide)
    | cons c r =>
      have hc : (c == 92) = false := by simpa using ho.1
      obtain ⟨H1, g1, I1, x1⟩ := go_n (W := W) (p := p) h247 I ht hd hc
      obtain ⟨H2, b, g2, d2, I2, x2⟩ := go_atoms h247 ht k ((c :: r).drop (sK (c :: r) p)) (a + sK (c :: r) p) H1 _ ho.2 (by rw [← hd, List.drop_drop]) I1
      exact ⟨H2, b, g1.trans g2, d2, I2, x1.trans x2⟩
end
structure Row where
  raw : List Nat
  due : List PP
  pat : Option (List PP)
noncomputable def rowsP : List Row := [⟨[36, 96], [.x [36, 96]], some [.t [36, 96]]⟩,
  ⟨[36, 39], [.x [36, 39]], some [.t [36, 39]]⟩,
  ⟨[36, 43], [.x [36, 43]], some [.t [36, 43]]⟩,
  ⟨[36, 43, 123, 120, 125], [.x [36, 43, 123, 120, 125]], some [.t [36, 43, 123, 120, 125]]⟩,
  ⟨[36, 43, 123, 39, 97, 125, 98, 39, 125, 91, 49, 93, 45, 62, 123, 99, 125], [.x [36, 43, 123, 39, 97, 125, 98, 39, 125, 91, 49, 93, 45, 62, 123, 99, 125]], some [.t [36, 43, 123, 39, 97, 125, 98, 39, 125, 91, 49, 93, 45, 62, 123, 99, 125]]⟩,
  ⟨[36, 43, 91, 48, 93], [.t [36, 43, 91, 48, 93]], some [.t [36, 43, 91, 48, 93]]⟩,
  ⟨[36, 43, 123, 125], [.x [36, 43], .t [123, 125]], some [.t [36, 43, 123, 125]]⟩,
  ⟨[36, 43, 32, 123, 120, 125], [.x [36, 43], .t [32, 123, 120, 125]], some [.t [36, 43, 32, 123, 120, 125]]⟩,
  ⟨[36, 43, 45, 62, 123, 120, 125], [.x [36, 43, 45, 62, 123, 120, 125]], some [.t [36, 43, 45, 62, 123, 120, 125]]⟩,
  ⟨[36, 96, 96], [.x [36, 96], .t [96]], some [.t [36, 96, 96]]⟩,
  ⟨[36, 39, 39, 91, 48, 93], [.x [36, 39], .t [39, 91, 48, 93]], some [.t [36, 39, 39, 91, 48, 93]]⟩,
  ⟨[36, 43, 123, 32, 121, 32, 125, 123, 122, 125, 43], [.x [36, 43, 123, 32, 121, 32, 125, 123, 122, 125], .t [43]], some [.t [36, 43, 123, 32, 121, 32, 125, 123, 122, 125, 43]]⟩,
  ⟨[43, 39, 96], [.t [43, 39, 96]], some [.t [43, 39, 96]]⟩,
  ⟨[36, 43, 36, 43], [.x [36, 43], .x [36, 43]], some [.t [36, 43, 36, 43]]⟩,
  ⟨[36, 124], [.x [36, 124]], some [.t [36, 124]]⟩,
  ⟨[36, 123, 120, 125, 91, 48, 93], [.x [36, 123, 120, 125], .t [91, 48, 93]], some [.x [36, 123, 120, 125], .t [91, 48, 93]]⟩,
  ⟨[36, 123, 120, 125, 123, 107, 125], [.x [36, 123, 120, 125], .t [123, 107, 125]], some [.x [36, 123, 120, 125], .t [123, 107, 125]]⟩,
  ⟨[64, 123, 120, 125, 91, 48, 93], [.x [64, 123, 120, 125], .t [91, 48, 93]], some [.x [64, 123, 120, 125], .t [91, 48, 93]]⟩,
  ⟨[36, 123, 32, 65, 58, 58, 98, 9, 125, 91, 49, 93], [.x [36, 123, 32, 65, 58, 58, 98, 9, 125], .t [91, 49, 93]], some [.x [36, 123, 32, 65, 58, 58, 98, 9, 125], .t [91, 49, 93]]⟩,
  ⟨[36, 123, 49, 50, 125, 123, 107, 125], [.x [36, 123, 49, 50, 125], .t [123, 107, 125]], some [.x [36, 123, 49, 50, 125], .t [123, 107, 125]]⟩,
  ⟨[36, 123, 120, 125, 45, 62, 91, 48, 93, 123, 107, 125], [.x [36, 123, 120, 125, 45, 62, 91, 48, 93, 123, 107, 125]], some [.x [36, 123, 120, 125, 45, 62, 91, 48, 93, 123, 107, 125]]⟩,
  ⟨[36, 123, 36, 114, 125, 123, 107, 125, 91, 50, 93], [.x [36, 123, 36, 114, 125, 123, 107, 125, 91, 50, 93]], some [.x [36, 123, 36, 114, 125, 123, 107, 125, 91, 50, 93]]⟩,
  ⟨[64, 123, 36, 114, 125, 91, 48, 93], [.x [64, 123, 36, 114, 125, 91, 48, 93]], some [.x [64, 123, 36, 114, 125, 91, 48, 93]]⟩,
  ⟨[36, 123, 120, 125, 45, 91, 48, 93], [.x [36, 123, 120, 125], .t [45, 91, 48, 93]], some [.x [36, 123, 120, 125], .t [45, 91, 48, 93]]⟩,
  ⟨[36, 49, 91, 48, 93], [.x [36, 49, 91, 48, 93]], some [.x [36, 49, 91, 48, 93]]⟩,
  ⟨[36, 50, 51, 123, 107, 125, 45, 62, 91, 49, 93], [.x [36, 50, 51, 123, 107, 125, 45, 62, 91, 49, 93]], some [.x [36, 50, 51, 123, 107, 125, 45, 62, 91, 49, 93]]⟩,
  ⟨[36, 38, 91, 48, 93, 123, 107, 125], [.x [36, 38, 91, 48, 93, 123, 107, 125]], some [.x [36, 38, 91, 48, 93, 123, 107, 125]]⟩,
  ⟨[36, 64, 45, 62, 123, 107, 125], [.x [36, 64, 45, 62, 123, 107, 125]], some [.x [36, 64, 45, 62, 123, 107, 125]]⟩,
  ⟨[36, 38, 43, 123, 120, 125], [.x [36, 38], .t [43, 123, 120, 125]], some [.x [36, 38], .t [43, 123, 120, 125]]⟩,
  ⟨[36, 114, 45, 62, 123, 50, 125], [.x [36, 114, 45, 62, 123, 50, 125]], some [.x [36, 114, 45, 62, 123, 50, 125]]⟩,
  ⟨[36, 114, 45, 62, 91, 97, 98, 99, 40, 41, 93], [.x [36, 114, 45, 62, 91, 97, 98, 99, 40, 41, 93]], some [.x [36, 114, 45, 62, 91, 97, 98, 99, 40, 41, 93]]⟩,
  ⟨[36, 120, 91, 45, 36, 105, 93], [.x [36, 120, 91, 45, 36, 105, 93]], some [.x [36, 120, 91, 45, 36, 105, 93]]⟩,
  ⟨[36, 120, 91, 49, 50, 93], [.x [36, 120, 91, 49, 50, 93]], some [.x [36, 120, 91, 49, 50, 93]]⟩,
  ⟨[36, 120, 91, 50, 51, 52, 53, 93], [.x [36, 120, 91, 50, 51, 52, 53, 93]], some [.x [36, 120], .t [91, 50, 51, 52, 53, 93]]⟩,
  ⟨[36, 120, 91, 45, 49, 50, 51, 93], [.x [36, 120, 91, 45, 49, 50, 51, 93]], some [.x [36, 120], .t [91, 45, 49, 50, 51, 93]]⟩,
  ⟨[36, 49, 123, 50, 125], [.x [36, 49, 123, 50, 125]], some [.x [36, 49], .t [123, 50, 125]]⟩,
  ⟨[36, 114, 45, 62, 123, 50, 125, 123, 51, 125], [.x [36, 114, 45, 62, 123, 50, 125, 123, 51, 125]], some [.x [36, 114, 45, 62, 123, 50, 125], .t [123, 51, 125]]⟩,
  ⟨[36, 38, 91, 97, 98, 93], [.x [36, 38, 91, 97, 98, 93]], some [.x [36, 38], .t [91, 97, 98, 93]]⟩,
  ⟨[92, 36, 96], [.t [36, 96]], none⟩,
  ⟨[92, 36, 43, 123, 120, 125], [.t [36, 43, 123, 120, 125]], none⟩,
  ⟨[92, 85, 36, 39, 92, 69], [.c [85] [(false, [36, 39])]], none⟩,
  ⟨[92, 81, 97, 36, 43, 46, 92, 69], [.c [81] [(true, [97]), (false, [36, 43]), (true, [46])]], none⟩]

theorem addP_assoc (x : List PP) (s s' : List Nat) : addP (addP x (.t s)) (.t s') = addP x (.t (s ++ s')) := by
  rcases List.eq_nil_or_concat x with rfl | ⟨y, q, rfl⟩
  · simp [addP]
  · rw [List.concat_eq_append]
    cases q with
    | t u => rw [addP_tt, addP_tt, addP_tt, List.append_assoc]
    | x u =>
      have e := fun z => addP_nt y (.x u) z (fun _ h => by cases h)
      rw [e, e, addP_tt]
    | c m k =>
      have e := fun z => addP_nt y (.c m k) z (fun _ h => by cases h)
      rw [e, e, addP_tt]
theorem fold_addP (l m : List PP) (q : PP) : (addP m q).foldl addP l = addP (m.foldl addP l) q := by
  rcases List.eq_nil_or_concat m with rfl | ⟨y, w, rfl⟩
  · rw [addP_nil]; rfl
  · rw [List.concat_eq_append]
    have gen : addP (y ++ [w]) q = y ++ [w] ++ [q] → (addP (y ++ [w]) q).foldl addP l = addP ((y ++ [w]).foldl addP l) q := fun e => by rw [e, List.foldl_append]; rfl
    cases q with
    | x u => exact gen (addP_x _ _)
    | c a b => exact gen (addP_c _ _ _)
    | t u =>
      cases w with
      | x v => exact gen (addP_nt _ _ _ (fun u h => by cases h))
      | c a b => exact gen (addP_nt _ _ _ (fun u h => by cases h))
      | t v =>
        rw [addP_tt, List.foldl_append, List.foldl_append]
        show addP (y.foldl addP l) (.t (v ++ u)) = addP (addP (y.foldl addP l) (.t v)) (.t u)
        rw [addP_assoc]
theorem fold_mrg (as : List PP) : ∀ (l m : List PP), (as.foldl addP m).foldl addP l = as.foldl addP (m.foldl addP l) := by
  induction as with
  | nil => intro l m; rfl
  | cons q as ih => intro l m; rw [List.foldl_cons, List.foldl_cons, ih, fold_addP]
theorem fold_same {as bs : List PP} (h : as.foldl addP [] = bs.foldl addP []) (l : List PP) : as.foldl addP l = bs.foldl addP l := by
  have h1 := fold_mrg as l []
  have h2 := fold_mrg bs l []
  rw [h, h2] at h1
  exact h1.symm
theorem Inv.mono {n : Nat} {H : Hp} {ql : List PP} {a b : Nat} (I : Inv n H ql a) (h : a ≤ b) : Inv n H ql b := ⟨I.ex, I.h1, I.h2, I.sz.mono h⟩

section
variable {O : Orc} {W : Nat}
noncomputable def PieceOk (O : Orc) (W : Nat) (p : Bool) (raw : List Nat) (due : List PP) : Prop := ∀ (t : List Nat) (n a : Nat) (post : List Nat) (H : Hp) (ql : List PP), t.length ≤ 1000 → t.drop a = raw ++ 46 :: post → Inv n H ql a →
  ∃ H' b, Go O W t p n a H b H' ∧ t.drop b = post ∧ Inv n H' ((due ++ [PP.t [46]]).foldl addP ql) b ∧ Ext n H H'
theorem piece_n (h247 : P247 O) {raw : List Nat} {p : Bool} (as due : List PP) (k : Nat) (h1 : ∀ post, atoms k (raw ++ 46 :: post) p = (as, post)) (h2 : ∀ post, okA k (raw ++ 46 :: post) p = true) (h3 : as.foldl addP [] = (due ++ [PP.t [46]]).foldl addP []) : PieceOk O W p raw due := by
  intro t n a post H ql ht hd I
  obtain ⟨H', b, g, d, I', x⟩ := go_atoms (W := W) h247 ht k _ a H ql (h2 post) hd I
  rw [h1] at d I'
  rw [← fold_same h3]
  exact ⟨H', b, g, d, I', x⟩
theorem piece_b (h247 : P247 O) (h247b : P247b O) {rest : List Nat} (as due : List PP) (k : Nat) (h1 : ∀ post, atoms k (rest ++ 46 :: post) false = (as, post)) (h2 : ∀ post, okA k (rest ++ 46 :: post) false = true) (h3 : (PP.t [36] :: as).foldl addP [] = (due ++ [PP.t [46]]).foldl addP []) : PieceOk O W false (92 :: 36 :: rest) due := by
  intro t n a post H ql ht hd I
  obtain ⟨H1, g1, I1, x1⟩ := go_b (W := W) h247b I ht hd
  obtain ⟨H', b, g, d, I', x⟩ := go_atoms (W := W) h247 ht k (rest ++ 46 :: post) (a + 2) H1 _ (h2 post) (by rw [← List.drop_drop, hd]; rfl) I1
  rw [h1] at d I'
  rw [← fold_same h3]
  exact ⟨H', b, g1.trans g, d, I', x1.trans x⟩
theorem drop_at {t s r : List Nat} {a k : Nat} (h : t.drop a = s) (e : s.drop k = r) : t.drop (a + k) = r := by rw [← List.drop_drop, h, e]
theorem drop_lt {t r : List Nat} {a c : Nat} (h : t.drop a = c :: r) : a < t.length := (drop_cons h).1
theorem dotQ (post : List Nat) (p : Bool) : sQ (46 :: post) p = .t [46] := by kernel_rfl!
theorem dotK (post : List Nat) (p : Bool) : sK (46 :: post) p = 1 := by kernel_rfl!
theorem piece_U (h247 : P247 O) (h247c : P247c O) (h240b : P240b O) (h240e : P240e O) : PieceOk O W false [92, 85, 36, 39, 92, 69] [.c [85] [(false, [36, 39])]] := by
  intro t n a post H ql ht hd I
  have ha := drop_lt hd
  have hd : t.drop a = 92 :: 85 :: 36 :: 39 :: 92 :: 69 :: 46 :: post := hd
  obtain ⟨H1, e1, p1, g1, T1⟩ := go_open (W := W) (p := false) (m := 85) h240b I (.inl rfl) ht hd (by rw [hd]; rfl) (by rw [hd]; rfl)
  have hd1 : t.drop (a + 2) = 36 :: 39 :: 92 :: 69 :: 46 :: post := drop_at hd rfl
  have hq1 : sQ (36 :: 39 :: 92 :: 69 :: 46 :: post) false = .x [36, 39] := by kernel_rfl!
  have hk1 : sK (36 :: 39 :: 92 :: 69 :: 46 :: post) false = 2 := by kernel_rfl!
  obtain ⟨H2, g2, T2⟩ := go_in (W := W) (p := false) h247c [(false, [36, 39])] I T1 (.inl rfl) ht hd1 rfl (by simp) ⟨by simp, fun s hs => by simp at hs⟩ (by rw [hq1]; rfl)
  rw [hk1] at g2
  have hd2 : t.drop (a + 2 + 2) = 92 :: 69 :: 46 :: post := drop_at hd1 rfl
  obtain ⟨H3, g3, I3, x3⟩ := go_close (W := W) (p := false) h240e I (by omega) T2 (.inl rfl) (by simp) (fun _ => rfl) ht hd2 (by rw [hd2]; kernel_rfl!) (by rw [hd2]; kernel_rfl!)
  have hd3 : t.drop (a + 2 + 2 + 2) = 46 :: post := drop_at hd2 rfl
  obtain ⟨H4, g4, I4, x4⟩ := go_n (W := W) (p := false) h247 (I3.mono (b := a + 2 + 2 + 2) (by omega)) ht hd3 rfl
  rw [dotK] at g4 I4
  rw [dotQ] at I4
  exact ⟨H4, _, ((g1.trans g2).trans g3).trans g4, drop_at hd3 rfl, I4, x3.trans x4⟩
theorem piece_Q (h247 : P247 O) (h247c : P247c O) (h240b : P240b O) (h240e : P240e O) : PieceOk O W false [92, 81, 97, 36, 43, 46, 92, 69] [.c [81] [(true, [97]), (false, [36, 43]), (true, [46])]] := by
  intro t n a post H ql ht hd I
  have ha := drop_lt hd
  have hd : t.drop a = 92 :: 81 :: 97 :: 36 :: 43 :: 46 :: 92 :: 69 :: 46 :: post := hd
  obtain ⟨H1, e1, p1, g1, T1⟩ := go_open (W := W) (p := false) (m := 81) h240b I (.inr rfl) ht hd (by rw [hd]; rfl) (by rw [hd]; rfl)
  have hd1 : t.drop (a + 2) = 97 :: 36 :: 43 :: 46 :: 92 :: 69 :: 46 :: post := drop_at hd rfl
  have hq1 : sQ (97 :: 36 :: 43 :: 46 :: 92 :: 69 :: 46 :: post) false = .t [97] := by kernel_rfl!
  have hk1 : sK (97 :: 36 :: 43 :: 46 :: 92 :: 69 :: 46 :: post) false = 1 := by kernel_rfl!
  obtain ⟨H2, g2, T2⟩ := go_in (W := W) (p := false) h247c [(true, [97])] I T1 (.inr rfl) ht hd1 rfl (by simp) ⟨by simp, fun s hs => by simp at hs⟩ (by rw [hq1]; rfl)
  rw [hk1] at g2
  have hd2 : t.drop (a + 2 + 1) = 36 :: 43 :: 46 :: 92 :: 69 :: 46 :: post := drop_at hd1 rfl
  have hq2 : sQ (36 :: 43 :: 46 :: 92 :: 69 :: 46 :: post) false = .x [36, 43] := by kernel_rfl!
  have hk2 : sK (36 :: 43 :: 46 :: 92 :: 69 :: 46 :: post) false = 2 := by kernel_rfl!
  obtain ⟨H3, g3, T3⟩ := go_in (W := W) (p := false) h247c [(true, [97]), (false, [36, 43])] I T2 (.inr rfl) ht hd2 rfl (by simp) ⟨by simp, fun s hs u e => by
    simp [toPP] at hs; subst hs; cases e; simp⟩ (by rw [hq2]; rfl)
  rw [hk2] at g3
  have hd3 : t.drop (a + 2 + 1 + 2) = 46 :: 92 :: 69 :: 46 :: post := drop_at hd2 rfl
  have hq3 : sQ (46 :: 92 :: 69 :: 46 :: post) false = .t [46] := dotQ _ _
  have hk3 : sK (46 :: 92 :: 69 :: 46 :: post) false = 1 := dotK _ _
  obtain ⟨H4, g4, T4⟩ := go_in (W := W) (p := false) h247c [(true, [97]), (false, [36, 43]), (true, [46])] I T3 (.inr rfl) ht hd3 rfl (by simp) ⟨by simp, fun s hs u e => by
    simp [toPP] at hs; rcases hs with rfl | rfl <;> cases e; simp⟩ (by rw [hq3]; rfl)
  rw [hk3] at g4
  have hd4 : t.drop (a + 2 + 1 + 2 + 1) = 92 :: 69 :: 46 :: post := drop_at hd3 rfl
  obtain ⟨H5, g5, I5, x5⟩ := go_close (W := W) (p := false) h240e I (by omega) T4 (.inr rfl) (by simp) (fun h => by cases h) ht hd4 (by rw [hd4]; kernel_rfl!) (by rw [hd4]; kernel_rfl!)
  have hd5 : t.drop (a + 2 + 1 + 2 + 1 + 2) = 46 :: post := drop_at hd4 rfl
  obtain ⟨H6, g6, I6, x6⟩ := go_n (W := W) (p := false) h247 (I5.mono (b := a + 2 + 1 + 2 + 1 + 2) (by omega)) ht hd5 rfl
  rw [dotK] at g6 I6
  rw [dotQ] at I6
  exact ⟨H6, _, ((((g1.trans g2).trans g3).trans g4).trans g5).trans g6, drop_at hd5 rfl, I6, x5.trans x6⟩
structure Cal (O : Orc) : Prop where
  n : P247 O
  b : P247b O
  c : P247c O
  o : P240b O
  e : P240e O
theorem a1_false_0 (post : List Nat) : atoms 2 ([36, 96] ++ 46 :: post) false = ([.x [36, 96], .t [46]], post) := by kernel_rfl!
theorem a2_false_0 (post : List Nat) : okA 2 ([36, 96] ++ 46 :: post) false = true := by kernel_rfl!
theorem a3_false_0 : (([.x [36, 96], .t [46]] : List PP)).foldl addP [] = (([.x [36, 96]] : List PP) ++ [PP.t [46]]).foldl addP [] := by decide +kernel
theorem pc_false_0 (C : Cal O) : PieceOk O W false [36, 96] [.x [36, 96]] := piece_n C.n [.x [36, 96], .t [46]] [.x [36, 96]] 2 a1_false_0 a2_false_0 a3_false_0
theorem a1_true_0 (post : List Nat) : atoms 3 ([36, 96] ++ 46 :: post) true = ([.t [36], .t [96], .t [46]], post) := by kernel_rfl!
theorem a2_true_0 (post : List Nat) : okA 3 ([36, 96] ++ 46 :: post) true = true := by kernel_rfl!
theorem a3_true_0 : (([.t [36], .t [96], .t [46]] : List PP)).foldl addP [] = (([.t [36, 96]] : List PP) ++ [PP.t [46]]).foldl addP [] := by decide +kernel
theorem pc_true_0 (C : Cal O) : PieceOk O W true [36, 96] [.t [36, 96]] := piece_n C.n [.t [36], .t [96], .t [46]] [.t [36, 96]] 3 a1_true_0 a2_true_0 a3_true_0
theorem a1_false_1 (post : List Nat) : atoms 2 ([36, 39] ++ 46 :: post) false = ([.x [36, 39], .t [46]], post) := by kernel_rfl!
theorem a2_false_1 (post : List Nat) : okA 2 ([36, 39] ++ 46 :: post) false = true := by kernel_rfl!
theorem a3_false_1 : (([.x [36, 39], .t [46]] : List PP)).foldl addP [] = (([.x [36, 39]] : List PP) ++ [PP.t [46]]).foldl addP [] := by decide +kernel
theorem pc_false_1 (C : Cal O) : PieceOk O W false [36, 39] [.x [36, 39]] := piece_n C.n [.x [36, 39], .t [46]] [.x [36, 39]] 2 a1_false_1 a2_false_1 a3_false_1
theorem a1_true_1 (post : List Nat) : atoms 3 ([36, 39] ++ 46 :: post) true = ([.t [36], .t [39], .t [46]], post) := by kernel_rfl!
theorem a2_true_1 (post : List Nat) : okA 3 ([36, 39] ++ 46 :: post) true = true := by kernel_rfl!
theorem a3_true_1 : (([.t [36], .t [39], .t [46]] : List PP)).foldl addP [] = (([.t [36, 39]] : List PP) ++ [PP.t [46]]).foldl addP [] := by decide +kernel
theorem pc_true_1 (C : Cal O) : PieceOk O W true [36, 39] [.t [36, 39]] := piece_n C.n [.t [36], .t [39], .t [46]] [.t [36, 39]] 3 a1_true_1 a2_true_1 a3_true_1
theorem a1_false_2 (post : List Nat) : atoms 2 ([36, 43] ++ 46 :: post) false = ([.x [36, 43], .t [46]], post) := by kernel_rfl!
theorem a2_false_2 (post : List Nat) : okA 2 ([36, 43] ++ 46 :: post) false = true := by kernel_rfl!
theorem a3_false_2 : (([.x [36, 43], .t [46]] : List PP)).foldl addP [] = (([.x [36, 43]] : List PP) ++ [PP.t [46]]).foldl addP [] := by decide +kernel
theorem pc_false_2 (C : Cal O) : PieceOk O W false [36, 43] [.x [36, 43]] := piece_n C.n [.x [36, 43], .t [46]] [.x [36, 43]] 2 a1_false_2 a2_false_2 a3_false_2
theorem a1_true_2 (post : List Nat) : atoms 3 ([36, 43] ++ 46 :: post) true = ([.t [36], .t [43], .t [46]], post) := by kernel_rfl!
theorem a2_true_2 (post : List Nat) : okA 3 ([36, 43] ++ 46 :: post) true = true := by kernel_rfl!
theorem a3_true_2 : (([.t [36], .t [43], .t [46]] : List PP)).foldl addP [] = (([.t [36, 43]] : List PP) ++ [PP.t [46]]).foldl addP [] := by decide +kernel
theorem pc_true_2 (C : Cal O) : PieceOk O W true [36, 43] [.t [36, 43]] := piece_n C.n [.t [36], .t [43], .t [46]] [.t [36, 43]] 3 a1_true_2 a2_true_2 a3_true_2
theorem a1_false_3 (post : List Nat) : atoms 2 ([36, 43, 123, 120, 125] ++ 46 :: post) false = ([.x [36, 43, 123, 120, 125], .t [46]], post) := by kernel_rfl!
theorem a2_false_3 (post : List Nat) : okA 2 ([36, 43, 123, 120, 125] ++ 46 :: post) false = true := by kernel_rfl!
theorem a3_false_3 : (([.x [36, 43, 123, 120, 125], .t [46]] : List PP)).foldl addP [] = (([.x [36, 43, 123, 120, 125]] : List PP) ++ [PP.t [46]]).foldl addP [] := by decide +kernel
theorem pc_false_3 (C : Cal O) : PieceOk O W false [36, 43, 123, 120, 125] [.x [36, 43, 123, 120, 125]] := piece_n C.n [.x [36, 43, 123, 120, 125], .t [46]] [.x [36, 43, 123, 120, 125]] 2 a1_false_3 a2_false_3 a3_false_3
theorem a1_true_3 (post : List Nat) : atoms 6 ([36, 43, 123, 120, 125] ++ 46 :: post) true = ([.t [36], .t [43], .t [123], .t [120], .t [125], .t [46]], post) := by kernel_rfl!
theorem a2_true_3 (post : List Nat) : okA 6 ([36, 43, 123, 120, 125] ++ 46 :: post) true = true := by kernel_rfl!
theorem a3_true_3 : (([.t [36], .t [43], .t [123], .t [120], .t [125], .t [46]] : List PP)).foldl addP [] = (([.t [36, 43, 123, 120, 125]] : List PP) ++ [PP.t [46]]).foldl addP [] := by decide +kernel
theorem pc_true_3 (C : Cal O) : PieceOk O W true [36, 43, 123, 120, 125] [.t [36, 43, 123, 120, 125]] := piece_n C.n [.t [36], .t [43], .t [123], .t [120], .t [125], .t [46]] [.t [36, 43, 123, 120, 125]] 6 a1_true_3 a2_true_3 a3_true_3
theorem a1_false_4 (post : List Nat) : atoms 2 ([36, 43, 123, 39, 97, 125, 98, 39, 125, 91, 49, 93, 45, 62, 123, 99, 125] ++ 46 :: post) false = ([.x [36, 43, 123, 39, 97, 125, 98, 39, 125, 91, 49, 93, 45, 62, 123, 99, 125], .t [46]], post) := by kernel_rfl!
theorem a2_false_4 (post : List Nat) : okA 2 ([36, 43, 123, 39, 97, 125, 98, 39, 125, 91, 49, 93, 45, 62, 123, 99, 125] ++ 46 :: post) false = true := by kernel_rfl!
theorem a3_false_4 : (([.x [36, 43, 123, 39, 97, 125, 98, 39, 125, 91, 49, 93, 45, 62, 123, 99, 125], .t [46]] : List PP)).foldl addP [] = (([.x [36, 43, 123, 39, 97, 125, 98, 39, 125, 91, 49, 93, 45, 62, 123, 99, 125]] : List PP) ++ [PP.t [46]]).foldl addP [] := by decide +kernel
theorem pc_false_4 (C : Cal O) : PieceOk O W false [36, 43, 123, 39, 97, 125, 98, 39, 125, 91, 49, 93, 45, 62, 123, 99, 125] [.x [36, 43, 123, 39, 97, 125, 98, 39, 125, 91, 49, 93, 45, 62, 123, 99, 125]] := piece_n C.n [.x [36, 43, 123, 39, 97, 125, 98, 39, 125, 91, 49, 93, 45, 62, 123, 99, 125], .t [46]] [.x [36, 43, 123, 39, 97, 125, 98, 39, 125, 91, 49, 93, 45, 62, 123, 99, 125]] 2 a1_false_4 a2_false_4 a3_false_4
theorem a1_true_4 (post : List Nat) : atoms 18 ([36, 43, 123, 39, 97, 125, 98, 39, 125, 91, 49, 93, 45, 62, 123, 99, 125] ++ 46 :: post) true = ([.t [36], .t [43], .t [123], .t [39], .t [97], .t [125], .t [98], .t [39], .t [125], .t [91], .t [49], .t [93], .t [45], .t [62], .t [123], .t [99], .t [125], .t [46]], post) := by kernel_rfl!
theorem a2_true_4 (post : List Nat) : okA 18 ([36, 43, 123, 39, 97, 125, 98, 39, 125, 91, 49, 93, 45, 62, 123, 99, 125] ++ 46 :: post) true = true := by kernel_rfl!
theorem a3_true_4 : (([.t [36], .t [43], .t [123], .t [39], .t [97], .t [125], .t [98], .t [39], .t [125], .t [91], .t [49], .t [93], .t [45], .t [62], .t [123], .t [99], .t [125], .t [46]] : List PP)).foldl addP [] = (([.t [36, 43, 123, 39, 97, 125, 98, 39, 125, 91, 49, 93, 45, 62, 123, 99, 125]] : List PP) ++ [PP.t [46]]).foldl addP [] := by decide +kernel
theorem pc_true_4 (C : Cal O) : PieceOk O W true [36, 43, 123, 39, 97, 125, 98, 39, 125, 91, 49, 93, 45, 62, 123, 99, 125] [.t [36, 43, 123, 39, 97, 125, 98, 39, 125, 91, 49, 93, 45, 62, 123, 99, 125]] := piece_n C.n [.t [36], .t [43], .t [123], .t [39], .t [97], .t [125], .t [98], .t [39], .t [125], .t [91], .t [49], .t [93], .t [45], .t [62], .t [123], .t [99], .t [125], .t [46]] [.t [36, 43, 123, 39, 97, 125, 98, 39, 125, 91, 49, 93, 45, 62, 123, 99, 125]] 18 a1_true_4 a2_true_4 a3_true_4
theorem a1_false_5 (post : List Nat) : atoms 6 ([36, 43, 91, 48, 93] ++ 46 :: post) false = ([.t [36], .t [43], .t [91], .t [48], .t [93], .t [46]], post) := by kernel_rfl!
theorem a2_false_5 (post : List Nat) : okA 6 ([36, 43, 91, 48, 93] ++ 46 :: post) false = true := by kernel_rfl!
theorem a3_false_5 : (([.t [36], .t [43], .t [91], .t [48], .t [93], .t [46]] : List PP)).foldl addP [] = (([.t [36, 43, 91, 48, 93]] : List PP) ++ [PP.t [46]]).foldl addP [] := by decide +kernel
theorem pc_false_5 (C : Cal O) : PieceOk O W false [36, 43, 91, 48, 93] [.t [36, 43, 91, 48, 93]] := piece_n C.n [.t [36], .t [43], .t [91], .t [48], .t [93], .t [46]] [.t [36, 43, 91, 48, 93]] 6 a1_false_5 a2_false_5 a3_false_5
theorem a1_true_5 (post : List Nat) : atoms 6 ([36, 43, 91, 48, 93] ++ 46 :: post) true = ([.t [36], .t [43], .t [91], .t [48], .t [93], .t [46]], post) := by kernel_rfl!
theorem a2_true_5 (post : List Nat) : okA 6 ([36, 43, 91, 48, 93] ++ 46 :: post) true = true := by kernel_rfl!
theorem a3_true_5 : (([.t [36], .t [43], .t [91], .t [48], .t [93], .t [46]] : List PP)).foldl addP [] = (([.t [36, 43, 91, 48, 93]] : List PP) ++ [PP.t [46]]).foldl addP [] := by decide +kernel
theorem pc_true_5 (C : Cal O) : PieceOk O W true [36, 43, 91, 48, 93] [.t [36, 43, 91, 48, 93]] := piece_n C.n [.t [36], .t [43], .t [91], .t [48], .t [93], .t [46]] [.t [36, 43, 91, 48, 93]] 6 a1_true_5 a2_true_5 a3_true_5
theorem a1_false_6 (post : List Nat) : atoms 4 ([36, 43, 123, 125] ++ 46 :: post) false = ([.x [36, 43], .t [123], .t [125], .t [46]], post) := by kernel_rfl!
theorem a2_false_6 (post : List Nat) : okA 4 ([36, 43, 123, 125] ++ 46 :: post) false = true := by kernel_rfl!
theorem a3_false_6 : (([.x [36, 43], .t [123], .t [125], .t [46]] : List PP)).foldl addP [] = (([.x [36, 43], .t [123, 125]] : List PP) ++ [PP.t [46]]).foldl addP [] := by decide +kernel
theorem pc_false_6 (C : Cal O) : PieceOk O W false [36, 43, 123, 125] [.x [36, 43], .t [123, 125]] := piece_n C.n [.x [36, 43], .t [123], .t [125], .t [46]] [.x [36, 43], .t [123, 125]] 4 a1_false_6 a2_false_6 a3_false_6
theorem a1_true_6 (post : List Nat) : atoms 5 ([36, 43, 123, 125] ++ 46 :: post) true = ([.t [36], .t [43], .t [123], .t [125], .t [46]], post) := by kernel_rfl!
theorem a2_true_6 (post : List Nat) : okA 5 ([36, 43, 123, 125] ++ 46 :: post) true = true := by kernel_rfl!
theorem a3_true_6 : (([.t [36], .t [43], .t [123], .t [125], .t [46]] : List PP)).foldl addP [] = (([.t [36, 43, 123, 125]] : List PP) ++ [PP.t [46]]).foldl addP [] := by decide +kernel
theorem pc_true_6 (C : Cal O) : PieceOk O W true [36, 43, 123, 125] [.t [36, 43, 123, 125]] := piece_n C.n [.t [36], .t [43], .t [123], .t [125], .t [46]] [.t [36, 43, 123, 125]] 5 a1_true_6 a2_true_6 a3_true_6
theorem a1_false_7 (post : List Nat) : atoms 6 ([36, 43, 32, 123, 120, 125] ++ 46 :: post) false = ([.x [36, 43], .t [32], .t [123], .t [120], .t [125], .t [46]], post) := by kernel_rfl!
theorem a2_false_7 (post : List Nat) : okA 6 ([36, 43, 32, 123, 120, 125] ++ 46 :: post) false = true := by kernel_rfl!
theorem a3_false_7 : (([.x [36, 43], .t [32], .t [123], .t [120], .t [125], .t [46]] : List PP)).foldl addP [] = (([.x [36, 43], .t [32, 123, 120, 125]] : List PP) ++ [PP.t [46]]).foldl addP [] := by decide +kernel
theorem pc_false_7 (C : Cal O) : PieceOk O W false [36, 43, 32, 123, 120, 125] [.x [36, 43], .t [32, 123, 120, 125]] := piece_n C.n [.x [36, 43], .t [32], .t [123], .t [120], .t [125], .t [46]] [.x [36, 43], .t [32, 123, 120, 125]] 6 a1_false_7 a2_false_7 a3_false_7
theorem a1_true_7 (post : List Nat) : atoms 7 ([36, 43, 32, 123, 120, 125] ++ 46 :: post) true = ([.t [36], .t [43], .t [32], .t [123], .t [120], .t [125], .t [46]], post) := by kernel_rfl!
theorem a2_true_7 (post : List Nat) : okA 7 ([36, 43, 32, 123, 120, 125] ++ 46 :: post) true = true := by kernel_rfl!
theorem a3_true_7 : (([.t [36], .t [43], .t [32], .t [123], .t [120], .t [125], .t [46]] : List PP)).foldl addP [] = (([.t [36, 43, 32, 123, 120, 125]] : List PP) ++ [PP.t [46]]).foldl addP [] := by decide +kernel
theorem pc_true_7 (C : Cal O) : PieceOk O W true [36, 43, 32, 123, 120, 125] [.t [36, 43, 32, 123, 120, 125]] := piece_n C.n [.t [36], .t [43], .t [32], .t [123], .t [120], .t [125], .t [46]] [.t [36, 43, 32, 123, 120, 125]] 7 a1_true_7 a2_true_7 a3_true_7
theorem a1_false_8 (post : List Nat) : atoms 2 ([36, 43, 45, 62, 123, 120, 125] ++ 46 :: post) false = ([.x [36, 43, 45, 62, 123, 120, 125], .t [46]], post) := by kernel_rfl!
theorem a2_false_8 (post : List Nat) : okA 2 ([36, 43, 45, 62, 123, 120, 125] ++ 46 :: post) false = true := by kernel_rfl!
theorem a3_false_8 : (([.x [36, 43, 45, 62, 123, 120, 125], .t [46]] : List PP)).foldl addP [] = (([.x [36, 43, 45, 62, 123, 120, 125]] : List PP) ++ [PP.t [46]]).foldl addP [] := by decide +kernel
theorem pc_false_8 (C : Cal O) : PieceOk O W false [36, 43, 45, 62, 123, 120, 125] [.x [36, 43, 45, 62, 123, 120, 125]] := piece_n C.n [.x [36, 43, 45, 62, 123, 120, 125], .t [46]] [.x [36, 43, 45, 62, 123, 120, 125]] 2 a1_false_8 a2_false_8 a3_false_8
theorem a1_true_8 (post : List Nat) : atoms 8 ([36, 43, 45, 62, 123, 120, 125] ++ 46 :: post) true = ([.t [36], .t [43], .t [45], .t [62], .t [123], .t [120], .t [125], .t [46]], post) := by kernel_rfl!
theorem a2_true_8 (post : List Nat) : okA 8 ([36, 43, 45, 62, 123, 120, 125] ++ 46 :: post) true = true := by kernel_rfl!
theorem a3_true_8 : (([.t [36], .t [43], .t [45], .t [62], .t [123], .t [120], .t [125], .t [46]] : List PP)).foldl addP [] = (([.t [36, 43, 45, 62, 123, 120, 125]] : List PP) ++ [PP.t [46]]).foldl addP [] := by decide +kernel
theorem pc_true_8 (C : Cal O) : PieceOk O W true [36, 43, 45, 62, 123, 120, 125] [.t [36, 43, 45, 62, 123, 120, 125]] := piece_n C.n [.t [36], .t [43], .t [45], .t [62], .t [123], .t [120], .t [125], .t [46]] [.t [36, 43, 45, 62, 123, 120, 125]] 8 a1_true_8 a2_true_8 a3_true_8
theorem a1_false_9 (post : List Nat) : atoms 3 ([36, 96, 96] ++ 46 :: post) false = ([.x [36, 96], .t [96], .t [46]], post) := by kernel_rfl!
theorem a2_false_9 (post : List Nat) : okA 3 ([36, 96, 96] ++ 46 :: post) false = true := by kernel_rfl!
theorem a3_false_9 : (([.x [36, 96], .t [96], .t [46]] : List PP)).foldl addP [] = (([.x [36, 96], .t [96]] : List PP) ++ [PP.t [46]]).foldl addP [] := by decide +kernel
theorem pc_false_9 (C : Cal O) : PieceOk O W false [36, 96, 96] [.x [36, 96], .t [96]] := piece_n C.n [.x [36, 96], .t [96], .t [46]] [.x [36, 96], .t [96]] 3 a1_false_9 a2_false_9 a3_false_9
theorem a1_true_9 (post : List Nat) : atoms 4 ([36, 96, 96] ++ 46 :: post) true = ([.t [36], .t [96], .t [96], .t [46]], post) := by kernel_rfl!
theorem a2_true_9 (post : List Nat) : okA 4 ([36, 96, 96] ++ 46 :: post) true = true := by kernel_rfl!
theorem a3_true_9 : (([.t [36], .t [96], .t [96], .t [46]] : List PP)).foldl addP [] = (([.t [36, 96, 96]] : List PP) ++ [PP.t [46]]).foldl addP [] := by decide +kernel
theorem pc_true_9 (C : Cal O) : PieceOk O W true [36, 96, 96] [.t [36, 96, 96]] := piece_n C.n [.t [36], .t [96], .t [96], .t [46]] [.t [36, 96, 96]] 4 a1_true_9 a2_true_9 a3_true_9
theorem a1_false_10 (post : List Nat) : atoms 6 ([36, 39, 39, 91, 48, 93] ++ 46 :: post) false = ([.x [36, 39], .t [39], .t [91], .t [48], .t [93], .t [46]], post) := by kernel_rfl!
theorem a2_false_10 (post : List Nat) : okA 6 ([36, 39, 39, 91, 48, 93] ++ 46 :: post) false = true := by kernel_rfl!
theorem a3_false_10 : (([.x [36, 39], .t [39], .t [91], .t [48], .t [93], .t [46]] : List PP)).foldl addP [] = (([.x [36, 39], .t [39, 91, 48, 93]] : List PP) ++ [PP.t [46]]).foldl addP [] := by decide +kernel
theorem pc_false_10 (C : Cal O) : PieceOk O W false [36, 39, 39, 91, 48, 93] [.x [36, 39], .t [39, 91, 48, 93]] := piece_n C.n [.x [36, 39], .t [39], .t [91], .t [48], .t [93], .t [46]] [.x [36, 39], .t [39, 91, 48, 93]] 6 a1_false_10 a2_false_10 a3_false_10
theorem a1_true_10 (post : List Nat) : atoms 7 ([36, 39, 39, 91, 48, 93] ++ 46 :: post) true = ([.t [36], .t [39], .t [39], .t [91], .t [48], .t [93], .t [46]], post) := by kernel_rfl!
theorem a2_true_10 (post : List Nat) : okA 7 ([36, 39, 39, 91, 48, 93] ++ 46 :: post) true = true := by kernel_rfl!
theorem a3_true_10 : (([.t [36], .t [39], .t [39], .t [91], .t [48], .t [93], .t [46]] : List PP)).foldl addP [] = (([.t [36, 39, 39, 91, 48, 93]] : List PP) ++ [PP.t [46]]).foldl addP [] := by decide +kernel
theorem pc_true_10 (C : Cal O) : PieceOk O W true [36, 39, 39, 91, 48, 93] [.t [36, 39, 39, 91, 48, 93]] := piece_n C.n [.t [36], .t [39], .t [39], .t [91], .t [48], .t [93], .t [46]] [.t [36, 39, 39, 91, 48, 93]] 7 a1_true_10 a2_true_10 a3_true_10
theorem a1_false_11 (post : List Nat) : atoms 3 ([36, 43, 123, 32, 121, 32, 125, 123, 122, 125, 43] ++ 46 :: post) false = ([.x [36, 43, 123, 32, 121, 32, 125, 123, 122, 125], .t [43], .t [46]], post) := by kernel_rfl!
theorem a2_false_11 (post : List Nat) : okA 3 ([36, 43, 123, 32, 121, 32, 125, 123, 122, 125, 43] ++ 46 :: post) false = true := by kernel_rfl!
theorem a3_false_11 : (([.x [36, 43, 123, 32, 121, 32, 125, 123, 122, 125], .t [43], .t [46]] : List PP)).foldl addP [] = (([.x [36, 43, 123, 32, 121, 32, 125, 123, 122, 125], .t [43]] : List PP) ++ [PP.t [46]]).foldl addP [] := by decide +kernel
theorem pc_false_11 (C : Cal O) : PieceOk O W false [36, 43, 123, 32, 121, 32, 125, 123, 122, 125, 43] [.x [36, 43, 123, 32, 121, 32, 125, 123, 122, 125], .t [43]] := piece_n C.n [.x [36, 43, 123, 32, 121, 32, 125, 123, 122, 125], .t [43], .t [46]] [.x [36, 43, 123, 32, 121, 32, 125, 123, 122, 125], .t [43]] 3 a1_false_11 a2_false_11 a3_false_11
theorem a1_true_11 (post : List Nat) : atoms 12 ([36, 43, 123, 32, 121, 32, 125, 123, 122, 125, 43] ++ 46 :: post) true = ([.t [36], .t [43], .t [123], .t [32], .t [121], .t [32], .t [125], .t [123], .t [122], .t [125], .t [43], .t [46]], post) := by kernel_rfl!
theorem a2_true_11 (post : List Nat) : okA 12 ([36, 43, 123, 32, 121, 32, 125, 123, 122, 125, 43] ++ 46 :: post) true = true := by kernel_rfl!
theorem a3_true_11 : (([.t [36], .t [43], .t [123], .t [32], .t [121], .t [32], .t [125], .t [123], .t [122], .t [125], .t [43], .t [46]] : List PP)).foldl addP [] = (([.t [36, 43, 123, 32, 121, 32, 125, 123, 122, 125, 43]] : List PP) ++ [PP.t [46]]).foldl addP [] := by decide +kernel
theorem pc_true_11 (C : Cal O) : PieceOk O W true [36, 43, 123, 32, 121, 32, 125, 123, 122, 125, 43] [.t [36, 43, 123, 32, 121, 32, 125, 123, 122, 125, 43]] := piece_n C.n [.t [36], .t [43], .t [123], .t [32], .t [121], .t [32], .t [125], .t [123], .t [122], .t [125], .t [43], .t [46]] [.t [36, 43, 123, 32, 121, 32, 125, 123, 122, 125, 43]] 12 a1_true_11 a2_true_11 a3_true_11
theorem a1_false_12 (post : List Nat) : atoms 4 ([43, 39, 96] ++ 46 :: post) false = ([.t [43], .t [39], .t [96], .t [46]], post) := by kernel_rfl!
theorem a2_false_12 (post : List Nat) : okA 4 ([43, 39, 96] ++ 46 :: post) false = true := by kernel_rfl!
theorem a3_false_12 : (([.t [43], .t [39], .t [96], .t [46]] : List PP)).foldl addP [] = (([.t [43, 39, 96]] : List PP) ++ [PP.t [46]]).foldl addP [] := by decide +kernel
theorem pc_false_12 (C : Cal O) : PieceOk O W false [43, 39, 96] [.t [43, 39, 96]] := piece_n C.n [.t [43], .t [39], .t [96], .t [46]] [.t [43, 39, 96]] 4 a1_false_12 a2_false_12 a3_false_12
theorem a1_true_12 (post : List Nat) : atoms 4 ([43, 39, 96] ++ 46 :: post) true = ([.t [43], .t [39], .t [96], .t [46]], post) := by kernel_rfl!
theorem a2_true_12 (post : List Nat) : okA 4 ([43, 39, 96] ++ 46 :: post) true = true := by kernel_rfl!
theorem a3_true_12 : (([.t [43], .t [39], .t [96], .t [46]] : List PP)).foldl addP [] = (([.t [43, 39, 96]] : List PP) ++ [PP.t [46]]).foldl addP [] := by decide +kernel
theorem pc_true_12 (C : Cal O) : PieceOk O W true [43, 39, 96] [.t [43, 39, 96]] := piece_n C.n [.t [43], .t [39], .t [96], .t [46]] [.t [43, 39, 96]] 4 a1_true_12 a2_true_12 a3_true_12
theorem a1_false_13 (post : List Nat) : atoms 3 ([36, 43, 36, 43] ++ 46 :: post) false = ([.x [36, 43], .x [36, 43], .t [46]], post) := by kernel_rfl!
theorem a2_false_13 (post : List Nat) : okA 3 ([36, 43, 36, 43] ++ 46 :: post) false = true := by kernel_rfl!
theorem a3_false_13 : (([.x [36, 43], .x [36, 43], .t [46]] : List PP)).foldl addP [] = (([.x [36, 43], .x [36, 43]] : List PP) ++ [PP.t [46]]).foldl addP [] := by decide +kernel
theorem pc_false_13 (C : Cal O) : PieceOk O W false [36, 43, 36, 43] [.x [36, 43], .x [36, 43]] := piece_n C.n [.x [36, 43], .x [36, 43], .t [46]] [.x [36, 43], .x [36, 43]] 3 a1_false_13 a2_false_13 a3_false_13
theorem a1_true_13 (post : List Nat) : atoms 5 ([36, 43, 36, 43] ++ 46 :: post) true = ([.t [36], .t [43], .t [36], .t [43], .t [46]], post) := by kernel_rfl!
theorem a2_true_13 (post : List Nat) : okA 5 ([36, 43, 36, 43] ++ 46 :: post) true = true := by kernel_rfl!
theorem a3_true_13 : (([.t [36], .t [43], .t [36], .t [43], .t [46]] : List PP)).foldl addP [] = (([.t [36, 43, 36, 43]] : List PP) ++ [PP.t [46]]).foldl addP [] := by decide +kernel
theorem pc_true_13 (C : Cal O) : PieceOk O W true [36, 43, 36, 43] [.t [36, 43, 36, 43]] := piece_n C.n [.t [36], .t [43], .t [36], .t [43], .t [46]] [.t [36, 43, 36, 43]] 5 a1_true_13 a2_true_13 a3_true_13
theorem a1_false_14 (post : List Nat) : atoms 2 ([36, 124] ++ 46 :: post) false = ([.x [36, 124], .t [46]], post) := by kernel_rfl!
theorem a2_false_14 (post : List Nat) : okA 2 ([36, 124] ++ 46 :: post) false = true := by kernel_rfl!
theorem a3_false_14 : (([.x [36, 124], .t [46]] : List PP)).foldl addP [] = (([.x [36, 124]] : List PP) ++ [PP.t [46]]).foldl addP [] := by decide +kernel
theorem pc_false_14 (C : Cal O) : PieceOk O W false [36, 124] [.x [36, 124]] := piece_n C.n [.x [36, 124], .t [46]] [.x [36, 124]] 2 a1_false_14 a2_false_14 a3_false_14
theorem a1_true_14 (post : List Nat) : atoms 3 ([36, 124] ++ 46 :: post) true = ([.t [36], .t [124], .t [46]], post) := by kernel_rfl!
theorem a2_true_14 (post : List Nat) : okA 3 ([36, 124] ++ 46 :: post) true = true := by kernel_rfl!
theorem a3_true_14 : (([.t [36], .t [124], .t [46]] : List PP)).foldl addP [] = (([.t [36, 124]] : List PP) ++ [PP.t [46]]).foldl addP [] := by decide +kernel
theorem pc_true_14 (C : Cal O) : PieceOk O W true [36, 124] [.t [36, 124]] := piece_n C.n [.t [36], .t [124], .t [46]] [.t [36, 124]] 3 a1_true_14 a2_true_14 a3_true_14
theorem a1_false_15 (post : List Nat) : atoms 5 ([36, 123, 120, 125, 91, 48, 93] ++ 46 :: post) false = ([.x [36, 123, 120, 125], .t [91], .t [48], .t [93], .t [46]], post) := by kernel_rfl!
theorem a2_false_15 (post : List Nat) : okA 5 ([36, 123, 120, 125, 91, 48, 93] ++ 46 :: post) false = true := by kernel_rfl!
theorem a3_false_15 : (([.x [36, 123, 120, 125], .t [91], .t [48], .t [93], .t [46]] : List PP)).foldl addP [] = (([.x [36, 123, 120, 125], .t [91, 48, 93]] : List PP) ++ [PP.t [46]]).foldl addP [] := by decide +kernel
theorem pc_false_15 (C : Cal O) : PieceOk O W false [36, 123, 120, 125, 91, 48, 93] [.x [36, 123, 120, 125], .t [91, 48, 93]] := piece_n C.n [.x [36, 123, 120, 125], .t [91], .t [48], .t [93], .t [46]] [.x [36, 123, 120, 125], .t [91, 48, 93]] 5 a1_false_15 a2_false_15 a3_false_15
theorem a1_true_15 (post : List Nat) : atoms 5 ([36, 123, 120, 125, 91, 48, 93] ++ 46 :: post) true = ([.x [36, 123, 120, 125], .t [91], .t [48], .t [93], .t [46]], post) := by kernel_rfl!
theorem a2_true_15 (post : List Nat) : okA 5 ([36, 123, 120, 125, 91, 48, 93] ++ 46 :: post) true = true := by kernel_rfl!
theorem a3_true_15 : (([.x [36, 123, 120, 125], .t [91], .t [48], .t [93], .t [46]] : List PP)).foldl addP [] = (([.x [36, 123, 120, 125], .t [91, 48, 93]] : List PP) ++ [PP.t [46]]).foldl addP [] := by decide +kernel
theorem pc_true_15 (C : Cal O) : PieceOk O W true [36, 123, 120, 125, 91, 48, 93] [.x [36, 123, 120, 125], .t [91, 48, 93]] := piece_n C.n [.x [36, 123, 120, 125], .t [91], .t [48], .t [93], .t [46]] [.x [36, 123, 120, 125], .t [91, 48, 93]] 5 a1_true_15 a2_true_15 a3_true_15
theorem a1_false_16 (post : List Nat) : atoms 5 ([36, 123, 120, 125, 123, 107, 125] ++ 46 :: post) false = ([.x [36, 123, 120, 125], .t [123], .t [107], .t [125], .t [46]], post) := by kernel_rfl!
theorem a2_false_16 (post : List Nat) : okA 5 ([36, 123, 120, 125, 123, 107, 125] ++ 46 :: post) false = true := by kernel_rfl!
theorem a3_false_16 : (([.x [36, 123, 120, 125], .t [123], .t [107], .t [125], .t [46]] : List PP)).foldl addP [] = (([.x [36, 123, 120, 125], .t [123, 107, 125]] : List PP) ++ [PP.t [46]]).foldl addP [] := by decide +kernel
theorem pc_false_16 (C : Cal O) : PieceOk O W false [36, 123, 120, 125, 123, 107, 125] [.x [36, 123, 120, 125], .t [123, 107, 125]] := piece_n C.n [.x [36, 123, 120, 125], .t [123], .t [107], .t [125], .t [46]] [.x [36, 123, 120, 125], .t [123, 107, 125]] 5 a1_false_16 a2_false_16 a3_false_16
theorem a1_true_16 (post : List Nat) : atoms 5 ([36, 123, 120, 125, 123, 107, 125] ++ 46 :: post) true = ([.x [36, 123, 120, 125], .t [123], .t [107], .t [125], .t [46]], post) := by kernel_rfl!
theorem a2_true_16 (post : List Nat) : okA 5 ([36, 123, 120, 125, 123, 107, 125] ++ 46 :: post) true = true := by kernel_rfl!
theorem a3_true_16 : (([.x [36, 123, 120, 125], .t [123], .t [107], .t [125], .t [46]] : List PP)).foldl addP [] = (([.x [36, 123, 120, 125], .t [123, 107, 125]] : List PP) ++ [PP.t [46]]).foldl addP [] := by decide +kernel
theorem pc_true_16 (C : Cal O) : PieceOk O W true [36, 123, 120, 125, 123, 107, 125] [.x [36, 123, 120, 125], .t [123, 107, 125]] := piece_n C.n [.x [36, 123, 120, 125], .t [123], .t [107], .t [125], .t [46]] [.x [36, 123, 120, 125], .t [123, 107, 125]] 5 a1_true_16 a2_true_16 a3_true_16
theorem a1_false_17 (post : List Nat) : atoms 5 ([64, 123, 120, 125, 91, 48, 93] ++ 46 :: post) false = ([.x [64, 123, 120, 125], .t [91], .t [48], .t [93], .t [46]], post) := by kernel_rfl!
theorem a2_false_17 (post : List Nat) : okA 5 ([64, 123, 120, 125, 91, 48, 93] ++ 46 :: post) false = true := by kernel_rfl!
theorem a3_false_17 : (([.x [64, 123, 120, 125], .t [91], .t [48], .t [93], .t [46]] : List PP)).foldl addP [] = (([.x [64, 123, 120, 125], .t [91, 48, 93]] : List PP) ++ [PP.t [46]]).foldl addP [] := by decide +kernel
theorem pc_false_17 (C : Cal O) : PieceOk O W false [64, 123, 120, 125, 91, 48, 93] [.x [64, 123, 120, 125], .t [91, 48, 93]] := piece_n C.n [.x [64, 123, 120, 125], .t [91], .t [48], .t [93], .t [46]] [.x [64, 123, 120, 125], .t [91, 48, 93]] 5 a1_false_17 a2_false_17 a3_false_17
theorem a1_true_17 (post : List Nat) : atoms 5 ([64, 123, 120, 125, 91, 48, 93] ++ 46 :: post) true = ([.x [64, 123, 120, 125], .t [91], .t [48], .t [93], .t [46]], post) := by kernel_rfl!
theorem a2_true_17 (post : List Nat) : okA 5 ([64, 123, 120, 125, 91, 48, 93] ++ 46 :: post) true = true := by kernel_rfl!
theorem a3_true_17 : (([.x [64, 123, 120, 125], .t [91], .t [48], .t [93], .t [46]] : List PP)).foldl addP [] = (([.x [64, 123, 120, 125], .t [91, 48, 93]] : List PP) ++ [PP.t [46]]).foldl addP [] := by decide +kernel
theorem pc_true_17 (C : Cal O) : PieceOk O W true [64, 123, 120, 125, 91, 48, 93] [.x [64, 123, 120, 125], .t [91, 48, 93]] := piece_n C.n [.x [64, 123, 120, 125], .t [91], .t [48], .t [93], .t [46]] [.x [64, 123, 120, 125], .t [91, 48, 93]] 5 a1_true_17 a2_true_17 a3_true_17
theorem a1_false_18 (post : List Nat) : atoms 5 ([36, 123, 32, 65, 58, 58, 98, 9, 125, 91, 49, 93] ++ 46 :: post) false = ([.x [36, 123, 32, 65, 58, 58, 98, 9, 125], .t [91], .t [49], .t [93], .t [46]], post) := by kernel_rfl!
theorem a2_false_18 (post : List Nat) : okA 5 ([36, 123, 32, 65, 58, 58, 98, 9, 125, 91, 49, 93] ++ 46 :: post) false = true := by kernel_rfl!
theorem a3_false_18 : (([.x [36, 123, 32, 65, 58, 58, 98, 9, 125], .t [91], .t [49], .t [93], .t [46]] : List PP)).foldl addP [] = (([.x [36, 123, 32, 65, 58, 58, 98, 9, 125], .t [91, 49, 93]] : List PP) ++ [PP.t [46]]).foldl addP [] := by decide +kernel
theorem pc_false_18 (C : Cal O) : PieceOk O W false [36, 123, 32, 65, 58, 58, 98, 9, 125, 91, 49, 93] [.x [36, 123, 32, 65, 58, 58, 98, 9, 125], .t [91, 49, 93]] := piece_n C.n [.x [36, 123, 32, 65, 58, 58, 98, 9, 125], .t [91], .t [49], .t [93], .t [46]] [.x [36, 123, 32, 65, 58, 58, 98, 9, 125], .t [91, 49, 93]] 5 a1_false_18 a2_false_18 a3_false_18
theorem a1_true_18 (post : List Nat) : atoms 5 ([36, 123, 32, 65, 58, 58, 98, 9, 125, 91, 49, 93] ++ 46 :: post) true = ([.x [36, 123, 32, 65, 58, 58, 98, 9, 125], .t [91], .t [49], .t [93], .t [46]], post) := by kernel_rfl!
theorem a2_true_18 (post : List Nat) : okA 5 ([36, 123, 32, 65, 58, 58, 98, 9, 125, 91, 49, 93] ++ 46 :: post) true = true := by kernel_rfl!
theorem a3_true_18 : (([.x [36, 123, 32, 65, 58, 58, 98, 9, 125], .t [91], .t [49], .t [93], .t [46]] : List PP)).foldl addP [] = (([.x [36, 123, 32, 65, 58, 58, 98, 9, 125], .t [91, 49, 93]] : List PP) ++ [PP.t [46]]).foldl addP [] := by decide +kernel
theorem pc_true_18 (C : Cal O) : PieceOk O W true [36, 123, 32, 65, 58, 58, 98, 9, 125, 91, 49, 93] [.x [36, 123, 32, 65, 58, 58, 98, 9, 125], .t [91, 49, 93]] := piece_n C.n [.x [36, 123, 32, 65, 58, 58, 98, 9, 125], .t [91], .t [49], .t [93], .t [46]] [.x [36, 123, 32, 65, 58, 58, 98, 9, 125], .t [91, 49, 93]] 5 a1_true_18 a2_true_18 a3_true_18
theorem a1_false_19 (post : List Nat) : atoms 5 ([36, 123, 49, 50, 125, 123, 107, 125] ++ 46 :: post) false = ([.x [36, 123, 49, 50, 125], .t [123], .t [107], .t [125], .t [46]], post) := by kernel_rfl!
theorem a2_false_19 (post : List Nat) : okA 5 ([36, 123, 49, 50, 125, 123, 107, 125] ++ 46 :: post) false = true := by kernel_rfl!
theorem a3_false_19 : (([.x [36, 123, 49, 50, 125], .t [123], .t [107], .t [125], .t [46]] : List PP)).foldl addP [] = (([.x [36, 123, 49, 50, 125], .t [123, 107, 125]] : List PP) ++ [PP.t [46]]).foldl addP [] := by decide +kernel
theorem pc_false_19 (C : Cal O) : PieceOk O W false [36, 123, 49, 50, 125, 123, 107, 125] [.x [36, 123, 49, 50, 125], .t [123, 107, 125]] := piece_n C.n [.x [36, 123, 49, 50, 125], .t [123], .t [107], .t [125], .t [46]] [.x [36, 123, 49, 50, 125], .t [123, 107, 125]] 5 a1_false_19 a2_false_19 a3_false_19
theorem a1_true_19 (post : List Nat) : atoms 5 ([36, 123, 49, 50, 125, 123, 107, 125] ++ 46 :: post) true = ([.x [36, 123, 49, 50, 125], .t [123], .t [107], .t [125], .t [46]], post) := by kernel_rfl!
theorem a2_true_19 (post : List Nat) : okA 5 ([36, 123, 49, 50, 125, 123, 107, 125] ++ 46 :: post) true = true := by kernel_rfl!
theorem a3_true_19 : (([.x [36, 123, 49, 50, 125], .t [123], .t [107], .t [125], .t [46]] : List PP)).foldl addP [] = (([.x [36, 123, 49, 50, 125], .t [123, 107, 125]] : List PP) ++ [PP.t [46]]).foldl addP [] := by decide +kernel
theorem pc_true_19 (C : Cal O) : PieceOk O W true [36, 123, 49, 50, 125, 123, 107, 125] [.x [36, 123, 49, 50, 125], .t [123, 107, 125]] := piece_n C.n [.x [36, 123, 49, 50, 125], .t [123], .t [107], .t [125], .t [46]] [.x [36, 123, 49, 50, 125], .t [123, 107, 125]] 5 a1_true_19 a2_true_19 a3_true_19
theorem a1_false_20 (post : List Nat) : atoms 2 ([36, 123, 120, 125, 45, 62, 91, 48, 93, 123, 107, 125] ++ 46 :: post) false = ([.x [36, 123, 120, 125, 45, 62, 91, 48, 93, 123, 107, 125], .t [46]], post) := by kernel_rfl!
theorem a2_false_20 (post : List Nat) : okA 2 ([36, 123, 120, 125, 45, 62, 91, 48, 93, 123, 107, 125] ++ 46 :: post) false = true := by kernel_rfl!
theorem a3_false_20 : (([.x [36, 123, 120, 125, 45, 62, 91, 48, 93, 123, 107, 125], .t [46]] : List PP)).foldl addP [] = (([.x [36, 123, 120, 125, 45, 62, 91, 48, 93, 123, 107, 125]] : List PP) ++ [PP.t [46]]).foldl addP [] := by decide +kernel
theorem pc_false_20 (C : Cal O) : PieceOk O W false [36, 123, 120, 125, 45, 62, 91, 48, 93, 123, 107, 125] [.x [36, 123, 120, 125, 45, 62, 91, 48, 93, 123, 107, 125]] := piece_n C.n [.x [36, 123, 120, 125, 45, 62, 91, 48, 93, 123, 107, 125], .t [46]] [.x [36, 123, 120, 125, 45, 62, 91, 48, 93, 123, 107, 125]] 2 a1_false_20 a2_false_20 a3_false_20
theorem a1_true_20 (post : List Nat) : atoms 2 ([36, 123, 120, 125, 45, 62, 91, 48, 93, 123, 107, 125] ++ 46 :: post) true = ([.x [36, 123, 120, 125, 45, 62, 91, 48, 93, 123, 107, 125], .t [46]], post) := by kernel_rfl!
theorem a2_true_20 (post : List Nat) : okA 2 ([36, 123, 120, 125, 45, 62, 91, 48, 93, 123, 107, 125] ++ 46 :: post) true = true := by kernel_rfl!
theorem a3_true_20 : (([.x [36, 123, 120, 125, 45, 62, 91, 48, 93, 123, 107, 125], .t [46]] : List PP)).foldl addP [] = (([.x [36, 123, 120, 125, 45, 62, 91, 48, 93, 123, 107, 125]] : List PP) ++ [PP.t [46]]).foldl addP [] := by decide +kernel
theorem pc_true_20 (C : Cal O) : PieceOk O W true [36, 123, 120, 125, 45, 62, 91, 48, 93, 123, 107, 125] [.x [36, 123, 120, 125, 45, 62, 91, 48, 93, 123, 107, 125]] := piece_n C.n [.x [36, 123, 120, 125, 45, 62, 91, 48, 93, 123, 107, 125], .t [46]] [.x [36, 123, 120, 125, 45, 62, 91, 48, 93, 123, 107, 125]] 2 a1_true_20 a2_true_20 a3_true_20
theorem a1_false_21 (post : List Nat) : atoms 2 ([36, 123, 36, 114, 125, 123, 107, 125, 91, 50, 93] ++ 46 :: post) false = ([.x [36, 123, 36, 114, 125, 123, 107, 125, 91, 50, 93], .t [46]], post) := by kernel_rfl!
theorem a2_false_21 (post : List Nat) : okA 2 ([36, 123, 36, 114, 125, 123, 107, 125, 91, 50, 93] ++ 46 :: post) false = true := by kernel_rfl!
theorem a3_false_21 : (([.x [36, 123, 36, 114, 125, 123, 107, 125, 91, 50, 93], .t [46]] : List PP)).foldl addP [] = (([.x [36, 123, 36, 114, 125, 123, 107, 125, 91, 50, 93]] : List PP) ++ [PP.t [46]]).foldl addP [] := by decide +kernel
theorem pc_false_21 (C : Cal O) : PieceOk O W false [36, 123, 36, 114, 125, 123, 107, 125, 91, 50, 93] [.x [36, 123, 36, 114, 125, 123, 107, 125, 91, 50, 93]] := piece_n C.n [.x [36, 123, 36, 114, 125, 123, 107, 125, 91, 50, 93], .t [46]] [.x [36, 123, 36, 114, 125, 123, 107, 125, 91, 50, 93]] 2 a1_false_21 a2_false_21 a3_false_21
theorem a1_true_21 (post : List Nat) : atoms 2 ([36, 123, 36, 114, 125, 123, 107, 125, 91, 50, 93] ++ 46 :: post) true = ([.x [36, 123, 36, 114, 125, 123, 107, 125, 91, 50, 93], .t [46]], post) := by kernel_rfl!
theorem a2_true_21 (post : List Nat) : okA 2 ([36, 123, 36, 114, 125, 123, 107, 125, 91, 50, 93] ++ 46 :: post) true = true := by kernel_rfl!
theorem a3_true_21 : (([.x [36, 123, 36, 114, 125, 123, 107, 125, 91, 50, 93], .t [46]] : List PP)).foldl addP [] = (([.x [36, 123, 36, 114, 125, 123, 107, 125, 91, 50, 93]] : List PP) ++ [PP.t [46]]).foldl addP [] := by decide +kernel
theorem pc_true_21 (C : Cal O) : PieceOk O W true [36, 123, 36, 114, 125, 123, 107, 125, 91, 50, 93] [.x [36, 123, 36, 114, 125, 123, 107, 125, 91, 50, 93]] := piece_n C.n [.x [36, 123, 36, 114, 125, 123, 107, 125, 91, 50, 93], .t [46]] [.x [36, 123, 36, 114, 125, 123, 107, 125, 91, 50, 93]] 2 a1_true_21 a2_true_21 a3_true_21
theorem a1_false_22 (post : List Nat) : atoms 2 ([64, 123, 36, 114, 125, 91, 48, 93] ++ 46 :: post) false = ([.x [64, 123, 36, 114, 125, 91, 48, 93], .t [46]], post) := by kernel_rfl!
theorem a2_false_22 (post : List Nat) : okA 2 ([64, 123, 36, 114, 125, 91, 48, 93] ++ 46 :: post) false = true := by kernel_rfl!
theorem a3_false_22 : (([.x [64, 123, 36, 114, 125, 91, 48, 93], .t [46]] : List PP)).foldl addP [] = (([.x [64, 123, 36, 114, 125, 91, 48, 93]] : List PP) ++ [PP.t [46]]).foldl addP [] := by decide +kernel
theorem pc_false_22 (C : Cal O) : PieceOk O W false [64, 123, 36, 114, 125, 91, 48, 93] [.x [64, 123, 36, 114, 125, 91, 48, 93]] := piece_n C.n [.x [64, 123, 36, 114, 125, 91, 48, 93], .t [46]] [.x [64, 123, 36, 114, 125, 91, 48, 93]] 2 a1_false_22 a2_false_22 a3_false_22
theorem a1_true_22 (post : List Nat) : atoms 2 ([64, 123, 36, 114, 125, 91, 48, 93] ++ 46 :: post) true = ([.x [64, 123, 36, 114, 125, 91, 48, 93], .t [46]], post) := by kernel_rfl!
theorem a2_true_22 (post : List Nat) : okA 2 ([64, 123, 36, 114, 125, 91, 48, 93] ++ 46 :: post) true = true := by kernel_rfl!
theorem a3_true_22 : (([.x [64, 123, 36, 114, 125, 91, 48, 93], .t [46]] : List PP)).foldl addP [] = (([.x [64, 123, 36, 114, 125, 91, 48, 93]] : List PP) ++ [PP.t [46]]).foldl addP [] := by decide +kernel
theorem pc_true_22 (C : Cal O) : PieceOk O W true [64, 123, 36, 114, 125, 91, 48, 93] [.x [64, 123, 36, 114, 125, 91, 48, 93]] := piece_n C.n [.x [64, 123, 36, 114, 125, 91, 48, 93], .t [46]] [.x [64, 123, 36, 114, 125, 91, 48, 93]] 2 a1_true_22 a2_true_22 a3_true_22
theorem a1_false_23 (post : List Nat) : atoms 6 ([36, 123, 120, 125, 45, 91, 48, 93] ++ 46 :: post) false = ([.x [36, 123, 120, 125], .t [45], .t [91], .t [48], .t [93], .t [46]], post) := by kernel_rfl!
theorem a2_false_23 (post : List Nat) : okA 6 ([36, 123, 120, 125, 45, 91, 48, 93] ++ 46 :: post) false = true := by kernel_rfl!
theorem a3_false_23 : (([.x [36, 123, 120, 125], .t [45], .t [91], .t [48], .t [93], .t [46]] : List PP)).foldl addP [] = (([.x [36, 123, 120, 125], .t [45, 91, 48, 93]] : List PP) ++ [PP.t [46]]).foldl addP [] := by decide +kernel
theorem pc_false_23 (C : Cal O) : PieceOk O W false [36, 123, 120, 125, 45, 91, 48, 93] [.x [36, 123, 120, 125], .t [45, 91, 48, 93]] := piece_n C.n [.x [36, 123, 120, 125], .t [45], .t [91], .t [48], .t [93], .t [46]] [.x [36, 123, 120, 125], .t [45, 91, 48, 93]] 6 a1_false_23 a2_false_23 a3_false_23
theorem a1_true_23 (post : List Nat) : atoms 6 ([36, 123, 120, 125, 45, 91, 48, 93] ++ 46 :: post) true = ([.x [36, 123, 120, 125], .t [45], .t [91], .t [48], .t [93], .t [46]], post) := by kernel_rfl!
theorem a2_true_23 (post : List Nat) : okA 6 ([36, 123, 120, 125, 45, 91, 48, 93] ++ 46 :: post) true = true := by kernel_rfl!
theorem a3_true_23 : (([.x [36, 123, 120, 125], .t [45], .t [91], .t [48], .t [93], .t [46]] : List PP)).foldl addP [] = (([.x [36, 123, 120, 125], .t [45, 91, 48, 93]] : List PP) ++ [PP.t [46]]).foldl addP [] := by decide +kernel
theorem pc_true_23 (C : Cal O) : PieceOk O W true [36, 123, 120, 125, 45, 91, 48, 93] [.x [36, 123, 120, 125], .t [45, 91, 48, 93]] := piece_n C.n [.x [36, 123, 120, 125], .t [45], .t [91], .t [48], .t [93], .t [46]] [.x [36, 123, 120, 125], .t [45, 91, 48, 93]] 6 a1_true_23 a2_true_23 a3_true_23
theorem a1_false_24 (post : List Nat) : atoms 2 ([36, 49, 91, 48, 93] ++ 46 :: post) false = ([.x [36, 49, 91, 48, 93], .t [46]], post) := by kernel_rfl!
theorem a2_false_24 (post : List Nat) : okA 2 ([36, 49, 91, 48, 93] ++ 46 :: post) false = true := by kernel_rfl!
theorem a3_false_24 : (([.x [36, 49, 91, 48, 93], .t [46]] : List PP)).foldl addP [] = (([.x [36, 49, 91, 48, 93]] : List PP) ++ [PP.t [46]]).foldl addP [] := by decide +kernel
theorem pc_false_24 (C : Cal O) : PieceOk O W false [36, 49, 91, 48, 93] [.x [36, 49, 91, 48, 93]] := piece_n C.n [.x [36, 49, 91, 48, 93], .t [46]] [.x [36, 49, 91, 48, 93]] 2 a1_false_24 a2_false_24 a3_false_24
theorem a1_true_24 (post : List Nat) : atoms 2 ([36, 49, 91, 48, 93] ++ 46 :: post) true = ([.x [36, 49, 91, 48, 93], .t [46]], post) := by kernel_rfl!
theorem a2_true_24 (post : List Nat) : okA 2 ([36, 49, 91, 48, 93] ++ 46 :: post) true = true := by kernel_rfl!
theorem a3_true_24 : (([.x [36, 49, 91, 48, 93], .t [46]] : List PP)).foldl addP [] = (([.x [36, 49, 91, 48, 93]] : List PP) ++ [PP.t [46]]).foldl addP [] := by decide +kernel
theorem pc_true_24 (C : Cal O) : PieceOk O W true [36, 49, 91, 48, 93] [.x [36, 49, 91, 48, 93]] := piece_n C.n [.x [36, 49, 91, 48, 93], .t [46]] [.x [36, 49, 91, 48, 93]] 2 a1_true_24 a2_true_24 a3_true_24
theorem a1_false_25 (post : List Nat) : atoms 2 ([36, 50, 51, 123, 107, 125, 45, 62, 91, 49, 93] ++ 46 :: post) false = ([.x [36, 50, 51, 123, 107, 125, 45, 62, 91, 49, 93], .t [46]], post) := by kernel_rfl!
theorem a2_false_25 (post : List Nat) : okA 2 ([36, 50, 51, 123, 107, 125, 45, 62, 91, 49, 93] ++ 46 :: post) false = true := by kernel_rfl!
theorem a3_false_25 : (([.x [36, 50, 51, 123, 107, 125, 45, 62, 91, 49, 93], .t [46]] : List PP)).foldl addP [] = (([.x [36, 50, 51, 123, 107, 125, 45, 62, 91, 49, 93]] : List PP) ++ [PP.t [46]]).foldl addP [] := by decide +kernel
theorem pc_false_25 (C : Cal O) : PieceOk O W false [36, 50, 51, 123, 107, 125, 45, 62, 91, 49, 93] [.x [36, 50, 51, 123, 107, 125, 45, 62, 91, 49, 93]] := piece_n C.n [.x [36, 50, 51, 123, 107, 125, 45, 62, 91, 49, 93], .t [46]] [.x [36, 50, 51, 123, 107, 125, 45, 62, 91, 49, 93]] 2 a1_false_25 a2_false_25 a3_false_25
theorem a1_true_25 (post : List Nat) : atoms 2 ([36, 50, 51, 123, 107, 125, 45, 62, 91, 49, 93] ++ 46 :: post) true = ([.x [36, 50, 51, 123, 107, 125, 45, 62, 91, 49, 93], .t [46]], post) := by kernel_rfl!
theorem a2_true_25 (post : List Nat) : okA 2 ([36, 50, 51, 123, 107, 125, 45, 62, 91, 49, 93] ++ 46 :: post) true = true := by kernel_rfl!
theorem a3_true_25 : (([.x [36, 50, 51, 123, 107, 125, 45, 62, 91, 49, 93], .t [46]] : List PP)).foldl addP [] = (([.x [36, 50, 51, 123, 107, 125, 45, 62, 91, 49, 93]] : List PP) ++ [PP.t [46]]).foldl addP [] := by decide +kernel
theorem pc_true_25 (C : Cal O) : PieceOk O W true [36, 50, 51, 123, 107, 125, 45, 62, 91, 49, 93] [.x [36, 50, 51, 123, 107, 125, 45, 62, 91, 49, 93]] := piece_n C.n [.x [36, 50, 51, 123, 107, 125, 45, 62, 91, 49, 93], .t [46]] [.x [36, 50, 51, 123, 107, 125, 45, 62, 91, 49, 93]] 2 a1_true_25 a2_true_25 a3_true_25
theorem a1_false_26 (post : List Nat) : atoms 2 ([36, 38, 91, 48, 93, 123, 107, 125] ++ 46 :: post) false = ([.x [36, 38, 91, 48, 93, 123, 107, 125], .t [46]], post) := by kernel_rfl!
theorem a2_false_26 (post : List Nat) : okA 2 ([36, 38, 91, 48, 93, 123, 107, 125] ++ 46 :: post) false = true := by kernel_rfl!
theorem a3_false_26 : (([.x [36, 38, 91, 48, 93, 123, 107, 125], .t [46]] : List PP)).foldl addP [] = (([.x [36, 38, 91, 48, 93, 123, 107, 125]] : List PP) ++ [PP.t [46]]).foldl addP [] := by decide +kernel
theorem pc_false_26 (C : Cal O) : PieceOk O W false [36, 38, 91, 48, 93, 123, 107, 125] [.x [36, 38, 91, 48, 93, 123, 107, 125]] := piece_n C.n [.x [36, 38, 91, 48, 93, 123, 107, 125], .t [46]] [.x [36, 38, 91, 48, 93, 123, 107, 125]] 2 a1_false_26 a2_false_26 a3_false_26
theorem a1_true_26 (post : List Nat) : atoms 2 ([36, 38, 91, 48, 93, 123, 107, 125] ++ 46 :: post) true = ([.x [36, 38, 91, 48, 93, 123, 107, 125], .t [46]], post) := by kernel_rfl!
theorem a2_true_26 (post : List Nat) : okA 2 ([36, 38, 91, 48, 93, 123, 107, 125] ++ 46 :: post) true = true := by kernel_rfl!
theorem a3_true_26 : (([.x [36, 38, 91, 48, 93, 123, 107, 125], .t [46]] : List PP)).foldl addP [] = (([.x [36, 38, 91, 48, 93, 123, 107, 125]] : List PP) ++ [PP.t [46]]).foldl addP [] := by decide +kernel
theorem pc_true_26 (C : Cal O) : PieceOk O W true [36, 38, 91, 48, 93, 123, 107, 125] [.x [36, 38, 91, 48, 93, 123, 107, 125]] := piece_n C.n [.x [36, 38, 91, 48, 93, 123, 107, 125], .t [46]] [.x [36, 38, 91, 48, 93, 123, 107, 125]] 2 a1_true_26 a2_true_26 a3_true_26
theorem a1_false_27 (post : List Nat) : atoms 2 ([36, 64, 45, 62, 123, 107, 125] ++ 46 :: post) false = ([.x [36, 64, 45, 62, 123, 107, 125], .t [46]], post) := by kernel_rfl!
theorem a2_false_27 (post : List Nat) : okA 2 ([36, 64, 45, 62, 123, 107, 125] ++ 46 :: post) false = true := by kernel_rfl!
theorem a3_false_27 : (([.x [36, 64, 45, 62, 123, 107, 125], .t [46]] : List PP)).foldl addP [] = (([.x [36, 64, 45, 62, 123, 107, 125]] : List PP) ++ [PP.t [46]]).foldl addP [] := by decide +kernel
theorem pc_false_27 (C : Cal O) : PieceOk O W false [36, 64, 45, 62, 123, 107, 125] [.x [36, 64, 45, 62, 123, 107, 125]] := piece_n C.n [.x [36, 64, 45, 62, 123, 107, 125], .t [46]] [.x [36, 64, 45, 62, 123, 107, 125]] 2 a1_false_27 a2_false_27 a3_false_27
theorem a1_true_27 (post : List Nat) : atoms 2 ([36, 64, 45, 62, 123, 107, 125] ++ 46 :: post) true = ([.x [36, 64, 45, 62, 123, 107, 125], .t [46]], post) := by kernel_rfl!
theorem a2_true_27 (post : List Nat) : okA 2 ([36, 64, 45, 62, 123, 107, 125] ++ 46 :: post) true = true := by kernel_rfl!
theorem a3_true_27 : (([.x [36, 64, 45, 62, 123, 107, 125], .t [46]] : List PP)).foldl addP [] = (([.x [36, 64, 45, 62, 123, 107, 125]] : List PP) ++ [PP.t [46]]).foldl addP [] := by decide +kernel
theorem pc_true_27 (C : Cal O) : PieceOk O W true [36, 64, 45, 62, 123, 107, 125] [.x [36, 64, 45, 62, 123, 107, 125]] := piece_n C.n [.x [36, 64, 45, 62, 123, 107, 125], .t [46]] [.x [36, 64, 45, 62, 123, 107, 125]] 2 a1_true_27 a2_true_27 a3_true_27
theorem a1_false_28 (post : List Nat) : atoms 6 ([36, 38, 43, 123, 120, 125] ++ 46 :: post) false = ([.x [36, 38], .t [43], .t [123], .t [120], .t [125], .t [46]], post) := by kernel_rfl!
theorem a2_false_28 (post : List Nat) : okA 6 ([36, 38, 43, 123, 120, 125] ++ 46 :: post) false = true := by kernel_rfl!
theorem a3_false_28 : (([.x [36, 38], .t [43], .t [123], .t [120], .t [125], .t [46]] : List PP)).foldl addP [] = (([.x [36, 38], .t [43, 123, 120, 125]] : List PP) ++ [PP.t [46]]).foldl addP [] := by decide +kernel
theorem pc_false_28 (C : Cal O) : PieceOk O W false [36, 38, 43, 123, 120, 125] [.x [36, 38], .t [43, 123, 120, 125]] := piece_n C.n [.x [36, 38], .t [43], .t [123], .t [120], .t [125], .t [46]] [.x [36, 38], .t [43, 123, 120, 125]] 6 a1_false_28 a2_false_28 a3_false_28
theorem a1_true_28 (post : List Nat) : atoms 6 ([36, 38, 43, 123, 120, 125] ++ 46 :: post) true = ([.x [36, 38], .t [43], .t [123], .t [120], .t [125], .t [46]], post) := by kernel_rfl!
theorem a2_true_28 (post : List Nat) : okA 6 ([36, 38, 43, 123, 120, 125] ++ 46 :: post) true = true := by kernel_rfl!
theorem a3_true_28 : (([.x [36, 38], .t [43], .t [123], .t [120], .t [125], .t [46]] : List PP)).foldl addP [] = (([.x [36, 38], .t [43, 123, 120, 125]] : List PP) ++ [PP.t [46]]).foldl addP [] := by decide +kernel
theorem pc_true_28 (C : Cal O) : PieceOk O W true [36, 38, 43, 123, 120, 125] [.x [36, 38], .t [43, 123, 120, 125]] := piece_n C.n [.x [36, 38], .t [43], .t [123], .t [120], .t [125], .t [46]] [.x [36, 38], .t [43, 123, 120, 125]] 6 a1_true_28 a2_true_28 a3_true_28
theorem a1_false_29 (post : List Nat) : atoms 2 ([36, 114, 45, 62, 123, 50, 125] ++ 46 :: post) false = ([.x [36, 114, 45, 62, 123, 50, 125], .t [46]], post) := by kernel_rfl!
theorem a2_false_29 (post : List Nat) : okA 2 ([36, 114, 45, 62, 123, 50, 125] ++ 46 :: post) false = true := by kernel_rfl!
theorem a3_false_29 : (([.x [36, 114, 45, 62, 123, 50, 125], .t [46]] : List PP)).foldl addP [] = (([.x [36, 114, 45, 62, 123, 50, 125]] : List PP) ++ [PP.t [46]]).foldl addP [] := by decide +kernel
theorem pc_false_29 (C : Cal O) : PieceOk O W false [36, 114, 45, 62, 123, 50, 125] [.x [36, 114, 45, 62, 123, 50, 125]] := piece_n C.n [.x [36, 114, 45, 62, 123, 50, 125], .t [46]] [.x [36, 114, 45, 62, 123, 50, 125]] 2 a1_false_29 a2_false_29 a3_false_29
theorem a1_true_29 (post : List Nat) : atoms 2 ([36, 114, 45, 62, 123, 50, 125] ++ 46 :: post) true = ([.x [36, 114, 45, 62, 123, 50, 125], .t [46]], post) := by kernel_rfl!
theorem a2_true_29 (post : List Nat) : okA 2 ([36, 114, 45, 62, 123, 50, 125] ++ 46 :: post) true = true := by kernel_rfl!
theorem a3_true_29 : (([.x [36, 114, 45, 62, 123, 50, 125], .t [46]] : List PP)).foldl addP [] = (([.x [36, 114, 45, 62, 123, 50, 125]] : List PP) ++ [PP.t [46]]).foldl addP [] := by decide +kernel
theorem pc_true_29 (C : Cal O) : PieceOk O W true [36, 114, 45, 62, 123, 50, 125] [.x [36, 114, 45, 62, 123, 50, 125]] := piece_n C.n [.x [36, 114, 45, 62, 123, 50, 125], .t [46]] [.x [36, 114, 45, 62, 123, 50, 125]] 2 a1_true_29 a2_true_29 a3_true_29
theorem a1_false_30 (post : List Nat) : atoms 2 ([36, 114, 45, 62, 91, 97, 98, 99, 40, 41, 93] ++ 46 :: post) false = ([.x [36, 114, 45, 62, 91, 97, 98, 99, 40, 41, 93], .t [46]], post) := by kernel_rfl!
theorem a2_false_30 (post : List Nat) : okA 2 ([36, 114, 45, 62, 91, 97, 98, 99, 40, 41, 93] ++ 46 :: post) false = true := by kernel_rfl!
theorem a3_false_30 : (([.x [36, 114, 45, 62, 91, 97, 98, 99, 40, 41, 93], .t [46]] : List PP)).foldl addP [] = (([.x [36, 114, 45, 62, 91, 97, 98, 99, 40, 41, 93]] : List PP) ++ [PP.t [46]]).foldl addP [] := by decide +kernel
theorem pc_false_30 (C : Cal O) : PieceOk O W false [36, 114, 45, 62, 91, 97, 98, 99, 40, 41, 93] [.x [36, 114, 45, 62, 91, 97, 98, 99, 40, 41, 93]] := piece_n C.n [.x [36, 114, 45, 62, 91, 97, 98, 99, 40, 41, 93], .t [46]] [.x [36, 114, 45, 62, 91, 97, 98, 99, 40, 41, 93]] 2 a1_false_30 a2_false_30 a3_false_30
theorem a1_true_30 (post : List Nat) : atoms 2 ([36, 114, 45, 62, 91, 97, 98, 99, 40, 41, 93] ++ 46 :: post) true = ([.x [36, 114, 45, 62, 91, 97, 98, 99, 40, 41, 93], .t [46]], post) := by kernel_rfl!
theorem a2_true_30 (post : List Nat) : okA 2 ([36, 114, 45, 62, 91, 97, 98, 99, 40, 41, 93] ++ 46 :: post) true = true := by kernel_rfl!
theorem a3_true_30 : (([.x [36, 114, 45, 62, 91, 97, 98, 99, 40, 41, 93], .t [46]] : List PP)).foldl addP [] = (([.x [36, 114, 45, 62, 91, 97, 98, 99, 40, 41, 93]] : List PP) ++ [PP.t [46]]).foldl addP [] := by decide +kernel
theorem pc_true_30 (C : Cal O) : PieceOk O W true [36, 114, 45, 62, 91, 97, 98, 99, 40, 41, 93] [.x [36, 114, 45, 62, 91, 97, 98, 99, 40, 41, 93]] := piece_n C.n [.x [36, 114, 45, 62, 91, 97, 98, 99, 40, 41, 93], .t [46]] [.x [36, 114, 45, 62, 91, 97, 98, 99, 40, 41, 93]] 2 a1_true_30 a2_true_30 a3_true_30
theorem a1_false_31 (post : List Nat) : atoms 2 ([36, 120, 91, 45, 36, 105, 93] ++ 46 :: post) false = ([.x [36, 120, 91, 45, 36, 105, 93], .t [46]], post) := by kernel_rfl!
theorem a2_false_31 (post : List Nat) : okA 2 ([36, 120, 91, 45, 36, 105, 93] ++ 46 :: post) false = true := by kernel_rfl!
theorem a3_false_31 : (([.x [36, 120, 91, 45, 36, 105, 93], .t [46]] : List PP)).foldl addP [] = (([.x [36, 120, 91, 45, 36, 105, 93]] : List PP) ++ [PP.t [46]]).foldl addP [] := by decide +kernel
theorem pc_false_31 (C : Cal O) : PieceOk O W false [36, 120, 91, 45, 36, 105, 93] [.x [36, 120, 91, 45, 36, 105, 93]] := piece_n C.n [.x [36, 120, 91, 45, 36, 105, 93], .t [46]] [.x [36, 120, 91, 45, 36, 105, 93]] 2 a1_false_31 a2_false_31 a3_false_31
theorem a1_true_31 (post : List Nat) : atoms 2 ([36, 120, 91, 45, 36, 105, 93] ++ 46 :: post) true = ([.x [36, 120, 91, 45, 36, 105, 93], .t [46]], post) := by kernel_rfl!
theorem a2_true_31 (post : List Nat) : okA 2 ([36, 120, 91, 45, 36, 105, 93] ++ 46 :: post) true = true := by kernel_rfl!
theorem a3_true_31 : (([.x [36, 120, 91, 45, 36, 105, 93], .t [46]] : List PP)).foldl addP [] = (([.x [36, 120, 91, 45, 36, 105, 93]] : List PP) ++ [PP.t [46]]).foldl addP [] := by decide +kernel
theorem pc_true_31 (C : Cal O) : PieceOk O W true [36, 120, 91, 45, 36, 105, 93] [.x [36, 120, 91, 45, 36, 105, 93]] := piece_n C.n [.x [36, 120, 91, 45, 36, 105, 93], .t [46]] [.x [36, 120, 91, 45, 36, 105, 93]] 2 a1_true_31 a2_true_31 a3_true_31
theorem a1_false_32 (post : List Nat) : atoms 2 ([36, 120, 91, 49, 50, 93] ++ 46 :: post) false = ([.x [36, 120, 91, 49, 50, 93], .t [46]], post) := by kernel_rfl!
theorem a2_false_32 (post : List Nat) : okA 2 ([36, 120, 91, 49, 50, 93] ++ 46 :: post) false = true := by kernel_rfl!
theorem a3_false_32 : (([.x [36, 120, 91, 49, 50, 93], .t [46]] : List PP)).foldl addP [] = (([.x [36, 120, 91, 49, 50, 93]] : List PP) ++ [PP.t [46]]).foldl addP [] := by decide +kernel
theorem pc_false_32 (C : Cal O) : PieceOk O W false [36, 120, 91, 49, 50, 93] [.x [36, 120, 91, 49, 50, 93]] := piece_n C.n [.x [36, 120, 91, 49, 50, 93], .t [46]] [.x [36, 120, 91, 49, 50, 93]] 2 a1_false_32 a2_false_32 a3_false_32
theorem a1_true_32 (post : List Nat) : atoms 2 ([36, 120, 91, 49, 50, 93] ++ 46 :: post) true = ([.x [36, 120, 91, 49, 50, 93], .t [46]], post) := by kernel_rfl!
theorem a2_true_32 (post : List Nat) : okA 2 ([36, 120, 91, 49, 50, 93] ++ 46 :: post) true = true := by kernel_rfl!
theorem a3_true_32 : (([.x [36, 120, 91, 49, 50, 93], .t [46]] : List PP)).foldl addP [] = (([.x [36, 120, 91, 49, 50, 93]] : List PP) ++ [PP.t [46]]).foldl addP [] := by decide +kernel
theorem pc_true_32 (C : Cal O) : PieceOk O W true [36, 120, 91, 49, 50, 93] [.x [36, 120, 91, 49, 50, 93]] := piece_n C.n [.x [36, 120, 91, 49, 50, 93], .t [46]] [.x [36, 120, 91, 49, 50, 93]] 2 a1_true_32 a2_true_32 a3_true_32
theorem a1_false_33 (post : List Nat) : atoms 2 ([36, 120, 91, 50, 51, 52, 53, 93] ++ 46 :: post) false = ([.x [36, 120, 91, 50, 51, 52, 53, 93], .t [46]], post) := by kernel_rfl!
theorem a2_false_33 (post : List Nat) : okA 2 ([36, 120, 91, 50, 51, 52, 53, 93] ++ 46 :: post) false = true := by kernel_rfl!
theorem a3_false_33 : (([.x [36, 120, 91, 50, 51, 52, 53, 93], .t [46]] : List PP)).foldl addP [] = (([.x [36, 120, 91, 50, 51, 52, 53, 93]] : List PP) ++ [PP.t [46]]).foldl addP [] := by decide +kernel
theorem pc_false_33 (C : Cal O) : PieceOk O W false [36, 120, 91, 50, 51, 52, 53, 93] [.x [36, 120, 91, 50, 51, 52, 53, 93]] := piece_n C.n [.x [36, 120, 91, 50, 51, 52, 53, 93], .t [46]] [.x [36, 120, 91, 50, 51, 52, 53, 93]] 2 a1_false_33 a2_false_33 a3_false_33
theorem a1_true_33 (post : List Nat) : atoms 8 ([36, 120, 91, 50, 51, 52, 53, 93] ++ 46 :: post) true = ([.x [36, 120], .t [91], .t [50], .t [51], .t [52], .t [53], .t [93], .t [46]], post) := by kernel_rfl!
theorem a2_true_33 (post : List Nat) : okA 8 ([36, 120, 91, 50, 51, 52, 53, 93] ++ 46 :: post) true = true := by kernel_rfl!
theorem a3_true_33 : (([.x [36, 120], .t [91], .t [50], .t [51], .t [52], .t [53], .t [93], .t [46]] : List PP)).foldl addP [] = (([.x [36, 120], .t [91, 50, 51, 52, 53, 93]] : List PP) ++ [PP.t [46]]).foldl addP [] := by decide +kernel
theorem pc_true_33 (C : Cal O) : PieceOk O W true [36, 120, 91, 50, 51, 52, 53, 93] [.x [36, 120], .t [91, 50, 51, 52, 53, 93]] := piece_n C.n [.x [36, 120], .t [91], .t [50], .t [51], .t [52], .t [53], .t [93], .t [46]] [.x [36, 120], .t [91, 50, 51, 52, 53, 93]] 8 a1_true_33 a2_true_33 a3_true_33
theorem a1_false_34 (post : List Nat) : atoms 2 ([36, 120, 91, 45, 49, 50, 51, 93] ++ 46 :: post) false = ([.x [36, 120, 91, 45, 49, 50, 51, 93], .t [46]], post) := by kernel_rfl!
theorem a2_false_34 (post : List Nat) : okA 2 ([36, 120, 91, 45, 49, 50, 51, 93] ++ 46 :: post) false = true := by kernel_rfl!
theorem a3_false_34 : (([.x [36, 120, 91, 45, 49, 50, 51, 93], .t [46]] : List PP)).foldl addP [] = (([.x [36, 120, 91, 45, 49, 50, 51, 93]] : List PP) ++ [PP.t [46]]).foldl addP [] := by decide +kernel
theorem pc_false_34 (C : Cal O) : PieceOk O W false [36, 120, 91, 45, 49, 50, 51, 93] [.x [36, 120, 91, 45, 49, 50, 51, 93]] := piece_n C.n [.x [36, 120, 91, 45, 49, 50, 51, 93], .t [46]] [.x [36, 120, 91, 45, 49, 50, 51, 93]] 2 a1_false_34 a2_false_34 a3_false_34
theorem a1_true_34 (post : List Nat) : atoms 8 ([36, 120, 91, 45, 49, 50, 51, 93] ++ 46 :: post) true = ([.x [36, 120], .t [91], .t [45], .t [49], .t [50], .t [51], .t [93], .t [46]], post) := by kernel_rfl!
theorem a2_true_34 (post : List Nat) : okA 8 ([36, 120, 91, 45, 49, 50, 51, 93] ++ 46 :: post) true = true := by kernel_rfl!
theorem a3_true_34 : (([.x [36, 120], .t [91], .t [45], .t [49], .t [50], .t [51], .t [93], .t [46]] : List PP)).foldl addP [] = (([.x [36, 120], .t [91, 45, 49, 50, 51, 93]] : List PP) ++ [PP.t [46]]).foldl addP [] := by decide +kernel
theorem pc_true_34 (C : Cal O) : PieceOk O W true [36, 120, 91, 45, 49, 50, 51, 93] [.x [36, 120], .t [91, 45, 49, 50, 51, 93]] := piece_n C.n [.x [36, 120], .t [91], .t [45], .t [49], .t [50], .t [51], .t [93], .t [46]] [.x [36, 120], .t [91, 45, 49, 50, 51, 93]] 8 a1_true_34 a2_true_34 a3_true_34
theorem a1_false_35 (post : List Nat) : atoms 2 ([36, 49, 123, 50, 125] ++ 46 :: post) false = ([.x [36, 49, 123, 50, 125], .t [46]], post) := by kernel_rfl!
theorem a2_false_35 (post : List Nat) : okA 2 ([36, 49, 123, 50, 125] ++ 46 :: post) false = true := by kernel_rfl!
theorem a3_false_35 : (([.x [36, 49, 123, 50, 125], .t [46]] : List PP)).foldl addP [] = (([.x [36, 49, 123, 50, 125]] : List PP) ++ [PP.t [46]]).foldl addP [] := by decide +kernel
theorem pc_false_35 (C : Cal O) : PieceOk O W false [36, 49, 123, 50, 125] [.x [36, 49, 123, 50, 125]] := piece_n C.n [.x [36, 49, 123, 50, 125], .t [46]] [.x [36, 49, 123, 50, 125]] 2 a1_false_35 a2_false_35 a3_false_35
theorem a1_true_35 (post : List Nat) : atoms 5 ([36, 49, 123, 50, 125] ++ 46 :: post) true = ([.x [36, 49], .t [123], .t [50], .t [125], .t [46]], post) := by kernel_rfl!
theorem a2_true_35 (post : List Nat) : okA 5 ([36, 49, 123, 50, 125] ++ 46 :: post) true = true := by kernel_rfl!
theorem a3_true_35 : (([.x [36, 49], .t [123], .t [50], .t [125], .t [46]] : List PP)).foldl addP [] = (([.x [36, 49], .t [123, 50, 125]] : List PP) ++ [PP.t [46]]).foldl addP [] := by decide +kernel
theorem pc_true_35 (C : Cal O) : PieceOk O W true [36, 49, 123, 50, 125] [.x [36, 49], .t [123, 50, 125]] := piece_n C.n [.x [36, 49], .t [123], .t [50], .t [125], .t [46]] [.x [36, 49], .t [123, 50, 125]] 5 a1_true_35 a2_true_35 a3_true_35
theorem a1_false_36 (post : List Nat) : atoms 2 ([36, 114, 45, 62, 123, 50, 125, 123, 51, 125] ++ 46 :: post) false = ([.x [36, 114, 45, 62, 123, 50, 125, 123, 51, 125], .t [46]], post) := by kernel_rfl!
theorem a2_false_36 (post : List Nat) : okA 2 ([36, 114, 45, 62, 123, 50, 125, 123, 51, 125] ++ 46 :: post) false = true := by kernel_rfl!
theorem a3_false_36 : (([.x [36, 114, 45, 62, 123, 50, 125, 123, 51, 125], .t [46]] : List PP)).foldl addP [] = (([.x [36, 114, 45, 62, 123, 50, 125, 123, 51, 125]] : List PP) ++ [PP.t [46]]).foldl addP [] := by decide +kernel
theorem pc_false_36 (C : Cal O) : PieceOk O W false [36, 114, 45, 62, 123, 50, 125, 123, 51, 125] [.x [36, 114, 45, 62, 123, 50, 125, 123, 51, 125]] := piece_n C.n [.x [36, 114, 45, 62, 123, 50, 125, 123, 51, 125], .t [46]] [.x [36, 114, 45, 62, 123, 50, 125, 123, 51, 125]] 2 a1_false_36 a2_false_36 a3_false_36
theorem a1_true_36 (post : List Nat) : atoms 5 ([36, 114, 45, 62, 123, 50, 125, 123, 51, 125] ++ 46 :: post) true = ([.x [36, 114, 45, 62, 123, 50, 125], .t [123], .t [51], .t [125], .t [46]], post) := by kernel_rfl!
theorem a2_true_36 (post : List Nat) : okA 5 ([36, 114, 45, 62, 123, 50, 125, 123, 51, 125] ++ 46 :: post) true = true := by kernel_rfl!
theorem a3_true_36 : (([.x [36, 114, 45, 62, 123, 50, 125], .t [123], .t [51], .t [125], .t [46]] : List PP)).foldl addP [] = (([.x [36, 114, 45, 62, 123, 50, 125], .t [123, 51, 125]] : List PP) ++ [PP.t [46]]).foldl addP [] := by decide +kernel
theorem pc_true_36 (C : Cal O) : PieceOk O W true [36, 114, 45, 62, 123, 50, 125, 123, 51, 125] [.x [36, 114, 45, 62, 123, 50, 125], .t [123, 51, 125]] := piece_n C.n [.x [36, 114, 45, 62, 123, 50, 125], .t [123], .t [51], .t [125], .t [46]] [.x [36, 114, 45, 62, 123, 50, 125], .t [123, 51, 125]] 5 a1_true_36 a2_true_36 a3_true_36
theorem a1_false_37 (post : List Nat) : atoms 2 ([36, 38, 91, 97, 98, 93] ++ 46 :: post) false = ([.x [36, 38, 91, 97, 98, 93], .t [46]], post) := by kernel_rfl!
theorem a2_false_37 (post : List Nat) : okA 2 ([36, 38, 91, 97, 98, 93] ++ 46 :: post) false = true := by kernel_rfl!
theorem a3_false_37 : (([.x [36, 38, 91, 97, 98, 93], .t [46]] : List PP)).foldl addP [] = (([.x [36, 38, 91, 97, 98, 93]] : List PP) ++ [PP.t [46]]).foldl addP [] := by decide +kernel
theorem pc_false_37 (C : Cal O) : PieceOk O W false [36, 38, 91, 97, 98, 93] [.x [36, 38, 91, 97, 98, 93]] := piece_n C.n [.x [36, 38, 91, 97, 98, 93], .t [46]] [.x [36, 38, 91, 97, 98, 93]] 2 a1_false_37 a2_false_37 a3_false_37
theorem a1_true_37 (post : List Nat) : atoms 6 ([36, 38, 91, 97, 98, 93] ++ 46 :: post) true = ([.x [36, 38], .t [91], .t [97], .t [98], .t [93], .t [46]], post) := by kernel_rfl!
theorem a2_true_37 (post : List Nat) : okA 6 ([36, 38, 91, 97, 98, 93] ++ 46 :: post) true = true := by kernel_rfl!
theorem a3_true_37 : (([.x [36, 38], .t [91], .t [97], .t [98], .t [93], .t [46]] : List PP)).foldl addP [] = (([.x [36, 38], .t [91, 97, 98, 93]] : List PP) ++ [PP.t [46]]).foldl addP [] := by decide +kernel
theorem pc_true_37 (C : Cal O) : PieceOk O W true [36, 38, 91, 97, 98, 93] [.x [36, 38], .t [91, 97, 98, 93]] := piece_n C.n [.x [36, 38], .t [91], .t [97], .t [98], .t [93], .t [46]] [.x [36, 38], .t [91, 97, 98, 93]] 6 a1_true_37 a2_true_37 a3_true_37
theorem a1_false_38 (post : List Nat) : atoms 2 ([96] ++ 46 :: post) false = ([.t [96], .t [46]], post) := by kernel_rfl!
theorem a2_false_38 (post : List Nat) : okA 2 ([96] ++ 46 :: post) false = true := by kernel_rfl!
theorem a3_false_38 : (PP.t [36] :: ([.t [96], .t [46]] : List PP)).foldl addP [] = (([.t [36, 96]] : List PP) ++ [PP.t [46]]).foldl addP [] := by decide +kernel
theorem pc_false_38 (C : Cal O) : PieceOk O W false [92, 36, 96] [.t [36, 96]] := piece_b (rest := [96]) C.n C.b [.t [96], .t [46]] [.t [36, 96]] 2 a1_false_38 a2_false_38 a3_false_38
theorem a1_false_39 (post : List Nat) : atoms 5 ([43, 123, 120, 125] ++ 46 :: post) false = ([.t [43], .t [123], .t [120], .t [125], .t [46]], post) := by kernel_rfl!
theorem a2_false_39 (post : List Nat) : okA 5 ([43, 123, 120, 125] ++ 46 :: post) false = true := by kernel_rfl!
theorem a3_false_39 : (PP.t [36] :: ([.t [43], .t [123], .t [120], .t [125], .t [46]] : List PP)).foldl addP [] = (([.t [36, 43, 123, 120, 125]] : List PP) ++ [PP.t [46]]).foldl addP [] := by decide +kernel
theorem pc_false_39 (C : Cal O) : PieceOk O W false [92, 36, 43, 123, 120, 125] [.t [36, 43, 123, 120, 125]] := piece_b (rest := [43, 123, 120, 125]) C.n C.b [.t [43], .t [123], .t [120], .t [125], .t [46]] [.t [36, 43, 123, 120, 125]] 5 a1_false_39 a2_false_39 a3_false_39
theorem pc_false_40 (C : Cal O) : PieceOk O W false [92, 85, 36, 39, 92, 69] [.c [85] [(false, [36, 39])]] := piece_U C.n C.c C.o C.e
theorem pc_false_41 (C : Cal O) : PieceOk O W false [92, 81, 97, 36, 43, 46, 92, 69] [.c [81] [(true, [97]), (false, [36, 43]), (true, [46])]] := piece_Q C.n C.c C.o C.e
theorem pc_false (C : Cal O) : ∀ R ∈ rowsP, PieceOk O W false R.raw R.due := by
  intro R hR
  simp only [rowsP, List.mem_cons, List.not_mem_nil, or_false] at hR
  rcases hR with rfl | rfl | rfl | rfl | rfl | rfl | rfl | rfl | rfl | rfl | rfl | rfl | rfl | rfl | rfl | rfl | rfl | rfl | rfl | rfl | rfl | rfl | rfl | rfl | rfl | rfl | rfl | rfl | rfl | rfl | rfl | rfl | rfl | rfl | rfl | rfl | rfl | rfl | rfl | rfl | rfl | rfl
  · exact pc_false_0 C
  · exact pc_false_1 C
  · exact pc_false_2 C
  · exact pc_false_3 C
  · exact pc_false_4 C
  · exact pc_false_5 C
  · exact pc_false_6 C
  · exact pc_false_7 C
  · exact pc_false_8 C
  · exact pc_false_9 C
  · exact pc_false_10 C
  · exact pc_false_11 C
  · exact pc_false_12 C
  · exact pc_false_13 C
  · exact pc_false_14 C
  · exact pc_false_15 C
  · exact pc_false_16 C
  · exact pc_false_17 C
  · exact pc_false_18 C
  · exact pc_false_19 C
  · exact pc_false_20 C
  · exact pc_false_21 C
  · exact pc_false_22 C
  · exact pc_false_23 C
  · exact pc_false_24 C
  · exact pc_false_25 C
  · exact pc_false_26 C
  · exact pc_false_27 C
  · exact pc_false_28 C
  · exact pc_false_29 C
  · exact pc_false_30 C
  · exact pc_false_31 C
  · exact pc_false_32 C
  · exact pc_false_33 C
  · exact pc_false_34 C
  · exact pc_false_35 C
  · exact pc_false_36 C
  · exact pc_false_37 C
  · exact pc_false_38 C
  · exact pc_false_39 C
  · exact pc_false_40 C
  · exact pc_false_41 C
theorem pc_true (C : Cal O) : ∀ R ∈ rowsP, ∀ d, R.pat = some d → PieceOk O W true R.raw d := by
  intro R hR d hd
  simp only [rowsP, List.mem_cons, List.not_mem_nil, or_false] at hR
  rcases hR with rfl | rfl | rfl | rfl | rfl | rfl | rfl | rfl | rfl | rfl | rfl | rfl | rfl | rfl | rfl | rfl | rfl | rfl | rfl | rfl | rfl | rfl | rfl | rfl | rfl | rfl | rfl | rfl | rfl | rfl | rfl | rfl | rfl | rfl | rfl | rfl | rfl | rfl | rfl | rfl | rfl | rfl
  · cases hd; exact pc_true_0 C
  · cases hd; exact pc_true_1 C
  · cases hd; exact pc_true_2 C
  · cases hd; exact pc_true_3 C
  · cases hd; exact pc_true_4 C
  · cases hd; exact pc_true_5 C
  · cases hd; exact pc_true_6 C
  · cases hd; exact pc_true_7 C
  · cases hd; exact pc_true_8 C
  · cases hd; exact pc_true_9 C
  · cases hd; exact pc_true_10 C
  · cases hd; exact pc_true_11 C
  · cases hd; exact pc_true_12 C
  · cases hd; exact pc_true_13 C
  · cases hd; exact pc_true_14 C
  · cases hd; exact pc_true_15 C
  · cases hd; exact pc_true_16 C
  · cases hd; exact pc_true_17 C
  · cases hd; exact pc_true_18 C
  · cases hd; exact pc_true_19 C
  · cases hd; exact pc_true_20 C
  · cases hd; exact pc_true_21 C
  · cases hd; exact pc_true_22 C
  · cases hd; exact pc_true_23 C
  · cases hd; exact pc_true_24 C
  · cases hd; exact pc_true_25 C
  · cases hd; exact pc_true_26 C
  · cases hd; exact pc_true_27 C
  · cases hd; exact pc_true_28 C
  · cases hd; exact pc_true_29 C
  · cases hd; exact pc_true_30 C
  · cases hd; exact pc_true_31 C
  · cases hd; exact pc_true_32 C
  · cases hd; exact pc_true_33 C
  · cases hd; exact pc_true_34 C
  · cases hd; exact pc_true_35 C
  · cases hd; exact pc_true_36 C
  · cases hd; exact pc_true_37 C
  · cases hd
  · cases hd
  · cases hd
  · cases hd
end
abbrev Pc := List Nat × List PP
noncomputable def txtOf (l : List Pc) : List Nat := l.flatMap fun q => q.1 ++ [46]
noncomputable def dueOf (l : List Pc) : List PP := l.flatMap fun q => q.2 ++ [PP.t [46]]
section
variable {O : Orc} {W : Nat}
theorem cal_ok (hW : 2000 ≤ W) (N : Nat) : Cal (run FTf W (N + 6)) := ⟨f247 hW N, f247b (N + 4), f247c hW N, f240b hW (N + 3), f240e hW (N + 2)⟩
theorem go_pieces {p : Bool} {t : List Nat} (ht : t.length ≤ 1000) {n : Nat} : ∀ (l : List Pc) (a : Nat) (H : Hp) (ql : List PP), (∀ q ∈ l, PieceOk O W p q.1 q.2) → t.drop a = txtOf l → Inv n H ql a →
    ∃ H' b, Go O W t p n a H b H' ∧ t.drop b = [] ∧ Inv n H' ((dueOf l).foldl addP ql) b ∧ Ext n H H'
  | [], a, H, ql, _, hd, I => ⟨H, a, Go.refl t p n a H, hd, I, Ext.refl n H⟩
  | q :: l, a, H, ql, hq, hd, I => by
    have hd' : t.drop a = q.1 ++ 46 :: txtOf l := by
      rw [hd]
      show (q.1 ++ [46]) ++ txtOf l = _
      rw [List.append_assoc]
      rfl
    obtain ⟨H1, b1, g1, d1, I1, x1⟩ := hq q (.head _) t n a (txtOf l) H ql ht hd' I
    obtain ⟨H2, b2, g2, d2, I2, x2⟩ := go_pieces ht l b1 H1 _ (fun r hr => hq r (.tail _ hr)) d1 I1
    refine ⟨H2, b2, g1.trans g2, d2, ?_, x1.trans x2⟩
    show Inv n H2 (((q.2 ++ [PP.t [46]]) ++ dueOf l).foldl addP ql) b2
    rw [List.foldl_append]
    exact I2
noncomputable def ground (H : Hp) : Hp := H ++ [[]] ++ [[V.str [], V.ref H.length]] ++ [[V.ref (H ++ [[]]).length]]
theorem ground_inv (H : Hp) : Inv H.length (ground H) [] 0 := by
  refine ⟨⟨[], ?_, .nil⟩, ?_, ?_, ⟨by simp, fun s hs => by cases hs⟩⟩
  · unfold ground; simp
  · unfold ground; simp
  · unfold ground; simp
theorem ground_old (H : Hp) : ∀ i, i < H.length → (ground H)[i]? = H[i]? := fun i hi => by
  unfold ground
  rw [List.append_assoc, List.append_assoc, List.getElem?_append_left hi]
theorem ground_len (H : Hp) : (ground H).length = H.length + 3 := by unfold ground; simp
abbrev P254 (O : Orc) (p : Bool) (l : List Pc) : Prop := ∀ (H : Hp), (txtOf l).length ≤ 1000 →
  ∃ H' vl, O 254 [.str (txtOf l), .bool p] H = some (.ref H.length, H') ∧ H'[H.length]? = some vl ∧ VQs H.length H' vl ((dueOf l).foldl addP []) ∧ H.length < H'.length ∧ ∀ i, i < H.length → H'[i]? = H[i]?
theorem g254 (hW : 2000 ≤ W) {p : Bool} {l : List Pc} (hq : ∀ q ∈ l, PieceOk O W p q.1 q.2) (H : Hp) (ht : (txtOf l).length ≤ 1000) :
    ∃ H' vl, (exs O W b254 [some (.str (txtOf l)), some (.bool p), Option.none, Option.none, Option.none] H).bind retOf = some (.ref H.length, H') ∧ H'[H.length]? = some vl ∧ VQs H.length H' vl ((dueOf l).foldl addP []) ∧ H.length < H'.length ∧ ∀ i, i < H.length → H'[i]? = H[i]? := by
  obtain ⟨H1, b, g, d, I, x⟩ := go_pieces (n := H.length) (p := p) ht l 0 (ground H) [] hq rfl (ground_inv H)
  obtain ⟨fuel, f', hf, e⟩ := g W Option.none (by omega)
  obtain ⟨fuel, rfl⟩ : ∃ k, fuel = k + 1 := ⟨fuel - 1, by omega⟩
  have hend : wloop (tst O wc254_0) (exs O W wb254_1) (fuel + 1) [some (.str (txtOf l)), some (.bool p), some (.ref (H.length + 2)), some (.int (b : Nat)), f'] H1 = some (.next, [some (.str (txtOf l)), some (.bool p), some (.ref (H.length + 2)), some (.int (b : Nat)), f'], H1) := by
    have := drop_nil d
    refine wl_end ?_
    unfold wc254_0
    simp (disch := omega) only [↓t_cmp, ↓e_loc, List.getElem?_cons_succ, List.getElem?_cons_zero, obs, ↓e_len, x_len, q_lt, nlt]
    rw [decide_eq_false (by omega)]
  rw [hend] at e
  obtain ⟨W', hW'⟩ : ∃ k, W = k + 1 := ⟨W - 1, by omega⟩
  have h1 : lenV (.ref (H.length + 2)) H1 = some (.int 1, H1) := lenR I.h2 (by simp)
  have hend2 : ∀ ρ : Loc, ρ[2]? = some (some (.ref (H.length + 2))) → wloop (tst O wc254_2) (exs O W wb254_3) W ρ H1 = some (.next, ρ, H1) := fun ρ hρ => by
    rw [hW']
    refine wl_end ?_
    unfold wc254_2
    simp (disch := omega) only [↓t_cmp, ↓e_len, ↓e_loc, obs, ↓e_lit, q_gt, hρ, h1, gt11]
  have hend2 := hend2 [some (.str (txtOf l)), some (.bool p), some (.ref (H.length + 2)), some (.int (b : Nat)), f'] rfl
  obtain ⟨vl, v1, v2⟩ := I.ex
  have i1 : idx2 (.ref (H.length + 2)) (.int 0) H1 = some (.ref (H.length + 1)) := idxR0 I.h2 rfl
  have i2 : idx2 (.ref (H.length + 1)) (.int 1) H1 = some (.ref H.length) := idxR1 I.h1 rfl
  have l1 := x.1
  rw [ground_len] at l1
  refine ⟨H1, vl, ?_, v1, v2, by omega, fun i hi => ?_⟩
  · have hc : ((0 : Nat) : Int) = 0 := rfl
    rw [hc] at e
    have e0 : (H ++ [[]] ++ [[V.str [], V.ref H.length]]).length = H.length + 2 := by simp
    have e1 : (H ++ [[]]).length = H.length + 1 := by simp
    unfold ground at e
    rw [e1] at e
    unfold b254
    simp (disch := omega) only [↓s_cons, ↓x_asg, ↓e_lst, ↓es_cons, ↓e_lit, ↓es_nil, obs, List.set_cons_succ, List.set_cons_zero, sq_next, ↓x_whl, ↓x_ret, ↓e_idx, ↓e_loc, List.getElem?_cons_succ, List.getElem?_cons_zero, sq_ret, retOf_ret, e0, e1, e, hend2, i1, i2]
  · rw [x.2 i (by rw [ground_len]; omega) (by omega), ground_old H i hi]
theorem f254 (hW : 2000 ≤ W) (N : Nat) {p : Bool} {l : List Pc} (hq : ∀ q ∈ l, PieceOk (run FTf W (N + 6)) W p q.1 q.2) : P254 (run FTf W (N + 7)) p l := fun H ht => by
  obtain ⟨H', vl, e, h⟩ := g254 (O := run FTf W (N + 6)) hW hq H ht
  exact ⟨H', vl, (r254 _ _).trans e, h⟩
end
/-! what a part is as plain data -/
noncomputable def vq : PP → V
  | .t s => .tup [.str tTx, .str s]
  | .x s => .tup [.str tEx, .str s]
  | .c m l => .tup [.str tCa, .str m, .fl (l.map vPr)]
theorem vq_VQ (n : Nat) (H : Hp) : ∀ q, VQ n H (vq q) q
  | .t s => .t s
  | .x s => .x s
  | .c m l => .cf m l
theorem vq_VQs (n : Nat) (H : Hp) : ∀ l : List PP, VQs n H (l.map vq) l
  | [] => .nil
  | q :: l => .cons (vq_VQ n H q) (vq_VQs n H l)
noncomputable def dPr (q : Bool × List Nat) : PyData := .tuple [.str (toS (if q.1 then tTx else tEx)), .str (toS q.2)]
noncomputable def dq : PP → PyData
  | .t s => .tuple [.str (toS tTx), .str (toS s)]
  | .x s => .tuple [.str (toS tEx), .str (toS s)]
  | .c m l => .tuple [.str (toS tCa), .str (toS m), .list (l.map dPr)]
noncomputable def okS (s : List Nat) : Bool := s.all fun c => decide (c < 128)
noncomputable def okP : PP → Bool
  | .t s => okS s
  | .x s => okS s
  | .c m l => okS m && (decide (l.length ≤ 5) && l.all fun q => okS q.2)
theorem rd_pr (k : Nat) (H : Hp) (q : Bool × List Nat) : rd (k + 4) H (vPr q) = some (dPr q) := rfl
theorem rds_pr (H : Hp) : ∀ (l : List (Bool × List Nat)) (k : Nat), rds (k + l.length + 4) H (l.map vPr) = some (l.map dPr)
  | [], k => by simp [rds]
  | q :: l, k => by
    have e : k + (q :: l).length + 4 = (k + l.length + 4) + 1 := by rw [List.length_cons]; omega
    rw [e, List.map_cons, rds, rd_pr, rds_pr H l k]
    rfl
theorem rd_q {n : Nat} {H : Hp} {v : V} {q : PP} (h : VQ n H v q) (ho : okP q = true) (k : Nat) : rd (k + 16) H v = some (dq q) := by
  cases h with
  | t s => rfl
  | x s => rfl
  | cr m l r hr e =>
    simp only [okP, Bool.and_eq_true, decide_eq_true_eq] at ho
    have h1 : rd (k + 13) H (.ref r) = some (.list (l.map dPr)) := by
      show ((H[r]?).bind fun vs => (rds (k + 12) H vs).map PyData.list) = _
      rw [e]
      have := rds_pr H l (k + 8 - l.length)
      rw [show k + 8 - l.length + l.length + 4 = k + 12 from by omega] at this
      show (rds (k + 12) H (l.map vPr)).map PyData.list = _
      rw [this]
      rfl
    show (rds (k + 15) H [.str tCa, .str m, .ref r]).map PyData.tuple = _
    rw [rds, show rd (k + 14) H (.str tCa) = some (.str (toS tCa)) from rfl]
    show ((rds (k + 14) H [.str m, .ref r]).map _).map PyData.tuple = _
    rw [rds, show rd (k + 13) H (.str m) = some (.str (toS m)) from rfl]
    show (((rds (k + 13) H [.ref r]).map _).map _).map PyData.tuple = _
    rw [rds, show rd (k + 12) H (.ref r) = some (.list (l.map dPr)) from ?_]
    · rfl
    · show ((H[r]?).bind fun vs => (rds (k + 11) H vs).map PyData.list) = _
      rw [e]
      have := rds_pr H l (k + 7 - l.length)
      rw [show k + 7 - l.length + l.length + 4 = k + 11 from by omega] at this
      show (rds (k + 11) H (l.map vPr)).map PyData.list = _
      rw [this]
      rfl
  | cf m l =>
    simp only [okP, Bool.and_eq_true, decide_eq_true_eq] at ho
    show (rds (k + 15) H [.str tCa, .str m, .fl (l.map vPr)]).map PyData.tuple = _
    rw [rds, show rd (k + 14) H (.str tCa) = some (.str (toS tCa)) from rfl]
    show ((rds (k + 14) H [.str m, .fl (l.map vPr)]).map _).map PyData.tuple = _
    rw [rds, show rd (k + 13) H (.str m) = some (.str (toS m)) from rfl]
    show (((rds (k + 13) H [.fl (l.map vPr)]).map _).map _).map PyData.tuple = _
    rw [rds, show rd (k + 12) H (.fl (l.map vPr)) = some (.list (l.map dPr)) from ?_]
    · rfl
    · have := rds_pr H l (k + 7 - l.length)
      rw [show k + 7 - l.length + l.length + 4 = k + 11 from by omega] at this
      show (rds (k + 11) H (l.map vPr)).map PyData.list = _
      rw [this]
      rfl
theorem rds_q {n : Nat} {H : Hp} : ∀ {vs : List V} {l : List PP}, VQs n H vs l → (∀ q ∈ l, okP q = true) → ∀ k, rds (k + l.length + 16) H vs = some (l.map dq)
  | _, _, .nil, _, k => by simp [rds]
  | _, _, .cons (q := q) (qs := qs) h r, ho, k => by
    have e : k + (q :: qs).length + 16 = (k + qs.length + 16) + 1 := by rw [List.length_cons]; omega
    rw [e, rds, rd_q h (ho q (.head _)), rds_q r (fun p hp => ho p (.tail _ hp)) k]
    rfl
theorem rd_list {n i : Nat} {H : Hp} {vs : List V} {l : List PP} (hi : H[i]? = some vs) (h : VQs n H vs l) (ho : ∀ q ∈ l, okP q = true) (hl : l.length ≤ 40) : rd 64 H (.ref i) = some (.list (l.map dq)) := by
  show ((H[i]?).bind fun vs => (rds 63 H vs).map PyData.list) = _
  rw [hi]
  have := rds_q h ho (47 - l.length)
  rw [show 47 - l.length + l.length + 16 = 63 from by omega] at this
  show (rds 63 H vs).map PyData.list = _
  rw [this]
  rfl
theorem rd_fl {H : Hp} {l : List PP} (ho : ∀ q ∈ l, okP q = true) (hl : l.length ≤ 40) : rd 64 H (.fl (l.map vq)) = some (.list (l.map dq)) := by
  have := rds_q (vq_VQs 0 H l) ho (47 - l.length)
  rw [show 47 - l.length + l.length + 16 = 63 from by omega] at this
  show (rds 63 H (l.map vq)).map PyData.list = _
  rw [this]
  rfl
theorem strOk_of {s : List Nat} (h : okS s = true) : PyData.strOk (toS s) = true := by
  unfold okS at h
  rw [List.all_eq_true] at h
  unfold PyData.strOk toS
  rw [List.all_toArray, List.all_eq_true]
  intro c hc
  have := h c hc
  simp only [decide_eq_true_eq] at this ⊢
  omega
theorem okAll {α : Type} {f : α → PyData} : ∀ {l : List α}, (∀ q ∈ l, (f q).canLay0 = true) → PyData.canLayAll0 (l.map f) = true
  | [], _ => rfl
  | q :: l, h => by
    rw [List.map_cons, PyData.canLayAll0, h q (.head _), okAll fun p hp => h p (.tail _ hp)]
    rfl
theorem depAll {α : Type} {f : α → PyData} {d : Nat} : ∀ {l : List α}, (∀ q ∈ l, (f q).depth ≤ d) → PyData.depthAll (l.map f) ≤ d
  | [], _ => by simp [PyData.depthAll]
  | q :: l, h => by
    rw [List.map_cons, PyData.depthAll]
    exact Nat.max_le.mpr ⟨h q (.head _), depAll fun p hp => h p (.tail _ hp)⟩
theorem tags_ok : okS tTx = true ∧ okS tEx = true ∧ okS tCa = true := by decide
theorem lay2 {a b : List Nat} (ha : okS a = true) (hb : okS b = true) : (PyData.tuple [.str (toS a), .str (toS b)]).canLay0 = true := by
  simp only [PyData.canLay0, PyData.canLayAll0, strOk_of ha, strOk_of hb, Bool.and_self]
theorem lay_pr {q : Bool × List Nat} (h : okS q.2 = true) : (dPr q).canLay0 = true := by
  unfold dPr
  refine lay2 ?_ h
  split
  · exact tags_ok.1
  · exact tags_ok.2.1
theorem lay_q : ∀ {q : PP}, okP q = true → (dq q).canLay0 = true
  | .t s, h => lay2 tags_ok.1 h
  | .x s, h => lay2 tags_ok.2.1 h
  | .c m l, h => by
    simp only [okP, Bool.and_eq_true, List.all_eq_true] at h
    have := okAll (f := dPr) (l := l) fun q hq => lay_pr (h.2.2 q hq)
    simp only [dq, PyData.canLay0, PyData.canLayAll0, strOk_of tags_ok.2.2, strOk_of h.1, this, Bool.and_self]
theorem dep_pr (q : Bool × List Nat) : (dPr q).depth ≤ 1 := by simp [dPr, PyData.depth, PyData.depthAll]
theorem dep_q : ∀ q : PP, (dq q).depth ≤ 3
  | .t s => by simp [dq, PyData.depth, PyData.depthAll]
  | .x s => by simp [dq, PyData.depth, PyData.depthAll]
  | .c m l => by
    have := depAll (f := dPr) (l := l) fun q _ => dep_pr q
    simp only [dq, PyData.depth, PyData.depthAll]
    omega
theorem shaped_list {l : List PP} (h : ∀ q ∈ l, okP q = true) : SeqAt.shaped (.list (l.map dq)) = true := by
  unfold SeqAt.shaped
  have h1 : (PyData.list (l.map dq)).canLay0 = true := by rw [PyData.canLay0]; exact okAll fun q hq => lay_q (h q hq)
  have h2 := depAll (f := dq) (l := l) fun q _ => dep_q q
  rw [h1, Bool.true_and, decide_eq_true_eq]
  simp only [PyData.depth]
  omega
theorem same_eq {H : Hp} {a b : V} {l : List PP} (ha : rd 64 H a = some (.list (l.map dq))) (hb : rd 64 H b = some (.list (l.map dq))) (h : ∀ q ∈ l, okP q = true) : same H a b = some true := by
  have hs := shaped_list h
  unfold same
  rw [ha, hb]
  show (if SeqAt.shaped (.list (l.map dq)) = true ∧ SeqAt.shaped (.list (l.map dq)) = true then some (PyData.eqv (.list (l.map dq)) (.list (l.map dq))) else Option.none) = _
  rw [if_pos ⟨hs, hs⟩, PySem.SeqAt.eqv_refl _ (SeqAt.canLay_of_shaped hs)]
theorem shaped_nil : SeqAt.shaped (.list []) = true := by decide
theorem same_nil_l {H : Hp} {a b : V} {l : List PP} (ha : rd 64 H a = some (.list (l.map dq))) (hb : rd 64 H b = some (.list [])) (h : ∀ q ∈ l, okP q = true) : same H a b = some (l == []) := by
  unfold same
  rw [ha, hb]
  show (if SeqAt.shaped (.list (l.map dq)) = true ∧ SeqAt.shaped (.list []) = true then some (PyData.eqv (.list (l.map dq)) (.list [])) else Option.none) = _
  rw [if_pos ⟨shaped_list h, shaped_nil⟩]
  cases l <;> rfl
theorem same_none_nil {H : Hp} {b : V} (hb : rd 64 H b = some (.list [])) : same H .none b = some false := by
  unfold same
  rw [hb]
  show (if SeqAt.shaped .none = true ∧ SeqAt.shaped (.list []) = true then some (PyData.eqv .none (.list [])) else Option.none) = _
  rw [if_pos ⟨by decide, shaped_nil⟩]
  rfl
theorem okS_app {a b : List Nat} (ha : okS a = true) (hb : okS b = true) : okS (a ++ b) = true := by
  unfold okS at *
  rw [List.all_append, ha, hb]
  rfl
theorem okP_add {l : List PP} {q : PP} (h : ∀ p ∈ l, okP p = true) (hq : okP q = true) : ∀ p ∈ addP l q, okP p = true := fun p hp => by
  rcases addP_mem hp with h1 | rfl | ⟨u, u', h1, rfl, rfl⟩
  · exact h p h1
  · exact hq
  · exact okS_app (h _ h1) hq
theorem okP_fold : ∀ (as l : List PP), (∀ p ∈ l, okP p = true) → (∀ p ∈ as, okP p = true) → ∀ p ∈ as.foldl addP l, okP p = true
  | [], _, h, _ => h
  | q :: as, l, h, ha => okP_fold as (addP l q) (okP_add h (ha q (.head _))) fun p hp => ha p (.tail _ hp)
theorem len_fold : ∀ (as l : List PP), (as.foldl addP l).length ≤ l.length + as.length
  | [], _ => Nat.le_refl _
  | q :: as, l => by
    have h1 := len_fold as (addP l q)
    have h2 := addP_len l q
    rw [List.foldl_cons, List.length_cons]
    omega
section
variable {O : Orc} {W : Nat} {H : Hp}
theorem x_augS {ρ : Loc} {r c : Nat} {a i e : E} {l : List V} {v w : V} (ha : ev O a ρ H = some (.ref r, H)) (hi : ev O i ρ H = some (.int (c : Int), H)) (hl : H[r]? = some l) (hc : c < l.length) (hlim : l.length ≤ 1048576)
    {x : Int} (hu : l[c]? = some (.int x)) (he : ev O e ρ H = some (v, H)) {o : Op2} (hb : bin2 o (.int x) v H = some (w, H)) : ex O W (.augS a i o e) ρ H = some (.next, ρ, H.set r (l.set c w)) := by
  show ((ev O a ρ H).bind _) = _
  rw [ha]
  show ((ev O i ρ H).bind _) = _
  rw [hi]
  show ((H[r]?).bind fun l => if 0 ≤ (c : Int) ∧ (c : Int) < (l.length : Int) ∧ l.length ≤ lim then (l[(c : Int).toNat]?).bind _ else Option.none) = _
  rw [hl]
  show (if 0 ≤ (c : Int) ∧ (c : Int) < (l.length : Int) ∧ l.length ≤ lim then (l[(c : Int).toNat]?).bind _ else Option.none) = _
  rw [if_pos (by rw [lim_eq]; omega), Int.toNat_natCast, hu]
  show ((ev O e ρ H).bind _) = _
  rw [he]
  show ((bin2 o (.int x) v H).bind _) = _
  rw [hb]
  show ((H[r]?).bind fun l => if (c : Int) < (l.length : Int) ∧ l.length ≤ lim then some (Out.next, ρ, H.set r (l.set (c : Int).toNat w)) else Option.none) = _
  rw [hl]
  show (if (c : Int) < (l.length : Int) ∧ l.length ≤ lim then some (Out.next, ρ, H.set r (l.set (c : Int).toNat w)) else Option.none) = _
  rw [if_pos (by rw [lim_eq]; omega), Int.toNat_natCast]
theorem p_mod {x : Int} {m : Nat} (h : 0 < m) : bin2 .mod (.int x) (.int (m : Int)) H = some (.int (x % (m : Int)), H) := if_pos (by omega)
theorem p_mul3 {c : Nat} (h : c ≤ 1000) : bin2 .mul (.int 3) (.int ((c : Nat) : Int)) H = some (.int (3 * (c : Int)), H) := if_pos ⟨by rw [lim_eq]; decide, by rw [lim_eq]; omega⟩
abbrev P425 (O : Orc) : Prop := ∀ (H : Hp) (xs : List Int) (c m : Nat), H[0]? = some (xs.map V.int) → H[1]? = some [.ref 0, .int (c : Int)] → c ≤ 100 → xs.length ≤ 100 → 0 < m →
  ∃ r : Nat, r < m ∧ O 425 [.ref 1, .int (m : Int)] H = some (.int (r : Int), H.set 1 [.ref 0, .int ((c + 1 : Nat) : Int)])
theorem g425 {H : Hp} {xs : List Int} {c m : Nat} (h0 : H[0]? = some (xs.map V.int)) (h1 : H[1]? = some [.ref 0, .int (c : Int)]) (hc : c ≤ 100) (hx : xs.length ≤ 100) (hm : 0 < m) :
    ∃ r : Nat, r < m ∧ (exs O W b425 [some (.ref 1), some (.int (m : Int))] H).bind retOf = some (.int (r : Int), H.set 1 [.ref 0, .int ((c + 1 : Nat) : Int)]) := by
  have hlt := (List.getElem?_eq_some_iff.mp h1).1
  have ha : ex O W (.augS (.loc 0) (.lit (.int (1))) .add (.lit (.int (1)))) [some (.ref 1), some (.int (m : Int))] H = some (.next, [some (.ref 1), some (.int (m : Int))], H.set 1 [.ref 0, .int ((c + 1 : Nat) : Int)]) :=
    x_augS (c := 1) (x := (c : Int)) rfl rfl h1 (by simp) (by simp) rfl rfl rfl
  have k1 : (H.set 1 [.ref 0, .int ((c + 1 : Nat) : Int)])[1]? = some [.ref 0, .int ((c + 1 : Nat) : Int)] := by rw [List.getElem?_set_self hlt]
  have k0 : (H.set 1 [.ref 0, .int ((c + 1 : Nat) : Int)])[0]? = some (xs.map V.int) := by rw [List.getElem?_set_ne (by omega)]; exact h0
  generalize H.set 1 [.ref 0, .int ((c + 1 : Nat) : Int)] = H1 at ha k0 k1 ⊢
  have i1 : idx2 (.ref 1) (.int 1) H1 = some (.int ((c + 1 : Nat) : Int)) := idxR1 k1 rfl
  have i0 : idx2 (.ref 1) (.int 0) H1 = some (.ref 0) := idxR0 k1 rfl
  have hl : lenV (.ref 0) H1 = some (.int (xs.length : Int), H1) := by
    have := lenR k0 (by rw [List.length_map]; omega)
    rw [List.length_map] at this
    exact this
  have fin : ∀ x : Int, ∃ r : Nat, r < m ∧ x % (m : Int) = (r : Int) := fun x => ⟨(x % (m : Int)).toNat, by have := Int.emod_lt_of_pos x (show (0 : Int) < m from by omega); have := Int.emod_nonneg x (show (m : Int) ≠ 0 from by omega); omega, by have := Int.emod_nonneg x (show (m : Int) ≠ 0 from by omega); omega⟩
  by_cases hle : c + 1 ≤ xs.length
  · obtain ⟨r, hr, er⟩ := fin xs[c]
    have ix : idx2 (.ref 0) (.int (c : Int)) H1 = some (.int xs[c]) := idxR k0 (by rw [List.getElem?_map, List.getElem?_eq_getElem (by omega)]; rfl) (by omega)
    refine ⟨r, hr, ?_⟩
    unfold b425
    simp (disch := omega) only [↓s_cons, obs, sq_next, ↓x_ret, ↓e_bin, ↓e_ite, ↓e_cmp, ↓e_idx, ↓e_loc, List.getElem?_cons_zero, ↓e_lit, ↓e_len, q_le, nle, tr_bool, p_sub, ncs, if_true, List.getElem?_cons_succ, sq_ret, retOf_ret, ↓ha, i1, i0, hl, decide_eq_true hle, ix, p_mod hm, er]
  · obtain ⟨r, hr, er⟩ := fin (3 * ((c + 1 : Nat) : Int))
    refine ⟨r, hr, ?_⟩
    unfold b425
    simp (disch := omega) only [↓s_cons, obs, sq_next, ↓x_ret, ↓e_bin, ↓e_ite, ↓e_cmp, ↓e_idx, ↓e_loc, List.getElem?_cons_zero, ↓e_lit, ↓e_len, q_le, nle, tr_bool, p_sub, ncs, Bool.false_eq_true, if_false, List.getElem?_cons_succ, sq_ret, retOf_ret, ↓ha, i1, i0, hl, decide_eq_false hle, p_mul3, p_mod hm, er]
theorem f425 (n : Nat) : P425 (run FTf W (n + 1)) := fun H xs c m h0 h1 hc hx hm => by
  obtain ⟨r, hr, e⟩ := g425 (O := run FTf W n) (W := W) h0 h1 hc hx hm
  exact ⟨r, hr, (r425 _ _).trans e⟩

theorem idxRm {r : Nat} {l : List V} {v : V} (h : H[r]? = some (l ++ [v])) : idx2 (.ref r) (.int (-1)) H = some v := by
  show ((H[r]?).bind fun vs => if 0 ≤ (-1 : Int) ∧ (-1 : Int) ≤ (lim : Int) then vs[(-1 : Int).toNat]? else if (-1 : Int) = -1 then vs.getLast? else Option.none) = _
  rw [h]
  show (if 0 ≤ (-1 : Int) ∧ (-1 : Int) ≤ (lim : Int) then (l ++ [v])[(-1 : Int).toNat]? else if (-1 : Int) = -1 then (l ++ [v]).getLast? else Option.none) = _
  rw [if_neg (by omega), if_pos rfl]
  simp
theorem setRm {ρ : Loc} {r : Nat} {l : List V} {u : V} (v : V) (h : H[r]? = some (l ++ [u])) (hl : l.length ≤ 1000) : setV ρ (.ref r) (.int (-1)) v H = some (.next, ρ, H.set r (l ++ [v])) := by
  show ((H[r]?).bind fun l => if 0 ≤ (-1 : Int) ∧ (-1 : Int) < (l.length : Int) ∧ l.length ≤ lim then some (Out.next, ρ, H.set r (l.set (-1 : Int).toNat v)) else
      if (-1 : Int) = -1 ∧ 0 < l.length ∧ l.length ≤ lim then some (Out.next, ρ, H.set r (l.set (l.length - 1) v)) else Option.none) = _
  rw [h]
  show (if 0 ≤ (-1 : Int) ∧ (-1 : Int) < ((l ++ [u]).length : Int) ∧ (l ++ [u]).length ≤ lim then some (Out.next, ρ, H.set r ((l ++ [u]).set (-1 : Int).toNat v)) else if (-1 : Int) = -1 ∧ 0 < (l ++ [u]).length ∧ (l ++ [u]).length ≤ lim then some (Out.next, ρ, H.set r ((l ++ [u]).set ((l ++ [u]).length - 1) v)) else Option.none) = _
  rw [if_neg (by omega), if_pos ⟨rfl, by simp, by rw [lim_eq, List.length_append, List.length_singleton]; omega⟩]
  simp
noncomputable def tg : PP → List Nat
  | .t _ => tTx
  | .x _ => tEx
  | .c _ _ => tCa
noncomputable def rs : PP → List V
  | .t s => [.str s]
  | .x s => [.str s]
  | .c m l => [.str m, .fl (l.map vPr)]
theorem vq_eq : ∀ q, vq q = .tup (.str (tg q) :: rs q)
  | .t _ => rfl
  | .x _ => rfl
  | .c _ _ => rfl
theorem tg_t (q : PP) (h : ∀ s, q ≠ .t s) : (tg q == tTx) = false := by
  cases q with
  | t s => exact absurd rfl (h s)
  | x s => rfl
  | c m l => rfl
theorem ne_nil {n j : Nat} {acc : List PP} (hn : H[n]? = some (acc.map vq)) (hj : H[j]? = some []) (ho : ∀ q ∈ acc, okP q = true) (hl : acc.length ≤ 40) : cmp2 .ne (.ref n) (.ref j) H = some (!(acc == [])) := by
  show (same H (.ref n) (.ref j)).map (!·) = _
  rw [same_nil_l (rd_list hn (vq_VQs 0 H acc) ho hl) (rd_list (n := 0) (l := []) hj .nil (fun q hq => by cases hq) (by simp)) ho]
  rfl
theorem g432_t {r n : Nat} {acc : List PP} {q : PP} (hn : H[n]? = some (acc.map vq)) (ho : ∀ q ∈ acc, okP q = true) (hl : acc.length ≤ 39) (hz : ∀ s ∈ acc, ∀ u, s = .t u → u.length ≤ 5000) (hq : ∀ u, q = .t u → u.length ≤ 100) :
    ∃ H', exs O W fb432_0 [some (.ref r), some (.ref n), some (vq q)] H = some (.next, [some (.ref r), some (.ref n), some (vq q)], H') ∧ H'[n]? = some ((addP acc q).map vq) ∧ Ext n H H' := by
  have hlt := (List.getElem?_eq_some_iff.mp hn).1
  have htx : ([116, 101, 120, 116] : List Nat) = tTx := rfl
  have x1 : Ext n H (H ++ [[]]) := ⟨by simp, fun i hi _ => by rw [List.getElem?_append_left hi]⟩
  have hn1 : (H ++ [[]])[n]? = some (acc.map vq) := get_old hn _
  have hj : (H ++ [[]])[H.length]? = some ([] : List V) := by simp
  have hne := ne_nil hn1 hj ho (by omega)
  have end_app : ∀ (H0 : Hp), H0[n]? = some (acc.map vq) → Ext n H H0 → addP acc q = acc ++ [q] → ∃ H', (appV (.ref n) (vq q) H0) = some (.none, H') ∧ H'[n]? = some ((addP acc q).map vq) ∧ Ext n H H' := fun H0 h0 x e => by
    refine ⟨H0.set n (acc.map vq ++ [vq q]), appR _ h0 (by rw [List.length_map]; omega), ?_, x.trans (Ext.set n H0 _)⟩
    rw [List.getElem?_set_self (List.getElem?_eq_some_iff.mp h0).1, e, List.map_append]
    rfl
  by_cases ht : ∃ s, q = .t s
  · obtain ⟨s, rfl⟩ := ht
    rcases List.eq_nil_or_concat acc with rfl | ⟨l, w, rfl⟩
    · obtain ⟨H', e, e2, e3⟩ := end_app _ hn1 x1 rfl
      refine ⟨H', ?_, e2, e3⟩
      unfold fb432_0
      have hne : cmp2 .ne (.ref n) (.ref H.length) (H ++ [[]]) = some false := hne
      have e : appV (.ref n) (.tup [.str tTx, .str s]) (H ++ [[]]) = some (.none, H') := e
      have hv : vq (.t s) = .tup [.str tTx, .str s] := rfl
      simp (disch := omega) only [↓s_cons, ↓x_ite, ↓t_and, ↓t_cmp, ↓e_idx, ↓e_loc, List.getElem?_cons_succ, List.getElem?_cons_zero, obs, ↓e_lit, q_eqs, ↓e_lst, ↓es_nil, ↓e_neg, Bool.false_eq_true, if_false, if_true, ↓x_set, ↓e_tup, ↓es_cons, ↓e_bin, sq_id, ↓x_ex, ↓e_app, exV_none, sq_next, ↓s_nil, hv, idxT0, htx, beq_self_eq_true, hne, e]
    · rw [List.concat_eq_append] at *
      have hne2 : cmp2 .ne (.ref n) (.ref H.length) (H ++ [[]]) = some true := by
        rw [hne]
        cases l <;> rfl
      rw [List.map_append] at hn1
      have hn1 : (H ++ [[]])[n]? = some (l.map vq ++ [vq w]) := hn1
      have i1 := idxRm hn1
      by_cases hw : ∃ s0, w = .t s0
      · obtain ⟨s0, rfl⟩ := hw
        refine ⟨(H ++ [[]]).set n (l.map vq ++ [V.tup [V.str tTx, V.str (s0 ++ s)]]), ?_, ?_, x1.trans (Ext.set n _ _)⟩
        · have hv0 : vq (.t s0) = .tup [.str tTx, .str s0] := rfl
          have hv : vq (.t s) = .tup [.str tTx, .str s] := rfl
          rw [hv0] at hn1 i1
          have hset := fun ρ => setRm (ρ := ρ) (.tup [.str tTx, .str (s0 ++ s)]) hn1 (by rw [List.length_map]; rw [List.length_append] at hl; omega)
          have hs := hz (.t s0) (by simp) s0 rfl
          have hs' := hq s rfl
          unfold fb432_0
          simp (disch := omega) only [↓s_cons, ↓x_ite, ↓t_and, ↓t_cmp, ↓e_idx, ↓e_loc, List.getElem?_cons_succ, List.getElem?_cons_zero, obs, ↓e_lit, q_eqs, ↓e_lst, ↓es_nil, ↓e_neg, if_true, ↓x_set, ↓e_tup, ↓es_cons, ↓e_bin, sq_id, ↓x_ex, ↓e_app, sq_next, ↓s_nil, hv, idxT0, idxT1, htx, beq_self_eq_true, hne2, negV_int, i1, addS, hset]
        · rw [List.getElem?_set_self (by rw [List.length_append]; omega), addP_tt, List.map_append]
          rfl
      · have hw' : ∀ s0, w ≠ .t s0 := fun s0 h => hw ⟨s0, h⟩
        obtain ⟨H', e, e2, e3⟩ := end_app _ (by rw [List.map_append]; exact hn1) x1 (addP_nt l w s hw')
        refine ⟨H', ?_, e2, e3⟩
        have ht := tg_t w hw'
        have hv : vq (.t s) = .tup [.str tTx, .str s] := rfl
        rw [hv] at e
        rw [vq_eq w] at i1
        unfold fb432_0
        simp (disch := omega) only [↓s_cons, ↓x_ite, ↓t_and, ↓t_cmp, ↓e_idx, ↓e_loc, List.getElem?_cons_succ, List.getElem?_cons_zero, obs, ↓e_lit, q_eqs, ↓e_lst, ↓es_nil, ↓e_neg, if_true, ↓x_set, ↓e_tup, ↓es_cons, ↓e_bin, sq_id, ↓x_ex, ↓e_app, Bool.false_eq_true, exV_none, if_false, sq_next, ↓s_nil, hv, idxT0, htx, beq_self_eq_true, hne2, negV_int, i1, ht, e]
  · have hq' : ∀ s, q ≠ .t s := fun s h => ht ⟨s, h⟩
    have hadd : addP acc q = acc ++ [q] := by
      cases q with
      | t s => exact absurd rfl (hq' s)
      | x s => exact addP_x _ _
      | c m l => exact addP_c _ _ _
    obtain ⟨H', e, e2, e3⟩ := end_app H hn (Ext.refl n H) hadd
    refine ⟨H', ?_, e2, e3⟩
    have ht := tg_t q hq'
    rw [vq_eq q] at e ⊢
    unfold fb432_0
    simp (disch := omega) only [↓s_cons, ↓x_ite, ↓t_and, ↓t_cmp, ↓e_idx, ↓e_loc, List.getElem?_cons_succ, List.getElem?_cons_zero, obs, ↓e_lit, q_eqs, ↓e_lst, ↓es_nil, ↓e_neg, Bool.false_eq_true, if_false, ↓x_set, ↓e_tup, ↓es_cons, ↓e_bin, sq_id, ↓x_ex, ↓e_app, exV_none, sq_next, ↓s_nil, idxT0, htx, ht, e]
theorem rl_end {i r n k : Nat} {b : Loc → Hp → Rs} {ρ : Loc} {l : List V} (hr : H[r]? = some l) (hk : l[k]? = Option.none) : rloop i r b (n + 1) k ρ H = some (.next, ρ, H) := by
  show (H[r]?).bind _ = _
  rw [hr]
  show (match l[k]? with | Option.none => some (Out.next, ρ, H) | some v => (b (ρ.set i (some v)) H).bind (lp (rloop i r b n (k + 1)))) = _
  rw [hk]
theorem rl_next {i r n k : Nat} {b : Loc → Hp → Rs} {ρ ρ2 : Loc} {H2 : Hp} {l : List V} {v : V} (hr : H[r]? = some l) (hk : l[k]? = some v) (hb : b (ρ.set i (some v)) H = some (.next, ρ2, H2)) : rloop i r b (n + 1) k ρ H = rloop i r b n (k + 1) ρ2 H2 := by
  show (H[r]?).bind _ = _
  rw [hr]
  show (match l[k]? with | Option.none => some (Out.next, ρ, H) | some v => (b (ρ.set i (some v)) H).bind (lp (rloop i r b n (k + 1)))) = _
  rw [hk]
  show (b (ρ.set i (some v)) H).bind _ = _
  rw [hb]
  rfl
theorem l432 {r n : Nat} {ql : List PP} (hrn : r ≠ n) : ∀ (rest : List PP) (k : Nat) (acc : List PP) (H : Hp) (x : Option V) (fuel : Nat), ql.drop k = rest → H[r]? = some (ql.map vq) → r < H.length → H[n]? = some (acc.map vq) → (∀ q ∈ acc, okP q = true) → (∀ q ∈ rest, okP q = true) →
    acc.length + rest.length ≤ 40 → Sz acc (100 * k) → k + rest.length ≤ 40 → (∀ q ∈ rest, ∀ u, q = .t u → u.length ≤ 100) → rest.length < fuel →
    ∃ H' x', rloop 2 r (exs O W fb432_0) fuel k [some (.ref r), some (.ref n), x] H = some (.next, [some (.ref r), some (.ref n), x'], H') ∧ H'[n]? = some ((rest.foldl addP acc).map vq) ∧ Ext n H H'
  | [], k, acc, H, x, fuel, hd, hr, _, hn, ho, ho', hl, hz, hk, hq, hf => by
    obtain ⟨fuel, rfl⟩ : ∃ f, fuel = f + 1 := ⟨fuel - 1, by omega⟩
    refine ⟨H, x, rl_end hr ?_, hn, Ext.refl n H⟩
    have := List.drop_eq_nil_iff.mp hd
    rw [List.getElem?_map, List.getElem?_eq_none this]
    rfl
  | q :: rest, k, acc, H, x, fuel, hd, hr, hrl, hn, ho, ho', hl, hz, hk, hq, hf => by
    obtain ⟨fuel, rfl⟩ : ∃ f, fuel = f + 1 := ⟨fuel - 1, by omega⟩
    rw [List.length_cons] at hl hk hf
    obtain ⟨H1, e1, e2, e3⟩ := g432_t (O := O) (W := W) (r := r) (q := q) hn ho (by omega) (fun s hs u e => by have := hz.t s hs u e; omega) (hq q (.head _))
    have hk' : (ql.map vq)[k]? = some (vq q) := by
      rw [List.getElem?_map]
      have : (ql.drop k)[0]? = some q := by rw [hd]; rfl
      rw [List.getElem?_drop] at this
      rw [show k + 0 = k from rfl] at this
      rw [this]
      rfl
    have hz' : Sz (addP acc q) (100 * (k + 1)) := by
      have := hz.add (k := 100) (by omega) (hq q (.head _))
      rw [show 100 * (k + 1) = 100 * k + 100 from by omega]
      exact this
    have hlen := addP_len acc q
    obtain ⟨H2, x2, f1, f2, f3⟩ := l432 hrn rest (k + 1) (addP acc q) H1 (some (vq q)) fuel (by rw [← List.drop_drop, hd]; rfl) ((e3.2 r hrl hrn).trans hr) (Nat.lt_of_lt_of_le hrl e3.1) e2
      (okP_add ho (ho' q (.head _))) (fun p hp => ho' p (.tail _ hp)) (by omega) hz' (by omega) (fun p hp => hq p (.tail _ hp)) (by omega)
    exact ⟨H2, x2, (rl_next hr hk' e1).trans f1, f2, e3.trans f3⟩
abbrev P432 (O : Orc) : Prop := ∀ (H : Hp) (r : Nat) (ql : List PP), H[r]? = some (ql.map vq) → (∀ q ∈ ql, okP q = true) → ql.length ≤ 40 → (∀ q ∈ ql, ∀ u, q = .t u → u.length ≤ 100) →
  ∃ H', O 432 [.ref r] H = some (.ref H.length, H') ∧ H'[H.length]? = some ((ql.foldl addP []).map vq) ∧ H.length < H'.length ∧ ∀ i, i < H.length → H'[i]? = H[i]?
theorem f432 (hW : 2000 ≤ W) (n : Nat) : P432 (run FTf W (n + 1)) := fun H r ql hr ho hl hq => by
  have hrl := (List.getElem?_eq_some_iff.mp hr).1
  obtain ⟨H', x', e, e2, e3⟩ := l432 (O := run FTf W n) (W := W) (r := r) (n := H.length) (ql := ql) (by omega) ql 0 [] (H ++ [[]]) Option.none W rfl (get_old hr _) (by rw [List.length_append]; omega) (by simp) (fun q hq => by cases hq) ho (by simpa using hl) ⟨by simp, fun s hs => by cases hs⟩ (by omega) hq (by omega)
  have hlen := e3.1
  rw [List.length_append, List.length_singleton] at hlen
  refine ⟨H', (r432 _).trans ?_, e2, by omega, fun i hi => (e3.2 i (by rw [List.length_append]; omega) (by omega)).trans (by rw [List.getElem?_append_left hi])⟩
  have hf : ∀ ρ, forX W 2 (exs (run FTf W n) W fb432_0) ρ (.ref r) (H ++ [[]]) = rloop 2 r (exs (run FTf W n) W fb432_0) W 0 ρ (H ++ [[]]) := fun _ => rfl
  unfold b432
  generalize run FTf W n = O at e hf ⊢
  simp (disch := omega) only [↓s_cons, ↓x_asg, ↓e_lst, ↓es_nil, obs, List.set_cons_succ, List.set_cons_zero, sq_next, ↓x_forE, ↓e_loc, List.getElem?_cons_zero, ↓x_ret, List.getElem?_cons_succ, sq_ret, retOf_ret, hf, e]
end
noncomputable def kinds : List Nat := List.replicate 15 0 ++ List.replicate 23 1 ++ [2, 3, 4, 5]
noncomputable def thV (R : Row) (k : Nat) : V := if k = 0 then .none else if k = 1 then .fl ((R.pat.getD []).map vq) else .ref (k + 4)
noncomputable def rowV (R : Row) (k : Nat) : V := .tup [.str R.raw, .fl (R.due.map vq), thV R k]
noncomputable def rowsK : List (Row × Nat) := rowsP.zip kinds
noncomputable def rowsV : List V := rowsK.map fun q => rowV q.1 q.2
noncomputable def restH : Hp := [(rowsV.drop 15).take 18, rowsV.take 33, rowsV.take 38, rowsV.drop 38, [], [], [], [], rowsV]
noncomputable def s1 : S := hd1 b437
noncomputable def r1 : Ss := tl1 b437
noncomputable def s2 : S := hd1 r1
noncomputable def r2 : Ss := tl1 r1
noncomputable def s3 : S := hd1 r2
noncomputable def r3 : Ss := tl1 r2
noncomputable def s4 : S := hd1 r3
noncomputable def r4 : Ss := tl1 r3
section
variable {O : Orc} {W : Nat}
theorem law_s2 (v a b : V) (x : List V) (H0 : List V) : ex O W s2 [some v, some a, Option.none, Option.none, Option.none, Option.none, Option.none, Option.none, Option.none, Option.none, Option.none] [x, H0] =
    some (.next, [some v, some a, Option.none, Option.none, some (.ref 10), Option.none, Option.none, Option.none, Option.none, Option.none, Option.none], [x, H0] ++ restH) := by kernel_rfl!
theorem law_s3 (v a b : V) (x : List V) (H0 : List V) : ex O W s3 [some v, some a, Option.none, Option.none, some b, Option.none, Option.none, Option.none, Option.none, Option.none, Option.none] ([x, H0] ++ restH) =
    some (.next, [some v, some a, Option.none, Option.none, some b, some (.str []), some (.ref 11), some (.str []), some (.ref 12), Option.none, Option.none], [x, H0] ++ restH ++ [[], []]) := by kernel_rfl!
theorem x_sltf {H : Hp} (s : List V) (h : s.length ≤ 1048576) : sltV (.fl s) (.int 20) H = some (.ref H.length, H ++ [s.take 20]) := by
  show (if 0 ≤ (20 : Int) ∧ (20 : Int) ≤ (lim : Int) ∧ s.length ≤ lim then some (V.ref H.length, H ++ [s.take (20 : Int).toNat]) else Option.none) = _
  rw [if_pos (by rw [lim_eq]; omega)]
  rfl
theorem law_s1 {xs : List Int} (hx : xs.length ≤ 1000) : ex O W s1 [some (.fl (xs.map V.int)), Option.none, Option.none, Option.none, Option.none, Option.none, Option.none, Option.none, Option.none, Option.none, Option.none] [] =
    some (.next, [some (.fl (xs.map V.int)), some (.ref 1), Option.none, Option.none, Option.none, Option.none, Option.none, Option.none, Option.none, Option.none, Option.none], [(xs.take 20).map V.int, [.ref 0, .int 0]]) := by
  have h : s1 = .asg 1 (.lst (.cons (.slct (.loc 0) (.lit (.int (20)))) (.cons (.lit (.int (0))) .nil))) := rfl
  have hs := fun H => x_sltf (H := H) (xs.map V.int) (by rw [List.length_map]; omega)
  rw [h]
  simp (disch := omega) only [↓x_asg, ↓e_lst, ↓es_cons, ↓e_slct, ↓e_loc, List.getElem?_cons_zero, obs, ↓e_lit, ↓es_nil, List.set_cons_succ, List.set_cons_zero, hs]
  rw [List.map_take]
  rfl
noncomputable def row0 : Row := ⟨[], [], Option.none⟩
theorem rowsK_len : rowsK.length = 42 := by kernel_rfl!
noncomputable def kOk (R : Row) (k : Nat) : Bool := if k = 0 then R.pat == some [.t R.raw] else if k = 1 then (match R.pat with | some (_ :: _) => true | _ => false) else R.pat == Option.none && decide (k ≤ 5)
noncomputable def rOk (R : Row) : Bool := R.due.all okP && (decide (R.due.length ≤ 2) && (R.due.all (fun q => match q with | .t u => decide (u.length ≤ 99) | _ => true) && (decide (R.raw.length ≤ 20) &&
  (match R.pat with | some d => d.all okP && (decide (d.length ≤ 2) && d.all (fun q => match q with | .t u => decide (u.length ≤ 99) | _ => true)) | Option.none => true))))
theorem rowsK_ok : rowsK.all (fun q => kOk q.1 q.2 && rOk q.1) = true := by decide +kernel
theorem rowsK_mem : ∀ q ∈ rowsK, q.1 ∈ rowsP := fun q hq => (List.of_mem_zip (a := q.1) (b := q.2) hq).1
end
noncomputable def Old (H H' : Hp) : Prop := ∀ (i : Nat) (l : List V), H[i]? = some l → H'[i]? = some l
theorem Old.app (H x : Hp) : Old H (H ++ x) := fun i l h => get_old h x
theorem Old.trans {H1 H2 H3 : Hp} (a : Old H1 H2) (b : Old H2 H3) : Old H1 H3 := fun i l h => b i l (a i l h)
theorem Old.refl (H : Hp) : Old H H := fun _ _ h => h
theorem Old.of {H H' : Hp} (h : ∀ i, i < H.length → H'[i]? = H[i]?) : Old H H' := fun i l e => (h i (List.getElem?_eq_some_iff.mp e).1).trans e
section
variable {O : Orc} {W : Nat}
theorem addRF {H : Hp} {d : Nat} {dl p : List V} (h : H[d]? = some dl) (hl : dl.length + p.length ≤ 1048576) : bin2 .add (.ref d) (.fl p) H = some (.ref H.length, H ++ [dl ++ p]) := by
  show ((H[d]?).bind fun x => if x.length + p.length ≤ lil then some (V.ref H.length, H ++ [x ++ p]) else Option.none) = _
  rw [h]
  exact if_pos hl
theorem addRR {H : Hp} {d j : Nat} {dl p : List V} (h : H[d]? = some dl) (hj : H[j]? = some p) (hl : dl.length + p.length ≤ 1048576) : bin2 .add (.ref d) (.ref j) H = some (.ref H.length, H ++ [dl ++ p]) := by
  show ((H[d]?).bind fun x => (H[j]?).bind fun y => if x.length + y.length ≤ lil then some (V.ref H.length, H ++ [x ++ y]) else Option.none) = _
  rw [h, hj]
  exact if_pos hl
noncomputable def eDot (i : Nat) (e : E) : E := .bin .add (.bin .add (.loc i) e) (.lst (.cons (.tup (.cons (.lit (.str [116, 101, 120, 116])) (.cons (.lit (.str [46])) .nil))) .nil))
theorem ev_dot {ρ : Loc} {H H' : Hp} {i d : Nat} {e : E} {b : V} {dl p : List V} (hi : ρ[i]? = some (some (.ref d))) (he : ev O e ρ H = some (b, H')) (hb : bin2 .add (.ref d) b H' = some (.ref H'.length, H' ++ [dl ++ p])) (hl : dl.length + p.length ≤ 1000) :
    ∃ H'' d', ev O (eDot i e) ρ H = some (.ref d', H'') ∧ H''[d']? = some (dl ++ p ++ [vq (.t [46])]) ∧ Old H' H'' ∧ H'.length ≤ d' := by
  have h1 : (H' ++ [dl ++ p] ++ [[vq (.t [46])]])[H'.length]? = some (dl ++ p) := by simp
  have h2 : (H' ++ [dl ++ p] ++ [[vq (.t [46])]])[(H' ++ [dl ++ p]).length]? = some [vq (.t [46])] := by rw [List.getElem?_append_right (Nat.le_refl _), Nat.sub_self]; rfl
  have hadd := addRR h1 h2 (by simp; omega)
  have htx : ([116, 101, 120, 116] : List Nat) = tTx := rfl
  have hv : V.tup [.str tTx, .str [46]] = vq (.t [46]) := rfl
  refine ⟨H' ++ [dl ++ p] ++ [[vq (.t [46])]] ++ [dl ++ p ++ [vq (.t [46])]], (H' ++ [dl ++ p] ++ [[vq (.t [46])]]).length, ?_, ?_, (Old.app H' [dl ++ p]).trans ((Old.app _ [[vq (.t [46])]]).trans (Old.app _ [dl ++ p ++ [vq (.t [46])]])), ?_⟩
  · unfold eDot
    simp (disch := omega) only [↓e_bin, ↓e_loc, obs, ↓e_lst, ↓es_cons, ↓e_tup, ↓e_lit, ↓es_nil, hi, he, hb, htx, hv, hadd]
  · rw [List.getElem?_append_right (Nat.le_refl _), Nat.sub_self]; rfl
  · simp only [List.length_append]; omega
noncomputable def pF (R : Row) : Pc := (R.raw, R.due)
noncomputable def pT : List Row → List Pc
  | [] => []
  | R :: L => match R.pat with
    | some d => (R.raw, d) :: pT L
    | Option.none => pT L
theorem pT_app (L : List Row) (R : Row) : pT (L ++ [R]) = pT L ++ (match R.pat with | some d => [(R.raw, d)] | Option.none => []) := by
  induction L with
  | nil => cases h : R.pat <;> simp [pT, h]
  | cons S L ih =>
    rw [List.cons_append, pT, pT, ih]
    cases S.pat <;> rfl
theorem txt_app (l : List Pc) (q : Pc) : txtOf (l ++ [q]) = txtOf l ++ q.1 ++ [46] := by
  unfold txtOf
  rw [List.flatMap_append]
  simp
theorem due_app (l : List Pc) (q : Pc) : dueOf (l ++ [q]) = dueOf l ++ q.2 ++ [PP.t [46]] := by
  unfold dueOf
  rw [List.flatMap_append]
  simp
structure LI (v0 : V) (xs : List Int) (c : Nat) (L : List Row) (ρ : Loc) (H : Hp) : Prop where
  h0 : H[0]? = some (xs.map V.int)
  h1 : H[1]? = some [.ref 0, .int (c : Int)]
  hr : H[10]? = some rowsV
  he : ∀ j, 6 ≤ j → j ≤ 9 → H[j]? = some []
  loc : ∃ (t2 t3 t9 t10 : Option V) (d o : Nat), ρ = [some v0, some (.ref 1), t2, t3, some (.ref 10), some (.str (txtOf (L.map pF))), some (.ref d), some (.str (txtOf (pT L))), some (.ref o), t9, t10] ∧
    H[d]? = some ((dueOf (L.map pF)).map vq) ∧ H[o]? = some ((dueOf (pT L)).map vq) ∧ 11 ≤ d ∧ 11 ≤ o
  mem : ∀ R ∈ L, R ∈ rowsP ∧ rOk R = true
theorem lenF : ∀ (L : List Row), (∀ R ∈ L, R ∈ rowsP ∧ rOk R = true) → (txtOf (L.map pF)).length ≤ 21 * L.length ∧ (dueOf (L.map pF)).length ≤ 3 * L.length
  | [], _ => by simp [txtOf, dueOf]
  | R :: L, h => by
    have ih := lenF L fun S hS => h S (.tail _ hS)
    have hR := (h R (.head _)).2
    simp only [rOk, Bool.and_eq_true, decide_eq_true_eq] at hR
    show (txtOf (pF R :: L.map pF)).length ≤ _ ∧ (dueOf (pF R :: L.map pF)).length ≤ _
    have e1 : txtOf (pF R :: L.map pF) = R.raw ++ [46] ++ txtOf (L.map pF) := rfl
    have e2 : dueOf (pF R :: L.map pF) = R.due ++ [PP.t [46]] ++ dueOf (L.map pF) := rfl
    rw [e1, e2]
    simp only [List.length_append, List.length_cons, List.length_nil]
    omega
theorem lenT : ∀ (L : List Row), (∀ R ∈ L, R ∈ rowsP ∧ rOk R = true) → (txtOf (pT L)).length ≤ 21 * L.length ∧ (dueOf (pT L)).length ≤ 3 * L.length
  | [], _ => by simp [txtOf, dueOf, pT]
  | R :: L, h => by
    have ih := lenT L fun S hS => h S (.tail _ hS)
    have hR := (h R (.head _)).2
    simp only [rOk, Bool.and_eq_true, decide_eq_true_eq] at hR
    rw [pT, List.length_cons]
    cases hp : R.pat with
    | none => dsimp only; omega
    | some d =>
      rw [hp] at hR
      dsimp only at hR ⊢
      simp only [Bool.and_eq_true, decide_eq_true_eq] at hR
      have e1 : txtOf ((R.raw, d) :: pT L) = R.raw ++ [46] ++ txtOf (pT L) := rfl
      have e2 : dueOf ((R.raw, d) :: pT L) = d ++ [PP.t [46]] ++ dueOf (pT L) := rfl
      rw [e1, e2]
      simp only [List.length_append, List.length_singleton]
      omega
theorem fb437 : fb437_0 = .cons (.asgT [2, 3, 10] (.idx (.loc 4) (.call 425 (.cons (.loc 1) (.cons (.lit (.int (42))) .nil)))))
    (.cons (.asgR [5, 6] (.tup (.cons (.bin .add (.bin .add (.loc 5) (.loc 2)) (.lit (.str [46]))) (.cons (eDot 6 (.loc 3)) .nil))))
    (.cons (.ite (.cmp .ne (.loc 10) (.lst .nil)) (.cons (.asgR [7, 8] (.tup (.cons (.bin .add (.bin .add (.loc 7) (.loc 2)) (.lit (.str [46]))) (.cons (eDot 8 (.ite (.cmp .isnone (.loc 10) (.lit .none)) (.lst (.cons (.tup (.cons (.lit (.str [116, 101, 120, 116])) (.cons (.loc 2) .nil))) .nil)) (.loc 10))) .nil)))) .nil) .nil) .nil)) := rfl
theorem addS1 {H : Hp} (x y : List Nat) (h : x.length + y.length ≤ 1048576) : bin2 .add (.str x) (.str y) H = some (.str (x ++ y), H) := if_pos (lim_le h)
theorem rev2 {α : Type} (a b : α) : [a, b].reverse = [b, a] := rfl
theorem is_nn {H : Hp} : cmp2 .isnone .none .none H = some true := rfl
theorem is_fn {H : Hp} (l : List V) : cmp2 .isnone (.fl l) .none H = some false := rfl
noncomputable def r437 : Ss := .cons (.ite (.cmp .ne (.loc 10) (.lst .nil)) (.cons (.asgR [7, 8] (.tup (.cons (.bin .add (.bin .add (.loc 7) (.loc 2)) (.lit (.str [46]))) (.cons (eDot 8 (.ite (.cmp .isnone (.loc 10) (.lit .none)) (.lst (.cons (.tup (.cons (.lit (.str [116, 101, 120, 116])) (.cons (.loc 2) .nil))) .nil)) (.loc 10))) .nil)))) .nil) .nil) .nil
theorem turn1 {x0 x2 x3 x7 x8 x9 x10 : Option V} {T F : V} {H H1 H2 : Hp} {A R A1 A' : List Nat} {d d' : Nat} {r : Int} (e : O 425 [.ref 1, .int 42] H = some (.int r, H1)) (ix : idx2 (.ref 10) (.int r) H1 = some (.tup [.str R, F, T]))
    (a1 : ∀ H, bin2 .add (.str A) (.str R) H = some (.str A1, H)) (a2 : ∀ H, bin2 .add (.str A1) (.str [46]) H = some (.str A', H))
    (f1 : ev O (eDot 6 (.loc 3)) [x0, some (.ref 1), some (.str R), some F, some (.ref 10), some (.str A), some (.ref d), x7, x8, x9, some T] H1 = some (.ref d', H2)) :
    exs O W fb437_0 [x0, some (.ref 1), x2, x3, some (.ref 10), some (.str A), some (.ref d), x7, x8, x9, x10] H = exs O W r437 [x0, some (.ref 1), some (.str R), some F, some (.ref 10), some (.str A'), some (.ref d'), x7, x8, x9, some T] H2 := by
  rw [fb437]
  unfold r437
  generalize eDot 6 (.loc 3) = e6 at f1 ⊢
  generalize S.ite _ _ _ = si
  simp (disch := omega) only [↓s_cons, ↓x_asgT, ↓e_idx, ↓e_loc, List.getElem?_cons_succ, List.getElem?_cons_zero, obs, ↓e_call, ↓es_cons, ↓e_lit, ↓es_nil, asgV_tup, setAll_cons, List.set_cons_succ, List.set_cons_zero, setAll_nil, sq_next, ↓x_asgR, ↓e_tup, ↓e_bin, asgRV_tup, sq_id, e, ix, a1, a2, ↓f1, rev2]
theorem turn2 {x0 x1 x3 x4 x5 x6 x9 : Option V} {T : V} {H2 H5 : Hp} {A R A1 A' : List Nat} {o o' : Nat} (hne : cmp2 .ne T (.ref H2.length) (H2 ++ [[]]) = some true)
    (b1 : ∀ H, bin2 .add (.str A) (.str R) H = some (.str A1, H)) (b2 : ∀ H, bin2 .add (.str A1) (.str [46]) H = some (.str A', H))
    (g1 : ev O (eDot 8 (.ite (.cmp .isnone (.loc 10) (.lit .none)) (.lst (.cons (.tup (.cons (.lit (.str [116, 101, 120, 116])) (.cons (.loc 2) .nil))) .nil)) (.loc 10))) [x0, x1, some (.str R), x3, x4, x5, x6, some (.str A), some (.ref o), x9, some T] (H2 ++ [[]]) = some (.ref o', H5)) :
    exs O W r437 [x0, x1, some (.str R), x3, x4, x5, x6, some (.str A), some (.ref o), x9, some T] H2 = some (.next, [x0, x1, some (.str R), x3, x4, x5, x6, some (.str A'), some (.ref o'), x9, some T], H5) := by
  unfold r437
  generalize eDot 8 _ = e8 at g1 ⊢
  simp (disch := omega) only [↓s_cons, ↓x_ite, ↓t_cmp, ↓e_loc, List.getElem?_cons_succ, List.getElem?_cons_zero, obs, ↓e_lst, ↓es_nil, ↓x_asgR, ↓e_tup, ↓es_cons, ↓e_bin, ↓e_lit, sq_id, ↓s_nil, asgRV_tup, setAll_cons, List.set_cons_succ, List.set_cons_zero, setAll_nil, if_true, sq_next, hne, b1, b2, ↓g1, rev2]
theorem turn3 {x0 x1 x2 x3 x4 x5 x6 x7 x8 x9 : Option V} {T : V} {H2 : Hp} (hne : cmp2 .ne T (.ref H2.length) (H2 ++ [[]]) = some false) :
    exs O W r437 [x0, x1, x2, x3, x4, x5, x6, x7, x8, x9, some T] H2 = some (.next, [x0, x1, x2, x3, x4, x5, x6, x7, x8, x9, some T], H2 ++ [[]]) := by
  unfold r437
  generalize S.asgR _ _ = s1
  simp (disch := omega) only [↓s_cons, ↓x_ite, ↓t_cmp, ↓e_loc, List.getElem?_cons_succ, List.getElem?_cons_zero, obs, ↓e_lst, ↓es_nil, sq_id, ↓s_nil, Bool.false_eq_true, if_false, sq_next, hne]
theorem lim_of {a b c d : Nat} (h1 : a ≤ b) (h2 : c ≤ d) (h : (b + d).ble 1048576 = true) : a + c ≤ 1048576 := Nat.le_trans (Nat.add_le_add h1 h2) (Nat.le_of_ble_eq_true h)
theorem lim_of' {a b c d e : Nat} (h1 : a ≤ b) (h2 : c ≤ d) (h : (b + d).ble e = true) : a + c ≤ e := Nat.le_trans (Nat.add_le_add h1 h2) (Nat.le_of_ble_eq_true h)
theorem ne_1 {j k : Nat} (h : k ≤ j) (hk : Nat.ble 2 k = true) : j ≠ 1 := Nat.ne_of_gt (Nat.le_trans (Nat.le_of_ble_eq_true hk) h)
theorem k_rng {k : Nat} (h0 : ¬k = 0) (h1 : ¬k = 1) (h : k ≤ 5) : 6 ≤ k + 4 ∧ k + 4 ≤ 9 := by omega
theorem len_app {H : Hp} (l : List (List V)) : H.length ≤ (H ++ l).length := by
  rw [List.length_append]
  exact Nat.le_add_right _ _
theorem turn (h425 : P425 O) {v0 v : V} {xs : List Int} {c : Nat} {L : List Row} {ρ : Loc} {H : Hp} (I : LI v0 xs c L ρ H) (hx : xs.length ≤ 100) (hc : c ≤ 100) (hL : L.length ≤ 10) :
    ∃ R ρ' H', exs O W fb437_0 (ρ.set 9 (some v)) H = some (.next, ρ', H') ∧ LI v0 xs (c + 1) (L ++ [R]) ρ' H' := by
  obtain ⟨r, hr, e425⟩ := h425 H xs c 42 I.h0 I.h1 hc hx (Nat.zero_lt_succ 41)
  have hlt := (List.getElem?_eq_some_iff.mp I.h1).1
  obtain ⟨t2, t3, t9, t10, d, o, rfl, hd, ho, hd11, ho11⟩ := I.loc
  -- the row
  have hrk : r < rowsK.length := by rw [rowsK_len]; exact hr
  have hq : rowsV[r]? = some (rowV rowsK[r].1 rowsK[r].2) := by
    unfold rowsV
    rw [List.getElem?_map, List.getElem?_eq_getElem hrk]
    rfl
  have hmem : rowsK[r] ∈ rowsK := List.getElem_mem hrk
  generalize rowsK[r] = q at hq hmem
  have hok := List.all_eq_true.mp rowsK_ok q hmem
  have hin := rowsK_mem q hmem
  obtain ⟨R, k⟩ := q
  dsimp only at hq hok hin
  rw [Bool.and_eq_true] at hok
  obtain ⟨hk, hR⟩ := hok
  have hR' := hR
  simp only [rOk, Bool.and_eq_true, decide_eq_true_eq] at hR'
  have m21 := Nat.mul_le_mul_left 21 hL
  have m3 := Nat.mul_le_mul_left 3 hL
  have nA : (txtOf (L.map pF)).length ≤ 210 := Nat.le_trans (lenF L I.mem).1 m21
  have nD : (txtOf (pT L)).length ≤ 210 := Nat.le_trans (lenT L I.mem).1 m21
  have nB : ((dueOf (L.map pF)).map vq).length ≤ 30 := by rw [List.length_map]; exact Nat.le_trans (lenF L I.mem).2 m3
  have nC : ((dueOf (pT L)).map vq).length ≤ 30 := by rw [List.length_map]; exact Nat.le_trans (lenT L I.mem).2 m3
  have nE : (R.due.map vq).length ≤ 2 := by rw [List.length_map]; exact hR'.2.1
  have nR := hR'.2.2.2.1
  have nAR : (txtOf (L.map pF) ++ R.raw).length ≤ 230 := by rw [List.length_append]; exact Nat.add_le_add nA nR
  have nDR : (txtOf (pT L) ++ R.raw).length ≤ 230 := by rw [List.length_append]; exact Nat.add_le_add nD nR
  have hm : ∀ S ∈ L ++ [R], S ∈ rowsP ∧ rOk S = true := fun S hS => by
    rcases List.mem_append.mp hS with h | h
    · exact I.mem S h
    · rw [List.mem_singleton.mp h]; exact ⟨hin, hR⟩
  -- the store behind the draw
  have oldS : ∀ i, i ≠ 1 → (H.set 1 [.ref 0, .int ((c + 1 : Nat) : Int)])[i]? = H[i]? := fun i hi => by rw [List.getElem?_set_ne (Ne.symm hi)]
  have k0 := (oldS 0 Nat.zero_ne_one).trans I.h0
  have k1 : (H.set 1 [.ref 0, .int ((c + 1 : Nat) : Int)])[1]? = some [.ref 0, .int ((c + 1 : Nat) : Int)] := by rw [List.getElem?_set_self hlt]
  have kr := (oldS 10 (ne_1 (Nat.le_refl 10) rfl)).trans I.hr
  have ke : ∀ j, 6 ≤ j → j ≤ 9 → (H.set 1 [.ref 0, .int ((c + 1 : Nat) : Int)])[j]? = some [] := fun j a b => (oldS j (ne_1 a rfl)).trans (I.he j a b)
  have kd := (oldS d (ne_1 hd11 rfl)).trans hd
  have ko := (oldS o (ne_1 ho11 rfl)).trans ho
  have hlen : 11 ≤ (H.set 1 [.ref 0, .int ((c + 1 : Nat) : Int)]).length := (List.getElem?_eq_some_iff.mp kr).1
  generalize H.set 1 [.ref 0, .int ((c + 1 : Nat) : Int)] = H1 at e425 k0 k1 kr ke kd ko hlen
  have ix : idx2 (.ref 10) (.int (r : Int)) H1 = some (rowV R k) := idxR kr hq (Nat.le_trans (Nat.le_of_lt hr) (Nat.le_of_ble_eq_true rfl))
  -- due
  obtain ⟨H2, d', f1, f2, f3, f4⟩ := ev_dot (O := O) (ρ := [some v0, some (.ref 1), some (.str R.raw), some (.fl (R.due.map vq)), some (.ref 10), some (.str (txtOf (L.map pF))), some (.ref d), some (.str (txtOf (pT L))), some (.ref o), some v, some (thV R k)])
    (H := H1) (H' := H1) (i := 6) (d := d) (e := .loc 3) (b := .fl (R.due.map vq)) (dl := (dueOf (L.map pF)).map vq) (p := R.due.map vq) rfl rfl (addRF kd (lim_of nB nE rfl)) (lim_of' nB nE rfl)
  have hdue : (dueOf (L.map pF)).map vq ++ R.due.map vq ++ [vq (.t [46])] = (dueOf ((L ++ [R]).map pF)).map vq := by
    rw [List.map_append, List.map_cons, List.map_nil, due_app]
    simp [pF]
  rw [hdue] at f2
  have hlen2 := (List.getElem?_eq_some_iff.mp f2).1
  have htxt : txtOf (L.map pF) ++ R.raw ++ [46] = txtOf ((L ++ [R]).map pF) := by
    rw [List.map_append, List.map_cons, List.map_nil, txt_app]
    rfl
  have a1 := fun H => addS1 (H := H) (txtOf (L.map pF)) R.raw (lim_of nA nR rfl)
  have a2 := fun H => addS1 (H := H) (txtOf (L.map pF) ++ R.raw) [46] (lim_of nAR (Nat.le_refl 1) rfl)
  have b1 := fun H => addS1 (H := H) (txtOf (pT L)) R.raw (lim_of nD nR rfl)
  have b2 := fun H => addS1 (H := H) (txtOf (pT L) ++ R.raw) [46] (lim_of nDR (Nat.le_refl 1) rfl)
  rw [htxt] at a2
  have x3 : Old H2 (H2 ++ [[]]) := Old.app _ _
  have hnil : (H2 ++ [[]])[H2.length]? = some ([] : List V) := by simp
  have x03 := f3.trans x3
  have rn : rd 64 (H2 ++ [[]]) (.ref H2.length) = some (.list []) := rd_list (n := 0) (l := []) hnil .nil (fun q hq => by cases hq) (by simp)
  -- what the turn leaves where the pattern takes the piece too
  have yes : ∀ (dd : List PP) (H4 : Hp) (b : V), R.pat = some dd → cmp2 .ne (thV R k) (.ref H2.length) (H2 ++ [[]]) = some true →
      ev O (.ite (.cmp .isnone (.loc 10) (.lit .none)) (.lst (.cons (.tup (.cons (.lit (.str [116, 101, 120, 116])) (.cons (.loc 2) .nil))) .nil)) (.loc 10))
        [some v0, some (.ref 1), some (.str R.raw), some (.fl (R.due.map vq)), some (.ref 10), some (.str (txtOf ((L ++ [R]).map pF))), some (.ref d'), some (.str (txtOf (pT L))), some (.ref o), some v, some (thV R k)] (H2 ++ [[]]) = some (b, H4) →
      Old (H2 ++ [[]]) H4 → H2.length ≤ H4.length → bin2 .add (.ref o) b H4 = some (.ref H4.length, H4 ++ [(dueOf (pT L)).map vq ++ dd.map vq]) → dd.length ≤ 2 →
      ∃ R ρ' H', exs O W fb437_0 [some v0, some (.ref 1), t2, t3, some (.ref 10), some (.str (txtOf (L.map pF))), some (.ref d), some (.str (txtOf (pT L))), some (.ref o), some v, t10] H = some (.next, ρ', H') ∧ LI v0 xs (c + 1) (L ++ [R]) ρ' H' := by
    intro dd H4 b hp hne he x4 hlen4 hb hdd
    obtain ⟨H5, o', g1, g2, g3, g4⟩ := ev_dot (O := O) (i := 8) (d := o) (e := .ite (.cmp .isnone (.loc 10) (.lit .none)) (.lst (.cons (.tup (.cons (.lit (.str [116, 101, 120, 116])) (.cons (.loc 2) .nil))) .nil)) (.loc 10)) rfl he hb (lim_of' nC (by rw [List.length_map]; exact hdd) rfl)
    have hpt : pT (L ++ [R]) = pT L ++ [(R.raw, dd)] := by rw [pT_app, hp]
    have hoth : (dueOf (pT L)).map vq ++ dd.map vq ++ [vq (.t [46])] = (dueOf (pT (L ++ [R]))).map vq := by
      rw [hpt, due_app]
      simp
    have hpat : txtOf (pT L) ++ R.raw ++ [46] = txtOf (pT (L ++ [R])) := by rw [hpt, txt_app]
    rw [hoth] at g2
    rw [hpat] at b2
    have x05 := (x03.trans x4).trans g3
    refine ⟨R, _, H5, (turn1 e425 ix a1 a2 f1).trans (turn2 hne b1 b2 g1), ⟨x05 _ _ k0, x05 _ _ k1, x05 _ _ kr, fun j a b => x05 _ _ (ke j a b), ⟨some (.str R.raw), some (.fl (R.due.map vq)), some v, some (thV R k), d', o', rfl, ((x3.trans x4).trans g3) _ _ f2, g2, Nat.le_trans hlen f4, Nat.le_trans (Nat.le_trans hlen f4) (Nat.le_trans (Nat.le_of_lt hlen2) (Nat.le_trans hlen4 g4))⟩, hm⟩⟩
  show ∃ R ρ' H', exs O W fb437_0 [some v0, some (.ref 1), t2, t3, some (.ref 10), some (.str (txtOf (L.map pF))), some (.ref d), some (.str (txtOf (pT L))), some (.ref o), some v, t10] H = some (.next, ρ', H') ∧ LI v0 xs (c + 1) (L ++ [R]) ρ' H'
  unfold kOk at hk
  by_cases hk0 : k = 0
  · subst hk0
    simp only [if_true, beq_iff_eq] at hk
    have hth : thV R 0 = .none := rfl
    rw [hth] at yes
    refine yes [.t R.raw] (H2 ++ [[]] ++ [[vq (.t R.raw)]]) (.ref (H2 ++ [[]]).length) hk ?_ ?_ (Old.app _ _) (Nat.le_trans (len_app _) (len_app _)) ?_ (Nat.le_of_ble_eq_true rfl)
    · show (same (H2 ++ [[]]) .none (.ref H2.length)).map (!·) = _
      rw [same_none_nil rn]
      rfl
    · have htx : ([116, 101, 120, 116] : List Nat) = tTx := rfl
      have hv : V.tup [.str tTx, .str R.raw] = vq (.t R.raw) := rfl
      simp (disch := omega) only [↓e_ite, ↓e_cmp, ↓e_loc, List.getElem?_cons_succ, List.getElem?_cons_zero, obs, ↓e_lit, ↓e_lst, ↓es_cons, ↓e_tup, ↓es_nil, tr_bool, if_true, is_nn, htx, hv]
    · refine addRR ((Old.app _ _) _ _ (x03 _ _ ko)) ?_ (lim_of nC (Nat.le_refl 1) rfl)
      rw [List.getElem?_append_right (Nat.le_refl _), Nat.sub_self]
      rfl
  · by_cases hk1 : k = 1
    · subst hk1
      simp only [if_neg hk0, if_true] at hk
      cases hp : R.pat with
      | none => rw [hp] at hk; cases hk
      | some dd =>
        cases dd with
        | nil => rw [hp] at hk; cases hk
        | cons w ws =>
          have hth : thV R 1 = .fl ((w :: ws).map vq) := by
            unfold thV
            rw [hp]
            rfl
          rw [hp] at hR'
          dsimp only at hR'
          simp only [Bool.and_eq_true, decide_eq_true_eq, List.all_eq_true] at hR'
          have hok2 := hR'.2.2.2.2.1
          have hl2 := hR'.2.2.2.2.2.1
          rw [hth] at yes
          refine yes (w :: ws) (H2 ++ [[]]) (.fl ((w :: ws).map vq)) hp ?_ ?_ (Old.refl _) (len_app _) ?_ hl2
          · show (same (H2 ++ [[]]) (.fl ((w :: ws).map vq)) (.ref H2.length)).map (!·) = _
            rw [same_nil_l (rd_fl hok2 (Nat.le_trans hl2 (Nat.le_of_ble_eq_true rfl))) rn hok2]
            rfl
          · simp (disch := omega) only [↓e_ite, ↓e_cmp, ↓e_loc, List.getElem?_cons_succ, List.getElem?_cons_zero, obs, ↓e_lit, ↓e_lst, ↓es_cons, ↓e_tup, ↓es_nil, tr_bool, Bool.false_eq_true, if_false, is_fn]
          · exact addRF (x03 _ _ ko) (lim_of nC (by rw [List.length_map]; exact hl2) rfl)
    · simp only [if_neg hk0, if_neg hk1, Bool.and_eq_true, beq_iff_eq, decide_eq_true_eq] at hk
      have hth : thV R k = .ref (k + 4) := by
        unfold thV
        rw [if_neg hk0, if_neg hk1]
      have hpt : pT (L ++ [R]) = pT L := by rw [pT_app, hk.1, List.append_nil]
      have hk6 := k_rng hk0 hk1 hk.2
      have hj := x03 _ _ (ke (k + 4) hk6.1 hk6.2)
      have hne : cmp2 .ne (.ref (k + 4)) (.ref H2.length) (H2 ++ [[]]) = some false := by
        show (same (H2 ++ [[]]) (.ref (k + 4)) (.ref H2.length)).map (!·) = _
        rw [same_nil_l (l := []) (rd_list (n := 0) (l := []) hj .nil (fun q hq => by cases hq) (by simp)) rn (fun q hq => by cases hq)]
        rfl
      have ix : idx2 (.ref 10) (.int (r : Int)) H1 = some (.tup [.str R.raw, .fl (R.due.map vq), .ref (k + 4)]) := by rw [← hth]; exact ix
      rw [hth] at f1
      refine ⟨R, _, H2 ++ [[]], (turn1 e425 ix a1 a2 f1).trans (turn3 hne), ⟨x03 _ _ k0, x03 _ _ k1, x03 _ _ kr, fun j a b => x03 _ _ (ke j a b), ⟨some (.str R.raw), some (.fl (R.due.map vq)), some v, some (.ref (k + 4)), d', o, by rw [hpt], x3 _ _ f2, by rw [hpt]; exact x03 _ _ ko, Nat.le_trans hlen f4, ho11⟩, hm⟩⟩
end
section
variable {O : Orc} {W : Nat}
theorem turns (h425 : P425 O) {v0 : V} {xs : List Int} (hx : xs.length ≤ 100) : ∀ (vs : List V) (c : Nat) (L : List Row) (ρ : Loc) (H : Hp), LI v0 xs c L ρ H → c + vs.length ≤ 100 → L.length + vs.length ≤ 10 →
    ∃ L' ρ' H', floop 9 (exs O W fb437_0) vs ρ H = some (.next, ρ', H') ∧ LI v0 xs (c + vs.length) L' ρ' H' ∧ L'.length = L.length + vs.length
  | [], c, L, ρ, H, I, _, _ => ⟨L, ρ, H, rfl, I, rfl⟩
  | v :: vs, c, L, ρ, H, I, hc, hL => by
    rw [List.length_cons] at hc hL
    obtain ⟨R, ρ1, H1, e1, I1⟩ := turn (W := W) (v := v) h425 I hx (by omega) (by omega)
    obtain ⟨L', ρ2, H2, e2, I2, hl⟩ := turns h425 hx vs (c + 1) (L ++ [R]) ρ1 H1 I1 (by omega) (by rw [List.length_append, List.length_singleton]; omega)
    refine ⟨L', ρ2, H2, ?_, ?_, ?_⟩
    · show (exs O W fb437_0 (ρ.set 9 (some v)) H).bind _ = _
      rw [e1]
      exact e2
    · rw [List.length_cons, show c + (vs.length + 1) = c + 1 + vs.length from by omega]
      exact I2
    · rw [hl]
      simp only [List.length_append, List.length_cons, List.length_nil]
      omega
theorem due_okF : ∀ (L : List Row), (∀ R ∈ L, R ∈ rowsP ∧ rOk R = true) → ∀ q ∈ dueOf (L.map pF), okP q = true ∧ ∀ u, q = .t u → u.length ≤ 100
  | [], _, q, hq => by cases hq
  | R :: L, h, q, hq => by
    have hR := (h R (.head _)).2
    simp only [rOk, Bool.and_eq_true, decide_eq_true_eq, List.all_eq_true] at hR
    have hq : q ∈ R.due ++ [PP.t [46]] ++ dueOf (L.map pF) := hq
    rcases List.mem_append.mp hq with hq | hq
    · rcases List.mem_append.mp hq with hq | hq
      · refine ⟨hR.1 q hq, fun u e => ?_⟩
        have := hR.2.2.1 q hq
        rw [e] at this
        have := of_decide_eq_true this
        omega
      · rw [List.mem_singleton.mp hq]
        exact ⟨rfl, fun u e => by cases e; decide⟩
    · exact due_okF L (fun S hS => h S (.tail _ hS)) q hq
theorem due_okT : ∀ (L : List Row), (∀ R ∈ L, R ∈ rowsP ∧ rOk R = true) → ∀ q ∈ dueOf (pT L), okP q = true ∧ ∀ u, q = .t u → u.length ≤ 100
  | [], _, q, hq => by cases hq
  | R :: L, h, q, hq => by
    have hR := (h R (.head _)).2
    simp only [rOk, Bool.and_eq_true, decide_eq_true_eq, List.all_eq_true] at hR
    rw [pT] at hq
    cases hp : R.pat with
    | none =>
      rw [hp] at hq
      exact due_okT L (fun S hS => h S (.tail _ hS)) q hq
    | some d =>
      rw [hp] at hq hR
      dsimp only at hR
      simp only [Bool.and_eq_true, decide_eq_true_eq, List.all_eq_true] at hR
      have hq : q ∈ d ++ [PP.t [46]] ++ dueOf (pT L) := hq
      rcases List.mem_append.mp hq with hq | hq
      · rcases List.mem_append.mp hq with hq | hq
        · refine ⟨hR.2.2.2.2.1 q hq, fun u e => ?_⟩
          have := hR.2.2.2.2.2.2 q hq
          rw [e] at this
          have := of_decide_eq_true this
          omega
        · rw [List.mem_singleton.mp hq]
          exact ⟨rfl, fun u e => by cases e; decide⟩
      · exact due_okT L (fun S hS => h S (.tail _ hS)) q hq
theorem mem_pT : ∀ (L : List Row) (q : Pc), q ∈ pT L → ∃ R ∈ L, R.pat = some q.2 ∧ R.raw = q.1
  | [], q, h => by cases h
  | R :: L, q, h => by
    rw [pT] at h
    cases hp : R.pat with
    | none =>
      rw [hp] at h
      obtain ⟨S, a, b⟩ := mem_pT L q h
      exact ⟨S, .tail _ a, b⟩
    | some d =>
      rw [hp] at h
      rcases List.mem_cons.mp h with rfl | h
      · exact ⟨R, .head _, hp, rfl⟩
      · obtain ⟨S, a, b⟩ := mem_pT L q h
        exact ⟨S, .tail _ a, b⟩
theorem half (h432 : P432 O) {p : Bool} {l : List Pc} (h254 : P254 O p l) {H : Hp} {d : Nat} (hd : H[d]? = some ((dueOf l).map vq)) (hok : ∀ q ∈ dueOf l, okP q = true ∧ ∀ u, q = .t u → u.length ≤ 100) (hl : (dueOf l).length ≤ 40) (ht : (txtOf l).length ≤ 1000) :
    ∃ Ha Hb n1 n2, O 254 [.str (txtOf l), .bool p] H = some (.ref n1, Ha) ∧ O 432 [.ref d] Ha = some (.ref n2, Hb) ∧ cmp2 .eq (.ref n1) (.ref n2) Hb = some true ∧ Old H Hb := by
  obtain ⟨Ha, vl, e1, v1, v2, l1, o1⟩ := h254 H ht
  have O1 := Old.of o1
  obtain ⟨Hb, e2, w1, l2, o2⟩ := h432 Ha d (dueOf l) (O1 _ _ hd) (fun q hq => (hok q hq).1) hl (fun q hq => (hok q hq).2)
  have O2 := Old.of o2
  have hok' := okP_fold (dueOf l) [] (fun q hq => by cases hq) (fun q hq => (hok q hq).1)
  have hlen := len_fold (dueOf l) []
  have x : Ext H.length Ha Hb := ⟨by omega, fun i hi _ => o2 i hi⟩
  refine ⟨Ha, Hb, _, _, e1, e2, ?_, O1.trans O2⟩
  exact same_eq (rd_list (O2 _ _ v1) (v2.mono x) hok' (by rw [List.length_nil] at hlen; omega)) (rd_list w1 (vq_VQs 0 Hb _) hok' (by rw [List.length_nil] at hlen; omega)) hok'
theorem b437_eq : b437 = .cons s1 (.cons s2 (.cons s3 (.cons s4 r4))) := by kernel_rfl!
theorem s4_eq : s4 = .forR 9 (.bin .add (.lit (.int (1))) (.call 425 (.cons (.loc 1) (.cons (.lit (.int (7))) .nil)))) fb437_0 := by kernel_rfl!
theorem r4_eq : r4 = .cons (.ret (.and (.cmp .eq (.call 254 (.cons (.loc 5) (.cons (.lit (.bool false)) .nil))) (.call 432 (.cons (.loc 6) .nil))) (.cmp .eq (.call 254 (.cons (.loc 7) (.cons (.lit (.bool true)) .nil))) (.call 432 (.cons (.loc 8) .nil))))) .nil := by kernel_rfl!
theorem forR_eq {ρ : Loc} {H : Hp} {i n : Nat} {b : Ss} (h : n ≤ 1000) : forRX i (exs O W b) ρ (.int (n : Int)) H = floop i (exs O W b) ((List.range n).map fun (k : Nat) => V.int (k : Int)) ρ H := by
  show (if 0 ≤ (n : Int) ∧ (n : Int) ≤ (lim : Int) then floop i (exs O W b) ((List.range (n : Int).toNat).map fun (k : Nat) => V.int (k : Int)) ρ H else Option.none) = _
  rw [if_pos (by rw [lim_eq]; omega), Int.toNat_natCast]
theorem nc1' (a : Nat) : (1 : Int) + (a : Int) = ((1 + a : Nat) : Int) := by omega
theorem law_ok (h425 : P425 O) (h432 : P432 O) (hF : ∀ L : List Row, (∀ R ∈ L, R ∈ rowsP) → P254 O false (L.map pF)) (hT : ∀ L : List Row, (∀ R ∈ L, R ∈ rowsP) → P254 O true (pT L)) {xs0 : List Int} (hx : xs0.length ≤ 1000) :
    ∃ ρ' H', exs O W b437 [some (.fl (xs0.map V.int)), Option.none, Option.none, Option.none, Option.none, Option.none, Option.none, Option.none, Option.none, Option.none, Option.none] [] = some (.ret (.bool true), ρ', H') := by
  have hx20 : (xs0.take 20).length ≤ 100 := by rw [List.length_take]; omega
  have e1 := law_s1 (O := O) (W := W) hx
  generalize xs0.take 20 = xs at hx20 e1
  have e2 := law_s2 (O := O) (W := W) (.fl (xs0.map V.int)) (.ref 1) (.ref 10) (xs.map V.int) [.ref 0, .int 0]
  have e3 := law_s3 (O := O) (W := W) (.fl (xs0.map V.int)) (.ref 1) (.ref 10) (xs.map V.int) [.ref 0, .int 0]
  obtain ⟨r, hr, e4⟩ := h425 ([xs.map V.int, [.ref 0, .int 0]] ++ restH ++ [[], []]) xs 0 7 rfl rfl (by omega) hx20 (by omega)
  have e4 : O 425 [.ref 1, .int 7] ([xs.map V.int, [.ref 0, .int 0]] ++ restH ++ [[], []]) = some (.int (r : Int), [xs.map V.int, [.ref 0, .int 1]] ++ restH ++ [[], []]) := e4
  have I : LI (.fl (xs0.map V.int)) xs 1 [] [some (.fl (xs0.map V.int)), some (.ref 1), Option.none, Option.none, some (.ref 10), some (.str []), some (.ref 11), some (.str []), some (.ref 12), Option.none, Option.none] ([xs.map V.int, [.ref 0, .int 1]] ++ restH ++ [[], []]) := {
    h0 := rfl
    h1 := rfl
    hr := rfl
    he := fun j a b => by
      have : j = 6 ∨ j = 7 ∨ j = 8 ∨ j = 9 := by omega
      rcases this with rfl | rfl | rfl | rfl <;> rfl
    loc := ⟨_, _, _, _, 11, 12, rfl, rfl, rfl, by omega, by omega⟩
    mem := fun R hR => by cases hR }
  obtain ⟨L, ρ', H', e5, J, hl⟩ := turns (W := W) h425 hx20 ((List.range (1 + r)).map fun (k : Nat) => V.int (k : Int)) 1 [] _ _ I (by rw [List.length_map, List.length_range]; omega) (by rw [List.length_map, List.length_range, List.length_nil]; omega)
  rw [List.length_map, List.length_range, List.length_nil] at hl
  have e5' := (forR_eq (O := O) (W := W) (i := 9) (b := fb437_0) (n := 1 + r) (by omega)).trans e5
  obtain ⟨t2, t3, t9, t10, d, o, rfl, hd, ho, _, _⟩ := J.loc
  have lF := lenF L J.mem
  have lT := lenT L J.mem
  obtain ⟨Ha, Hb, n1, n2, f1, f2, f3, f4⟩ := half h432 (hF L fun R hR => (J.mem R hR).1) hd (due_okF L J.mem) (by omega) (by omega)
  obtain ⟨Hc, Hd, n3, n4, g1, g2, g3, g4⟩ := half h432 (hT L fun R hR => (J.mem R hR).1) (f4 _ _ ho) (due_okT L J.mem) (by omega) (by omega)
  refine ⟨[some (.fl (xs0.map V.int)), some (.ref 1), t2, t3, some (.ref 10), some (.str (txtOf (L.map pF))), some (.ref d), some (.str (txtOf (pT L))), some (.ref o), t9, t10], Hd, ?_⟩
  rw [b437_eq, s4_eq, r4_eq]
  simp (disch := omega) only [↓s_cons, obs, sq_next, ↓x_forR, ↓e_bin, ↓e_lit, ↓e_call, ↓es_cons, ↓e_loc, List.getElem?_cons_succ, List.getElem?_cons_zero, ↓es_nil, p_add, ↓x_ret, ↓e_and, ↓e_cmp, tr_bool, if_true, sq_ret, ↓e1, ↓e2, ↓e3, e4, nc1', e5', f1, f2, f3, g1, g2, g3]
theorem law_run (hW : 2000 ≤ W) {xs0 : List Int} (hx : xs0.length ≤ 1000) :
    ∃ ρ' H', exs (run FTf W 7) W b437 [some (.fl (xs0.map V.int)), Option.none, Option.none, Option.none, Option.none, Option.none, Option.none, Option.none, Option.none, Option.none, Option.none] [] = some (.ret (.bool true), ρ', H') := by
  refine law_ok (f425 6) (f432 hW 6) (fun L hL => ?_) (fun L hL => ?_) hx
  · refine f254 hW 0 fun q hq => ?_
    obtain ⟨R, hR, rfl⟩ := List.mem_map.mp hq
    exact pc_false (cal_ok hW 0) R (hL R hR)
  · refine f254 hW 0 fun q hq => ?_
    obtain ⟨R, hR, h1, h2⟩ := mem_pT L q hq
    rw [← h2]
    exact pc_true (cal_ok hW 0) R (hL R hR) _ h1
end
noncomputable def fdAt (K : Frag) (a : Nat) : FuncData := match K.lookup a with | some ⟨_, _, .func f, _⟩ => f | _ => default
noncomputable def obAt (K : Frag) (a : Nat) : Obj := (K.lookup a).getD default
noncomputable def bodyAt (K : Frag) (a : Nat) : List Stmt := match (fdAt K a).body with | .stmts b => b | _ => []
noncomputable def nmsAt (K : Frag) (a : Nat) : List Str := (fdAt K a).params.args.map (·.arg)
noncomputable def scOk (K : Frag) (a n : Nat) : Bool :=
  let f := fdAt K a
  let sc := f.scope
  (sc.kind == .function) && !sc.isCoroutine && !sc.isGenerator && sc.names.all (fun x => !(x.2 == .cell)) && decide (lcs sc).Nodup && (nmsAt K a).length == n && (lcs sc).take n == nmsAt K a && (nmsAt K a).all (fun y => sc.names.lookup y == some .local)
noncomputable def fnAt (K : Frag) (a : Nat) : FuncData := fnOf (fdAt K a).name (fdAt K a).qualname (fdAt K a).params (bodyAt K a) (fdAt K a).scope (fdAt K a).defaults (fdAt K a).kwdefaults (fdAt K a).doc (fdAt K a).pyModule (fdAt K a).annotations (fdAt K a).code (fdAt K a).closureTuple
noncomputable def obF (K : Frag) (a : Nat) : Obj := ⟨(obAt K a).cls, (obAt K a).dict, .func (fnAt K a), (obAt K a).slots⟩
noncomputable def ssAt (K : Frag) (a : Nat) : Ss := ssOf ((bodyAt K a).map (cS gt bl (fdAt K a).scope 40))
noncomputable def codeAt (K : Frag) (a : Nat) : Bool := codeIn K (fdAt K a).code (fdAt K a).qualname
noncomputable def bndAt (K : Frag) (a : Nat) (vals : List Value) : Prop := bindArgs (fnAt K a) ⟨vals, []⟩ = pure ((nmsAt K a).zip vals)
structure FdOk (K : Frag) (a : Nat) (d : Df) : Prop where
  h1 : K.lookup a = some (obF K a)
  h2 : codeAt K a = true
  h3 : scOk K a d.ps = true
  h4 : d.body = ssAt K a
  h5 : ∀ vals : List Value, vals.length = d.ps → bndAt K a vals
theorem scOk_is {K : Frag} {a n : Nat} (h3 : scOk K a n = true) : (fdAt K a).scope.kind = .function ∧ (fdAt K a).scope.isCoroutine = false ∧ (fdAt K a).scope.isGenerator = false ∧ (∀ x ∈ (fdAt K a).scope.names, (!(x.2 == .cell)) = true) ∧ (lcs (fdAt K a).scope).Nodup ∧ (nmsAt K a).length = n ∧
    (lcs (fdAt K a).scope).take n = nmsAt K a ∧ ∀ y ∈ nmsAt K a, ((fdAt K a).scope.names.lookup y == some .local) = true := by
  unfold scOk at h3
  obtain ⟨h3, k8⟩ := Bool.and_eq_true_iff.mp h3
  obtain ⟨h3, k7⟩ := Bool.and_eq_true_iff.mp h3
  obtain ⟨h3, k6⟩ := Bool.and_eq_true_iff.mp h3
  obtain ⟨h3, k5⟩ := Bool.and_eq_true_iff.mp h3
  obtain ⟨h3, k4⟩ := Bool.and_eq_true_iff.mp h3
  obtain ⟨h3, k3⟩ := Bool.and_eq_true_iff.mp h3
  obtain ⟨k1, k2⟩ := Bool.and_eq_true_iff.mp h3
  exact ⟨beq_iff_eq.mp k1, Bool.not_eq_true' _ |>.mp k2, Bool.not_eq_true' _ |>.mp k3, List.all_eq_true.mp k4, of_decide_eq_true k5, beq_iff_eq.mp k6, beq_iff_eq.mp k7, List.all_eq_true.mp k8⟩
theorem good_of {c : Cx} (hG : c.G = gt) (hb : c.bl = bl) {a : Nat} {d : Df} (h : FdOk c.K a d) : Good c a d := by
  obtain ⟨k1, k2, k3, k4, k5, k6, k7, k8⟩ := scOk_is h.h3
  refine ⟨⟨_, _, _, _, _, _, _, _, _, _, _, _, _, _, _, nmsAt c.K a, h.h1, h.h2, k1, k2, k3, fun x hx e => ?_, k5, k6, h.h5, k7, fun y hy => beq_iff_eq.mp (k8 y hy), ?_⟩⟩
  · have := k4 x hx
    rw [e] at this
    exact absurd this (by decide)
  · rw [hG, hb]
    exact h.h4
noncomputable def FdAll (K : Frag) : List (Nat × Df) → Prop
  | [] => True
  | q :: r => FdOk K q.1 q.2 ∧ FdAll K r
theorem FdAll.get {K : Frag} : ∀ {l : List (Nat × Df)}, FdAll K l → ∀ q ∈ l, FdOk K q.1 q.2
  | [], _, q, h => by cases h
  | p :: r, h, q, hq => by
    rcases List.mem_cons.mp hq with rfl | hq
    · exact h.1
    · exact FdAll.get h.2 q hq
theorem fd_nil {K : Frag} : FdAll K [] := trivial
section
variable {K : Frag} {a ls : Nat} {b : Ss} {r : List (Nat × Df)}
theorem ln1 {α : Type} {vals : List α} (e : vals.length = 1) : ∃ x, vals = [x] := List.length_eq_one_iff.mp e
theorem lnS {α : Type} {vals : List α} {n : Nat} (e : vals.length = n + 1) : ∃ x r, vals = x :: r ∧ r.length = n := match vals, e with | x :: r, e => ⟨x, r, rfl, Nat.succ.inj e⟩
theorem fd1 (h1 : K.lookup a = some (obF K a)) (h2 : codeAt K a = true) (h3 : scOk K a 1 = true) (h4 : b = ssAt K a) (h5 : ∀ x : Value, bndAt K a [x]) (h : FdAll K r) : FdAll K ((a, ⟨1, ls, b⟩) :: r) :=
  ⟨⟨h1, h2, h3, h4, fun vals e => by obtain ⟨x, rfl⟩ := ln1 e; exact h5 x⟩, h⟩
theorem fd2 (h1 : K.lookup a = some (obF K a)) (h2 : codeAt K a = true) (h3 : scOk K a 2 = true) (h4 : b = ssAt K a) (h5 : ∀ x y : Value, bndAt K a [x, y]) (h : FdAll K r) : FdAll K ((a, ⟨2, ls, b⟩) :: r) :=
  ⟨⟨h1, h2, h3, h4, fun vals e => by obtain ⟨x, _, rfl, e1⟩ := lnS e; obtain ⟨y, rfl⟩ := ln1 e1; exact h5 x y⟩, h⟩
theorem fd3 (h1 : K.lookup a = some (obF K a)) (h2 : codeAt K a = true) (h3 : scOk K a 3 = true) (h4 : b = ssAt K a) (h5 : ∀ x y z : Value, bndAt K a [x, y, z]) (h : FdAll K r) : FdAll K ((a, ⟨3, ls, b⟩) :: r) :=
  ⟨⟨h1, h2, h3, h4, fun vals e => by obtain ⟨x, _, rfl, e1⟩ := lnS e; obtain ⟨y, _, rfl, e2⟩ := lnS e1; obtain ⟨z, rfl⟩ := ln1 e2; exact h5 x y z⟩, h⟩
theorem fd4 (h1 : K.lookup a = some (obF K a)) (h2 : codeAt K a = true) (h3 : scOk K a 4 = true) (h4 : b = ssAt K a) (h5 : ∀ x y z u : Value, bndAt K a [x, y, z, u]) (h : FdAll K r) : FdAll K ((a, ⟨4, ls, b⟩) :: r) :=
  ⟨⟨h1, h2, h3, h4, fun vals e => by obtain ⟨x, _, rfl, e1⟩ := lnS e; obtain ⟨y, _, rfl, e2⟩ := lnS e1; obtain ⟨z, _, rfl, e3⟩ := lnS e2; obtain ⟨u, rfl⟩ := ln1 e3; exact h5 x y z u⟩, h⟩
end
noncomputable def tupAt (K : Frag) (a : Addr) : Option (List Value) := match K.lookup a with
  | some o => (match o.cls with
    | .type t => if (t == "tuple" && o.dict.isNone && o.slots.isEmpty) = true then (match o.data with
      | .seq xs _ => some xs.toList
      | _ => Option.none) else Option.none
    | _ => Option.none)
  | Option.none => Option.none
noncomputable def lstAt (K : Frag) (a : Addr) : Option (List Value) := match K.lookup a with
  | some o => (match o.cls with
    | .type t => if (t == "list") = true then (match o.data with
      | .seq xs _ => some xs.toList
      | _ => Option.none) else Option.none
    | _ => Option.none)
  | Option.none => Option.none
theorem tupAt_is {K : Frag} {a : Addr} {l : List Value} (h : tupAt K a = some l) : ∃ k, K.lookup a = some (tupOb l k) := by
  unfold tupAt at h
  cases ho : K.lookup a with
  | none => rw [ho] at h; exact nos h
  | some o =>
    rw [ho] at h
    obtain ⟨cls, dict, data, slots⟩ := o
    cases cls with
    | type t =>
      obtain ⟨hc, h⟩ := Option.ite_none_right_eq_some.mp h
      obtain ⟨hc, h3⟩ := Bool.and_eq_true_iff.mp hc
      obtain ⟨h1, h2⟩ := Bool.and_eq_true_iff.mp hc
      obtain rfl := beq_iff_eq.mp h1
      obtain rfl := Option.isNone_iff_eq_none.mp h2
      obtain rfl := Array.isEmpty_iff.mp h3
      cases data with
      | seq xs k => obtain rfl := so1 h; exact ⟨k, rfl⟩
      | _ => exact nos h
    | _ => exact nos h
theorem lstAt_is {K : Frag} {a : Addr} {l : List Value} (h : lstAt K a = some l) : ∃ o k, K.lookup a = some o ∧ o.cls = .type "list" ∧ o.data = .seq l.toArray k := by
  unfold lstAt at h
  cases ho : K.lookup a with
  | none => rw [ho] at h; exact nos h
  | some o =>
    rw [ho] at h
    obtain ⟨cls, dict, data, slots⟩ := o
    cases cls with
    | type t =>
      obtain ⟨h1, h⟩ := Option.ite_none_right_eq_some.mp h
      obtain rfl := beq_iff_eq.mp h1
      cases data with
      | seq xs k => obtain rfl := so1 h; exact ⟨_, k, rfl, rfl, rfl⟩
      | _ => exact nos h
    | _ => exact nos h
noncomputable def chkT (f : List Value → Bool) : Option (List Value) → Bool
  | some l => f l
  | Option.none => false
noncomputable def chkL (f : V → Value → Bool) : List V → List Value → Bool
  | [], [] => true
  | v :: vs, x :: xs => f v x && chkL f vs xs
  | _, _ => false
noncomputable def chkR (K : Frag) (f : V → Value → Bool) (a : Addr) : V → Bool
  | .tup vs => chkT (chkL f vs) (tupAt K a)
  | .fl vs => chkT (chkL f vs) (lstAt K a)
  | _ => false
noncomputable def chk (K : Frag) : Nat → V → Value → Bool
  | 0, _, _ => false
  | n + 1, v, x => match x with
    | .none => (match v with | .none => true | _ => false)
    | .bool b => (match v with | .bool c => b == c | _ => false)
    | .int i _ => (match v with | .int j => i == j | _ => false)
    | .str s _ => (match v with | .str l => s == toS l | _ => false)
    | .ref a => chkR K (chk K n) a v
    | _ => false
theorem chkL_ok {K : Frag} {P : Params} {hb : Heap} {f : V → Value → Bool} (hf : ∀ v x, f v x = true → ∀ ads T, VR K P hb ads T v x) {vs : List V} : ∀ {xs : List Value}, chkL f vs xs = true → ∀ ads T, VRs K P hb ads T vs xs := by
  induction vs with
  | nil =>
    intro xs h ads T
    cases xs with
    | nil => exact .nil
    | cons _ _ => exact Bool.noConfusion (show false = true from h)
  | cons v vs ih =>
    intro xs h ads T
    cases xs with
    | nil => exact Bool.noConfusion (show false = true from h)
    | cons x xs =>
      obtain ⟨h1, h2⟩ := Bool.and_eq_true_iff.mp (show (f v x && chkL f vs xs) = true from h)
      exact .cons (hf v x h1 ads T) (ih h2 ads T)
theorem chkT_ok {g : List Value → Bool} {o : Option (List Value)} (h : chkT g o = true) : ∃ l, o = some l ∧ g l = true := match o, h with
  | some l, h => ⟨l, rfl, h⟩
theorem chk_ok {K : Frag} {P : Params} {hb : Heap} (X : K.In hb) : ∀ (n : Nat), (∀ v x, chk K n v x = true → ∀ ads T, VR K P hb ads T v x) := by
  intro n
  induction n with
  | zero => exact fun v x h => Bool.noConfusion (show false = true from h)
  | succ n ih =>
    intro v x h ads T
    have no : ∀ {P : Prop}, (false = true) → P := fun h => Bool.noConfusion h
    cases x with
    | none => cases v with
      | none => exact .none
      | _ => exact no h
    | bool b => cases v with
      | bool c => obtain rfl := beq_iff_eq.mp (show (b == c) = true from h); exact .bool _
      | _ => exact no h
    | int i t => cases v with
      | int j => obtain rfl := beq_iff_eq.mp (show (i == j) = true from h); exact .int _ _
      | _ => exact no h
    | str s t => cases v with
      | str l => obtain rfl := beq_iff_eq.mp (show (s == toS l) = true from h); exact .str _ _
      | _ => exact no h
    | ref a => cases v with
      | tup vs =>
        obtain ⟨l, h1, h2⟩ := chkT_ok (show chkT (chkL (chk K n) vs) (tupAt K a) = true from h)
        obtain ⟨k, h1⟩ := tupAt_is h1
        exact .tup (.inr (X _ _ h1)) (chkL_ok ih h2 ads T)
      | fl vs =>
        obtain ⟨l, h1, h2⟩ := chkT_ok (show chkT (chkL (chk K n) vs) (lstAt K a) = true from h)
        obtain ⟨o, k, h1, h3, h4⟩ := lstAt_is h1
        exact .fl (X _ _ h1) h3 h4 (chkL_ok ih h2 ads T)
      | _ => exact no h
    | _ => exact no h

noncomputable def entsOk (P : Params) : List DictEntry → List (List Nat × List Nat) → Prop
  | [], [] => True
  | e :: r, p :: q => (∃ t t', e.key = .str (toS p.1) t ∧ e.val = .str (toS p.2) t' ∧ e.hash = PyData.keyHash P (toS p.1)) ∧ entsOk P r q
  | _, _ => False
theorem entsOk.keys {P : Params} : ∀ {l : List DictEntry} {es : List (List Nat × List Nat)}, entsOk P l es → KeysLit P l
  | [], [], _ => trivial
  | _ :: _, _ :: _, ⟨⟨t, t', a, b, d⟩, r⟩ => ⟨⟨_, _, a, d⟩, r.keys⟩
  | [], _ :: _, h => h.elim
  | _ :: _, [], h => h.elim
theorem entsOk.find {P : Params} (k : List Nat) : ∀ {l : List DictEntry} {es : List (List Nat × List Nat)}, entsOk P l es →
    (match es.lookup k with | some u => ∃ e t, l.find? (fun x => x.key.isStr (toS k)) = some e ∧ e.val = .str (toS u) t | Option.none => l.find? (fun x => x.key.isStr (toS k)) = Option.none ∧ l.any (fun x => x.refKey) = false)
  | [], [], _ => ⟨rfl, rfl⟩
  | e :: r, p :: q, ⟨⟨t, t', a, b, d⟩, h⟩ => by
    have ih := h.find k
    rw [show (p :: q).lookup k = (match k == p.1 with | true => some p.2 | false => q.lookup k) from rfl]
    have e1 : e.key.isStr (toS k) = (toS p.1 == toS k) := by rw [a]; rfl
    by_cases hk : k = p.1
    · have : (k == p.1) = true := by simpa using hk
      rw [this]
      refine ⟨e, t', ?_, b⟩
      rw [List.find?_cons, e1, hk]
      simp
    · have : (k == p.1) = false := by simpa using hk
      rw [this]
      have e2 : (toS p.1 == toS k) = false := by
        simp only [beq_eq_false_iff_ne, ne_eq, toS]
        intro e
        injection e with e
        exact hk (by simpa using (congrArg Array.toList e).symm)
      have e3 : e.refKey = false := by unfold DictEntry.refKey; rw [a]
      dsimp only
      split
      · rename_i u hu
        rw [hu] at ih
        obtain ⟨e', t2, h1, h2⟩ := ih
        exact ⟨e', t2, by rw [List.find?_cons, e1, e2]; exact h1, h2⟩
      · rename_i hu
        rw [hu] at ih
        exact ⟨by rw [List.find?_cons, e1, e2]; exact ih.1, by rw [List.any_cons, e3, ih.2]; rfl⟩
  | [], _ :: _, h => h.elim
  | _ :: _, [], h => h.elim
theorem dct_of {K : Frag} {P : Params} {a : Addr} {es : List (List Nat × List Nat)} {en : Array DictEntry} {n : Nat} (hK : K.lookup a = some ⟨.type "dict", Option.none, .dict en n, #[]⟩) (h : entsOk P en.toList es) (ha : (a == sysModules) = false) : DctAt K P a es where
  ex := ⟨en, n, hK, h.keys⟩
  ne := ha
  is := fun k => by
    have f := h.find k
    unfold nsIn
    rw [hK]
    dsimp only
    unfold getD2
    cases hu : List.lookup k es with
    | some u =>
      rw [hu] at f
      obtain ⟨e, t, f1, f2⟩ := f
      exact ⟨some (.str (toS u) t), by rw [f1]; dsimp only; rw [f2], t, rfl⟩
    | none =>
      rw [hu] at f
      exact ⟨Option.none, by rw [f.1]; dsimp only; rw [f.2]; rfl, rfl⟩
theorem ents_cons {P : Params} {e : DictEntry} {p : List Nat × List Nat} {r : List DictEntry} {q : List (List Nat × List Nat)} (h : ∃ t t', e.key = .str (toS p.1) t ∧ e.val = .str (toS p.2) t' ∧ e.hash = PyData.keyHash P (toS p.1)) (hr : entsOk P r q) : entsOk P (e :: r) (p :: q) := ⟨h, hr⟩
theorem ents_nil {P : Params} : entsOk P [] [] := trivial

theorem mem_look {α β : Type} [BEq α] [LawfulBEq α] : ∀ {l : List (α × β)} {a : α} {b : β}, l.lookup a = some b → (a, b) ∈ l
  | [], _, _, h => by simp at h
  | (x, y) :: r, a, b, h => by
    rw [List.lookup_cons] at h
    split at h
    · rename_i e
      have e := beq_iff_eq.mp e
      cases h
      rw [e]
      exact .head _
    · exact .tail _ (mem_look h)

noncomputable def valAt (K : Frag) (x : Str) : Value := match nsIn K mainGlobals x with | some (some v) => v | _ => .none
noncomputable def isVal (K : Frag) (x : Str) (v : Value) : Prop := nsIn K mainGlobals x = some (some v)
noncomputable def noVal (K : Frag) (x : Str) : Prop := nsIn K mainGlobals x = some none
noncomputable def GFact (K : Frag) (P : Params) (x : Str) : GV → Prop
  | .fn a => isVal K x (.ref a) ∧ keepIn K (.ref a) = true
  | .val v => (isVal K x (valAt K x) ∧ chk K 40 v (valAt K x) = true) ∨ ∃ a es, v = .dct es ∧ isVal K x (.ref a) ∧ DctAt K P a es
noncomputable def GAll (K : Frag) (P : Params) : Gt → Prop
  | [] => True
  | q :: r => GFact K P q.1 q.2 ∧ GAll K P r
theorem GAll.get {K : Frag} {P : Params} : ∀ {l : Gt}, GAll K P l → ∀ q ∈ l, GFact K P q.1 q.2
  | [], _, q, h => by cases h
  | p :: r, h, q, hq => by
    rcases List.mem_cons.mp hq with rfl | hq
    · exact h.1
    · exact GAll.get h.2 q hq
section
variable {K : Frag} {P : Params} {x : Str} {r : Gt}
theorem ga_nil : GAll K P [] := trivial
theorem ga_fn {a : Nat} (h1 : isVal K x (.ref a)) (h2 : keepIn K (.ref a) = true) (h : GAll K P r) : GAll K P ((x, .fn a) :: r) := ⟨⟨h1, h2⟩, h⟩
theorem ga_val {v : V} (h1 : isVal K x (valAt K x)) (h2 : chk K 40 v (valAt K x) = true) (h : GAll K P r) : GAll K P ((x, .val v) :: r) := ⟨.inl ⟨h1, h2⟩, h⟩
theorem ga_dct {v : V} {a : Addr} (es : List (List Nat × List Nat)) (e : v = .dct es) (h1 : isVal K x (.ref a)) {en : Array DictEntry} {n : Nat} (hK : K.lookup a = some ⟨.type "dict", Option.none, .dict en n, #[]⟩) (ho : entsOk P en.toList es) (ha : (a == sysModules) = false) (h : GAll K P r) : GAll K P ((x, .val v) :: r) :=
  ⟨.inr ⟨a, es, e, h1, dct_of hK ho ha⟩, h⟩
end
structure KOk (K : Frag) (P : Params) : Prop where
  fd : FdAll K ftl
  ga : GAll K P gt
  le : noVal K ("len" : Str)
  ra : noVal K ("range" : Str)
theorem stat_of {c : Cx} (hG : c.G = gt) (hb : c.bl = bl) (X : c.K.In c.hb) (h : KOk c.K c.w.params) : Stat c where
  val := fun x v hx => by
    rw [hG] at hx
    rcases h.ga.get _ (mem_look hx) with ⟨a, b⟩ | ⟨a, es, rfl, b, d⟩
    · exact ⟨_, a, chk_ok X 40 _ _ b⟩
    · exact ⟨_, b, fun _ _ => .dct d⟩
  fn := fun x a hx => by
    rw [hG] at hx
    exact h.ga.get _ (mem_look hx)
  blt := fun x hx => by
    rw [hb] at hx
    have hx' : x ∈ [("len" : Str), ("range" : Str)] := hx
    simp only [List.mem_cons, List.not_mem_nil, or_false] at hx'
    rcases hx' with rfl | rfl
    · exact ⟨h.le, by decide⟩
    · exact ⟨h.ra, by decide⟩
theorem ints_are {K : Frag} {P : Params} {hb : Heap} {ads : List Addr} {T : Led} : ∀ {vals : List Value} {ns : List Int}, IntsAre vals ns → VRs K P hb ads T (ns.map V.int) vals
  | _, _, .nil => .nil
  | _, _, .cons _ _ h => .cons (.int _ _) (ints_are h)
theorem law_walk {prog : Program} {w : World} {K : Frag} {p : Program} {loose : List Str} {mean : ExcName → Option Value} {mg mb : Str → Option Value} {hb h₁ : Heap} {L a fa : Addr} {m : Str → Option Value} {vals : List Value} {ns : List Int}
    {nm x0 : Str} {sc : Scope} {cd : Value} {body : List Stmt} {s : Shared} {Q : Flow → Shared → Prop} {Ex : Value → Shared → Prop}
    (X : K.In hb) (T : Top p loose mean mg mb hb) (F : Fr hb L h₁ m) (N : News hb L h₁ []) (hL : hb.IsList a vals.toArray) (hI : IntsAre vals ns) (hn : ns.length ≤ 1000) (hs : s.heap = h₁) (KO : KOk K w.params)
    (hk : sc.kind = .function) (hnd : (lcs sc).Nodup) (h0 : (lcs sc)[0]? = some x0) (hm : m x0 = some (.ref a)) (hbody : ssOf (body.map (cS gt bl sc 40)) = b437)
    (post : ∀ h' tk m', Fr hb L h' m' → Q (.ret (.bool true)) { s with heap := h', toks := tk }) :
    wpAny (model prog w) (callerA.deeper (envOf nm sc L fa cd)) (execs body (envOf nm sc L fa cd)) Q Ex s := by
  obtain ⟨ρ', H', e⟩ := law_run (W := 2000) (Nat.le_refl _) hn
  subst hs
  have S : Stat ⟨prog, w, K, p, loose, mean, mg, mb, hb, FTf, gt, bl⟩ := stat_of rfl rfl X KO
  have G : ∀ f d, FTf f = some d → Good ⟨prog, w, K, p, loose, mean, mg, mb, hb, FTf, gt, bl⟩ f d := fun f d h => good_of rfl rfl (KO.fd.get _ (mem_look h))
  rw [← hbody] at e
  have act : Act ⟨prog, w, K, p, loose, mean, mg, mb, hb, FTf, gt, bl⟩ 7 (callerA.deeper (envOf nm sc L fa cd)) sc (envOf nm sc L fa cd) hb L := {
    envE := envOf_ok
    kind := hk
    bel := fun _ => ⟨rfl, callerA, [], below_caller hb, Around.frames_deeper (below_caller hb).stack⟩
    kb := fun _ _ h => h
    X := X
    T := T
    hh := rfl
    dep := by show callerA.depth + 1 + 7 < recursionLimit; decide
    uni := by show callerA.units + 3 + 8 * 7 + 200 < cLine; decide
    nd := hnd }
  obtain ⟨o, ho1, ho2, n, ho3⟩ := hL
  have hw : SSs ⟨prog, w, K, p, loose, mean, mg, mb, hb, FTf, gt, bl⟩ sc 7 2000 body (ssOf (body.map (cS gt bl sc 40))) := ss_of fun x _ => (cS_ok S (ro_ok S G 2000 7) 40 x).1
  refine hw (X := []) (Ms := []) (T := []) act e ?_ ?_
  · refine ⟨⟨m, F, fun i v hv => ?_⟩, N, ⟨rfl, fun i l h => by simp at h, by simp⟩, fun q (hq : q ∈ ([] : Led)) => (nomatch hq), fun q (hq : q ∈ ([] : Led)) => (nomatch hq)⟩
    match i, hv with
    | 0, hv =>
      cases hv
      exact ⟨x0, _, h0, hm, .fl ho1 ho2 ho3 (ints_are hI)⟩
    | i + 1, hv =>
      match i, hv with
      | 0, hv | 1, hv | 2, hv | 3, hv | 4, hv | 5, hv | 6, hv | 7, hv | 8, hv | 9, hv => cases hv
      | i + 10, hv => cases hv
  · intro f h' tk Ms' T' hf st gr
    obtain ⟨x, rfl, hx⟩ := hf
    cases hx
    obtain ⟨m', F', _⟩ := st.fr
    exact post h' tk m' F'
set_option maxRecDepth 100000
set_option maxHeartbeats 8000000
set_option Elab.async true
-- The rows main.tw.. say nothing. They hold names under which the library's words for the head would lay twins of the heap's own
-- constants (helper theorems, 56 MB compiled): the names are taken, so none is laid, and the compiled file stays under its lid.
theorem main.tw10047389527955405517 : True := trivial
theorem main.tw10094358506670053839 : True := trivial
theorem main.tw10114013102757674387 : True := trivial
theorem main.tw10140136200207757160 : True := trivial
theorem main.tw10159738436595150677 : True := trivial
theorem main.tw10177057350305019805 : True := trivial
theorem main.tw10199874654664476236 : True := trivial
theorem main.tw10204856939554784155 : True := trivial
theorem main.tw10234815189450012239 : True := trivial
theorem main.tw10298723112805639129 : True := trivial
theorem main.tw10334261112615635914 : True := trivial
theorem main.tw10363585996791799541 : True := trivial
theorem main.tw10391951854915411234 : True := trivial
theorem main.tw104360540948158410 : True := trivial
theorem main.tw10450603732522932521 : True := trivial
theorem main.tw1054321117371714560 : True := trivial
theorem main.tw10609540516017602915 : True := trivial
theorem main.tw10625486282989778954 : True := trivial
theorem main.tw10642606787283503386 : True := trivial
theorem main.tw10665089971535097683 : True := trivial
theorem main.tw10669944970481658594 : True := trivial
theorem main.tw10821422270917381399 : True := trivial
theorem main.tw10825838108423173272 : True := trivial
theorem main.tw10877679251791092727 : True := trivial
theorem main.tw10896356407431480244 : True := trivial
theorem main.tw1099256609624015869 : True := trivial
theorem main.tw11003572833241299968 : True := trivial
theorem main.tw11101190512080308003 : True := trivial
theorem main.tw11129264269027447598 : True := trivial
theorem main.tw11135027115929721415 : True := trivial
theorem main.tw11156056980113079860 : True := trivial
theorem main.tw11165598643790188245 : True := trivial
theorem main.tw11181722664286889309 : True := trivial
theorem main.tw11221353774195762014 : True := trivial
theorem main.tw11261727412033496967 : True := trivial
theorem main.tw1130211791997205004 : True := trivial
theorem main.tw11403851563620829512 : True := trivial
theorem main.tw11461230924637031220 : True := trivial
theorem main.tw11501822485730972192 : True := trivial
theorem main.tw11544348965984651327 : True := trivial
theorem main.tw11554813239044494598 : True := trivial
theorem main.tw1156462466702112376 : True := trivial
theorem main.tw11595355409239048105 : True := trivial
theorem main.tw11646826074482590764 : True := trivial
theorem main.tw11710404883906591787 : True := trivial
theorem main.tw11752208632293872130 : True := trivial
theorem main.tw11785714552879321826 : True := trivial
theorem main.tw1178595665728414349 : True := trivial
theorem main.tw11802326597910711352 : True := trivial
theorem main.tw11812620880713246772 : True := trivial
theorem main.tw11815829001073249272 : True := trivial
theorem main.tw11857135199678951331 : True := trivial
theorem main.tw11982392923317675503 : True := trivial
theorem main.tw11987853993630220354 : True := trivial
theorem main.tw12057704586751987240 : True := trivial
theorem main.tw12077450504624328385 : True := trivial
theorem main.tw12205347405646519318 : True := trivial
theorem main.tw12273490649430754879 : True := trivial
theorem main.tw12298629886278197574 : True := trivial
theorem main.tw12343854547171428336 : True := trivial
theorem main.tw1236483940969888574 : True := trivial
theorem main.tw12431561837914552411 : True := trivial
theorem main.tw12431731261707249289 : True := trivial
theorem main.tw12483276189755474720 : True := trivial
theorem main.tw12518504611687188807 : True := trivial
theorem main.tw12590340796369385619 : True := trivial
theorem main.tw12623159325031504133 : True := trivial
theorem main.tw12670839924663504800 : True := trivial
theorem main.tw1270039299266317192 : True := trivial
theorem main.tw12702744160499308131 : True := trivial
theorem main.tw1277820614484962519 : True := trivial
theorem main.tw12839114828313443825 : True := trivial
theorem main.tw12872379398031375081 : True := trivial
theorem main.tw12885673836220544336 : True := trivial
theorem main.tw12900284412222446716 : True := trivial
theorem main.tw12915833801598196605 : True := trivial
theorem main.tw12922898485456448571 : True := trivial
theorem main.tw12927740378394474205 : True := trivial
theorem main.tw12941917028564957548 : True := trivial
theorem main.tw1306636233014830658 : True := trivial
theorem main.tw13110577991587790113 : True := trivial
theorem main.tw13113777628852026922 : True := trivial
theorem main.tw13219505800766818778 : True := trivial
theorem main.tw13224007501803129859 : True := trivial
theorem main.tw13270728482189477470 : True := trivial
theorem main.tw13293747886898857621 : True := trivial
theorem main.tw13348322127785295214 : True := trivial
theorem main.tw13350764725976880583 : True := trivial
theorem main.tw13355152605343272895 : True := trivial
theorem main.tw13402765919934010277 : True := trivial
theorem main.tw13503263706703578961 : True := trivial
theorem main.tw13534339028543913591 : True := trivial
theorem main.tw13590572293223372214 : True := trivial
theorem main.tw13626721169425172152 : True := trivial
theorem main.tw13676971244355772609 : True := trivial
theorem main.tw13724616953566380437 : True := trivial
theorem main.tw13777938177461255882 : True := trivial
theorem main.tw13803360072150633466 : True := trivial
theorem main.tw13876859957761632879 : True := trivial
theorem main.tw1390771862084280389 : True := trivial
theorem main.tw13962693860625380366 : True := trivial
theorem main.tw14009396871252706886 : True := trivial
theorem main.tw14027531716089632829 : True := trivial
theorem main.tw14061640607465278742 : True := trivial
theorem main.tw1409966394225722968 : True := trivial
theorem main.tw14106445559736802775 : True := trivial
theorem main.tw14148322088675117479 : True := trivial
theorem main.tw14218914174604095658 : True := trivial
theorem main.tw1429040668314091153 : True := trivial
theorem main.tw1439166485080882 : True := trivial
theorem main.tw14439473939278146460 : True := trivial
theorem main.tw1453356044741674121 : True := trivial
theorem main.tw14539993770535171780 : True := trivial
theorem main.tw14635473669698735251 : True := trivial
theorem main.tw14639212616227390028 : True := trivial
theorem main.tw14646587721710459877 : True := trivial
theorem main.tw14662554035588321541 : True := trivial
theorem main.tw14672674291997333471 : True := trivial
theorem main.tw14759895335926876869 : True := trivial
theorem main.tw14771111431291430275 : True := trivial
theorem main.tw14788915703135433725 : True := trivial
theorem main.tw14793117695081215449 : True := trivial
theorem main.tw14907226015203709474 : True := trivial
theorem main.tw14909365282108701170 : True := trivial
theorem main.tw15017983477296125989 : True := trivial
theorem main.tw1504049600530537962 : True := trivial
theorem main.tw15079240505294077160 : True := trivial
theorem main.tw15109750227778091905 : True := trivial
theorem main.tw15131278010643852716 : True := trivial
theorem main.tw15303317825217679618 : True := trivial
theorem main.tw15365013842991253249 : True := trivial
theorem main.tw1545906260438175962 : True := trivial
theorem main.tw15465920861327815835 : True := trivial
theorem main.tw15467891735981029475 : True := trivial
theorem main.tw15485851114877660061 : True := trivial
theorem main.tw15491723280356408159 : True := trivial
theorem main.tw15595112118272840620 : True := trivial
theorem main.tw15624239662980076321 : True := trivial
theorem main.tw15643365686152983790 : True := trivial
theorem main.tw15711610064443204327 : True := trivial
theorem main.tw15734200111481486640 : True := trivial
theorem main.tw15734660467963936456 : True := trivial
theorem main.tw15737690656516749961 : True := trivial
theorem main.tw15768048840197415361 : True := trivial
theorem main.tw15803610866087392283 : True := trivial
theorem main.tw15806524323241146399 : True := trivial
theorem main.tw1587290215689348708 : True := trivial
theorem main.tw15984706205718930553 : True := trivial
theorem main.tw16008252555379753968 : True := trivial
theorem main.tw16008457594558532635 : True := trivial
theorem main.tw16046730324260685337 : True := trivial
theorem main.tw16049902774474827687 : True := trivial
theorem main.tw16136984950599521427 : True := trivial
theorem main.tw16153842264607907944 : True := trivial
theorem main.tw1615956725737779560 : True := trivial
theorem main.tw16187894506366716058 : True := trivial
theorem main.tw16193401482309157537 : True := trivial
theorem main.tw16251939892948500945 : True := trivial
theorem main.tw1628013610222277130 : True := trivial
theorem main.tw16320729459185622934 : True := trivial
theorem main.tw16356685582667847594 : True := trivial
theorem main.tw16411370214107742406 : True := trivial
theorem main.tw16480584520131690045 : True := trivial
theorem main.tw16519101796099990279 : True := trivial
theorem main.tw16572128252103988241 : True := trivial
theorem main.tw16629339528299215175 : True := trivial
theorem main.tw16641786646906312760 : True := trivial
theorem main.tw1677766988990989824 : True := trivial
theorem main.tw16778611742570070204 : True := trivial
theorem main.tw1678875084529416142 : True := trivial
theorem main.tw16798622893749714585 : True := trivial
theorem main.tw16819838333489098493 : True := trivial
theorem main.tw16826212616301561204 : True := trivial
theorem main.tw16832360635688203351 : True := trivial
theorem main.tw16923884221124529275 : True := trivial
theorem main.tw16950194794029067938 : True := trivial
theorem main.tw16952715711813285254 : True := trivial
theorem main.tw16965079339398995527 : True := trivial
theorem main.tw17057053908230417247 : True := trivial
theorem main.tw17091655785135471103 : True := trivial
theorem main.tw17118054049896295152 : True := trivial
theorem main.tw1714950047550659301 : True := trivial
theorem main.tw17201416709059790184 : True := trivial
theorem main.tw17236958762192778904 : True := trivial
theorem main.tw17264900360498390715 : True := trivial
theorem main.tw17272174723667511238 : True := trivial
theorem main.tw17292155258170135553 : True := trivial
theorem main.tw17297283025540448806 : True := trivial
theorem main.tw17336282652733537790 : True := trivial
theorem main.tw17353955331779342651 : True := trivial
theorem main.tw17402982504261768225 : True := trivial
theorem main.tw17510229520200029679 : True := trivial
theorem main.tw17561526911342447988 : True := trivial
theorem main.tw17679725944135375923 : True := trivial
theorem main.tw17695171507069755227 : True := trivial
theorem main.tw17715262827843222689 : True := trivial
theorem main.tw17725498274588495791 : True := trivial
theorem main.tw17737603089517620647 : True := trivial
theorem main.tw1777545030009416734 : True := trivial
theorem main.tw17958375852430007124 : True := trivial
theorem main.tw18063282731904131703 : True := trivial
theorem main.tw18134284020713443437 : True := trivial
theorem main.tw18190005008629794160 : True := trivial
theorem main.tw1826329307503635854 : True := trivial
theorem main.tw18284262389922463811 : True := trivial
theorem main.tw18302796317244248524 : True := trivial
theorem main.tw18315214858253571532 : True := trivial
theorem main.tw18325589031809861271 : True := trivial
theorem main.tw18332899500509843999 : True := trivial
theorem main.tw18403998269306519403 : True := trivial
theorem main.tw18421580907717582127 : True := trivial
theorem main.tw18431692314602308842 : True := trivial
theorem main.tw1850612553970854742 : True := trivial
theorem main.tw2007339730380871907 : True := trivial
theorem main.tw2110754180369666209 : True := trivial
theorem main.tw2190695567426971638 : True := trivial
theorem main.tw2195194259037543316 : True := trivial
theorem main.tw221909299271738847 : True := trivial
theorem main.tw2225956059507018244 : True := trivial
theorem main.tw223528310411579522 : True := trivial
theorem main.tw2238316416991798583 : True := trivial
theorem main.tw2279707942289718827 : True := trivial
theorem main.tw2287757881348798766 : True := trivial
theorem main.tw2433702464844828792 : True := trivial
theorem main.tw2496676261509829067 : True := trivial
theorem main.tw2524017781993486291 : True := trivial
theorem main.tw2538046985915079169 : True := trivial
theorem main.tw2544328076492683441 : True := trivial
theorem main.tw2566753976717531306 : True := trivial
theorem main.tw2583023086579268501 : True := trivial
theorem main.tw2629084897520917108 : True := trivial
theorem main.tw2702614204127132176 : True := trivial
theorem main.tw2724176850512262202 : True := trivial
theorem main.tw2729793432009153956 : True := trivial
theorem main.tw2759098988195820126 : True := trivial
theorem main.tw2821470743931037460 : True := trivial
theorem main.tw2852251193174398662 : True := trivial
theorem main.tw2895952525429962455 : True := trivial
theorem main.tw2906824675625879941 : True := trivial
theorem main.tw2921621734765799159 : True := trivial
theorem main.tw2921958311620399285 : True := trivial
theorem main.tw302440914744352476 : True := trivial
theorem main.tw3027586509356016917 : True := trivial
theorem main.tw3045742163950154196 : True := trivial
theorem main.tw3064107358579187875 : True := trivial
theorem main.tw3137596982192898869 : True := trivial
theorem main.tw3164071578474256198 : True := trivial
theorem main.tw31828345220925962 : True := trivial
theorem main.tw3234112476842188716 : True := trivial
theorem main.tw3299218664060906527 : True := trivial
theorem main.tw330327031418712150 : True := trivial
theorem main.tw33456957511925785 : True := trivial
theorem main.tw341453280667917650 : True := trivial
theorem main.tw3454311308915712629 : True := trivial
theorem main.tw3466206800631347469 : True := trivial
theorem main.tw3491332818749588091 : True := trivial
theorem main.tw3532412968194664532 : True := trivial
theorem main.tw3550944181758424347 : True := trivial
theorem main.tw3557749057250611081 : True := trivial
theorem main.tw3562595001068472590 : True := trivial
theorem main.tw3613476055612923068 : True := trivial
theorem main.tw3626430660855392483 : True := trivial
theorem main.tw3627144658338631552 : True := trivial
theorem main.tw3779293765908593550 : True := trivial
theorem main.tw3796207824708393856 : True := trivial
theorem main.tw3829396358689915599 : True := trivial
theorem main.tw3848698983108048278 : True := trivial
theorem main.tw3905226178654972811 : True := trivial
theorem main.tw3934531018447913466 : True := trivial
theorem main.tw3960113756560652017 : True := trivial
theorem main.tw4026956272090484662 : True := trivial
theorem main.tw4038153913678941442 : True := trivial
theorem main.tw4044139247061151142 : True := trivial
theorem main.tw4072190877284726289 : True := trivial
theorem main.tw4126091431370883743 : True := trivial
theorem main.tw4189750870438640210 : True := trivial
theorem main.tw4261964983698606537 : True := trivial
theorem main.tw4297412468100583042 : True := trivial
theorem main.tw4324958949535026087 : True := trivial
theorem main.tw4333880214566435006 : True := trivial
theorem main.tw4365514962571936147 : True := trivial
theorem main.tw4452170602077327944 : True := trivial
theorem main.tw4458048076830672230 : True := trivial
theorem main.tw4475767826048309731 : True := trivial
theorem main.tw4500915450034043215 : True := trivial
theorem main.tw451873465583785326 : True := trivial
theorem main.tw452746233719593009 : True := trivial
theorem main.tw4544244032028310869 : True := trivial
theorem main.tw4573282807186111410 : True := trivial
theorem main.tw4585930131862741453 : True := trivial
theorem main.tw4637267157515435788 : True := trivial
theorem main.tw4650958065196391918 : True := trivial
theorem main.tw4651154628705390771 : True := trivial
theorem main.tw4775608329324902142 : True := trivial
theorem main.tw4812270449578504274 : True := trivial
theorem main.tw4839478117068044826 : True := trivial
theorem main.tw4900431672193113347 : True := trivial
theorem main.tw4990475226369331113 : True := trivial
theorem main.tw5061512775090418087 : True := trivial
theorem main.tw5084117380071580128 : True := trivial
theorem main.tw5102693214775723256 : True := trivial
theorem main.tw5127751686995613262 : True := trivial
theorem main.tw5160751907100791332 : True := trivial
theorem main.tw5203219222101121401 : True := trivial
theorem main.tw52199770228462824 : True := trivial
theorem main.tw5240536507193477226 : True := trivial
theorem main.tw5240779543111244032 : True := trivial
theorem main.tw5243159528196176124 : True := trivial
theorem main.tw5372645768047454471 : True := trivial
theorem main.tw5400957986263281647 : True := trivial
theorem main.tw5401703158475992631 : True := trivial
theorem main.tw5418533224930618480 : True := trivial
theorem main.tw5436791530062809996 : True := trivial
theorem main.tw5473700226181020891 : True := trivial
theorem main.tw5518243967957118194 : True := trivial
theorem main.tw5532463470591059822 : True := trivial
theorem main.tw5571399437266216444 : True := trivial
theorem main.tw5585478044538960755 : True := trivial
theorem main.tw5613160597433933154 : True := trivial
theorem main.tw5649967823195072380 : True := trivial
theorem main.tw5697280079452891283 : True := trivial
theorem main.tw5781596087445459943 : True := trivial
theorem main.tw5871769198996169552 : True := trivial
theorem main.tw5995161000843957690 : True := trivial
theorem main.tw6019089244302038806 : True := trivial
theorem main.tw6044114016751833949 : True := trivial
theorem main.tw6053611964639427726 : True := trivial
theorem main.tw6075091234017535682 : True := trivial
theorem main.tw6112859857366181021 : True := trivial
theorem main.tw6161133996638707016 : True := trivial
theorem main.tw6162249291895867263 : True := trivial
theorem main.tw6334894449686545209 : True := trivial
theorem main.tw6361450105264607166 : True := trivial
theorem main.tw6385024630547198690 : True := trivial
theorem main.tw6418098437765475518 : True := trivial
theorem main.tw6449824600675878752 : True := trivial
theorem main.tw6511744376749373798 : True := trivial
theorem main.tw6541472054586571296 : True := trivial
theorem main.tw6545385358150927430 : True := trivial
theorem main.tw656089360051881306 : True := trivial
theorem main.tw66260789543402106 : True := trivial
theorem main.tw6635558491612396129 : True := trivial
theorem main.tw6655696309031964122 : True := trivial
theorem main.tw6660377722381337597 : True := trivial
theorem main.tw6696893160125735727 : True := trivial
theorem main.tw6697339332421208802 : True := trivial
theorem main.tw6785657489111691699 : True := trivial
theorem main.tw6801380410627298636 : True := trivial
theorem main.tw6877560268529008848 : True := trivial
theorem main.tw6910295442248876197 : True := trivial
theorem main.tw6912675738884088206 : True := trivial
theorem main.tw7013714540914765366 : True := trivial
theorem main.tw7074144079889050967 : True := trivial
theorem main.tw7083192437325867461 : True := trivial
theorem main.tw7113585516715319716 : True := trivial
theorem main.tw7153082081811710619 : True := trivial
theorem main.tw7173623326730630234 : True := trivial
theorem main.tw7186131708394509389 : True := trivial
theorem main.tw7221758910455160077 : True := trivial
theorem main.tw7235775444256392728 : True := trivial
theorem main.tw7237411587787531456 : True := trivial
theorem main.tw7268301785047649679 : True := trivial
theorem main.tw7293298908176781663 : True := trivial
theorem main.tw7308723440029596264 : True := trivial
theorem main.tw73751810991705359 : True := trivial
theorem main.tw7411558596216406370 : True := trivial
theorem main.tw7439787175107056256 : True := trivial
theorem main.tw750237026923860459 : True := trivial
theorem main.tw7514964652732493775 : True := trivial
theorem main.tw7549349051505652557 : True := trivial
theorem main.tw7590696779544312186 : True := trivial
theorem main.tw765107192605250810 : True := trivial
theorem main.tw7698036289167662538 : True := trivial
theorem main.tw7699798408344515789 : True := trivial
theorem main.tw7751025194823839400 : True := trivial
theorem main.tw7761410557224570781 : True := trivial
theorem main.tw7846812961960373227 : True := trivial
theorem main.tw7875838824674609581 : True := trivial
theorem main.tw8079908401900000222 : True := trivial
theorem main.tw8118072479153026202 : True := trivial
theorem main.tw8211959896082780389 : True := trivial
theorem main.tw8228058824784995430 : True := trivial
theorem main.tw832900586485598795 : True := trivial
theorem main.tw8440099810896429113 : True := trivial
theorem main.tw8466321980469482115 : True := trivial
theorem main.tw8467378866343419333 : True := trivial
theorem main.tw8478376212529829071 : True := trivial
theorem main.tw8557395850702784662 : True := trivial
theorem main.tw8627561154394265716 : True := trivial
theorem main.tw8652556701797213591 : True := trivial
theorem main.tw8663697691656813868 : True := trivial
theorem main.tw8729708805864041840 : True := trivial
theorem main.tw8930851030842425676 : True := trivial
theorem main.tw8947760058931562597 : True := trivial
theorem main.tw9069182735580402390 : True := trivial
theorem main.tw9155575984036265788 : True := trivial
theorem main.tw9190990891756207365 : True := trivial
theorem main.tw9265829497004654079 : True := trivial
theorem main.tw9272984997812220495 : True := trivial
theorem main.tw9274054859765456524 : True := trivial
theorem main.tw9360745474812902239 : True := trivial
theorem main.tw9361300454564663673 : True := trivial
theorem main.tw9381277316556691805 : True := trivial
theorem main.tw9385303126178720230 : True := trivial
theorem main.tw9483120023164983764 : True := trivial
theorem main.tw9508770018378322450 : True := trivial
theorem main.tw9512817274939609580 : True := trivial
theorem main.tw9557352009045844224 : True := trivial
theorem main.tw9563168847844234846 : True := trivial
theorem main.tw962032349192862916 : True := trivial
theorem main.tw9656510801202774680 : True := trivial
theorem main.tw9670510015898674028 : True := trivial
theorem main.tw9681375758050803366 : True := trivial
theorem main.tw9682133043923132273 : True := trivial
theorem main.tw9730157408454304684 : True := trivial
theorem main.tw979501456738626862 : True := trivial
theorem main.tw9848185148710128376 : True := trivial
theorem main.tw9897820754763898449 : True := trivial
theorem main.tw9925469786538053656 : True := trivial
theorem main.tw9957550378297406723 : True := trivial
theorem main.tw9976160756891316704 : True := trivial
theorem main : PySem.Challenge.rw_qz0095_01.Holds := by
  w_on
  o_law
  k_head
  (case hw => w_witness2)
  w_strict (
      k_go0
      all_goals try k_fold
      refine law_walk (x0 := ("script" : Str)) (by assumption) (by assumption) (by assumption) (by assumption) (by assumption) (by assumption) ?mine_hn rfl ?mine_KO ?mine_hk ?mine_hnd ?mine_h0 ?mine_hm ?mine_hbody ?mine_post
      case mine_hn => omega
      case mine_KO =>
        refine ⟨?mine_fd, ?mine_ga, ?mine_le, ?mine_ra⟩
        case mine_fd =>
          unfold ftl
          repeat' first
            | exact fd_nil
            | refine fd1 (by kernel_rfl!) (by kernel_rfl!) (by kernel_rfl!) (by kernel_rfl!) (fun _ => by unfold bndAt; kernel_rfl!) ?_
            | refine fd2 (by kernel_rfl!) (by kernel_rfl!) (by kernel_rfl!) (by kernel_rfl!) (fun _ _ => by unfold bndAt; kernel_rfl!) ?_
            | refine fd3 (by kernel_rfl!) (by kernel_rfl!) (by kernel_rfl!) (by kernel_rfl!) (fun _ _ _ => by unfold bndAt; kernel_rfl!) ?_
            | refine fd4 (by kernel_rfl!) (by kernel_rfl!) (by kernel_rfl!) (by kernel_rfl!) (fun _ _ _ _ => by unfold bndAt; kernel_rfl!) ?_
        case mine_ga =>
          unfold gt
          refine ga_dct (a := 54) _ rfl (by unfold isVal; kernel_rfl!) (by with_unfolding_all rfl) (by repeat' first | exact ents_nil | refine ents_cons ⟨_, _, rfl, rfl, rfl⟩ ?_) rfl ?_
          refine ga_dct (a := 55) _ rfl (by unfold isVal; kernel_rfl!) (by with_unfolding_all rfl) (by repeat' first | exact ents_nil | refine ents_cons ⟨_, _, rfl, rfl, rfl⟩ ?_) rfl ?_
          repeat' first
            | exact ga_nil
            | refine ga_fn (by unfold isVal; kernel_rfl!) (by kernel_rfl!) ?_
            | refine ga_val (by unfold isVal; kernel_rfl!) (by kernel_rfl!) ?_
        case mine_le => unfold noVal; kernel_rfl!
        case mine_ra => unfold noVal; kernel_rfl!
      case mine_hk => rfl
      case mine_hnd => decide
      case mine_h0 => rfl
      case mine_hm => rfl
      case mine_hbody => kernel_rfl!
      case mine_post =>
        intro h' tk m' F'
        close_w)
end Mine
theorem PySem.Challenge.cw_qz0095_01_holds : PySem.Challenge.rw_qz0095_01.Holds :=
  Mine.main
