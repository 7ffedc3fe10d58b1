import PyProof.Rows.All
import Wide.All
import OpenK.AllK
import Wide.FinOn
import PySem.Challenge.RW_forktales_k11_loose_ends_told
import HandS.ForMost
import PyProof.ReprReads
import HandS.TupMul
import HandS.TupAny
import PyProof.ReprRoads
import PyProof.TupleOfStr
import HandS.Conv
import HandS.IsInst
import PyProof.CallStr
import HandS.Style
import PyProof.CollectIter
import HandS.SetFor
import HandS.More
import HandS.Strs
import HandS.DictComp
set_option Elab.async false
set_option linter.all false
set_option maxRecDepth 100000
section EvCore
namespace Ev
open PySem

/-! ## data -/
abbrev Key := L2.Key
/-- lst, dct: a list, a dict that nobody changes any more -/
inductive D where
  | non | bl (b : Bool) | int (i : Int) | str (x : Str) | tup (ds : List D) | ref (n : Nat) | fn (j : Nat) | scr (ns : List Int) | lst (ds : List D) | dct (ks : List Key) (vs : List D)
  deriving Inhabited
inductive O where
  | lst (xs : List D) | dct (kvs : List (Key × D))
inductive Rv where
  | val (d : D) | new (o : O)
abbrev Eh := List O
abbrev Sd := List (Option D)

mutual
def D.eqb : D → D → Bool
  | .non, .non => true
  | .bl a, .bl b => a == b
  | .int a, .int b => a == b
  | .str a, .str b => decide (a = b)
  | .tup a, .tup b => D.eqbs a b
  | .ref a, .ref b => a == b
  | .fn a, .fn b => a == b
  | .scr a, .scr b => decide (a = b)
  | .lst a, .lst b => D.eqbs a b
  | .dct k a, .dct l b => decide (k = l) && D.eqbs a b
  | _, _ => false
def D.eqbs : List D → List D → Bool
  | [], [] => true
  | a :: r, b :: s => D.eqb a b && D.eqbs r s
  | _, _ => false
end
mutual
theorem D.eqb_iff : ∀ (a b : D), D.eqb a b = true ↔ a = b
  | .non, b => by cases b <;> simp [D.eqb]
  | .bl x, b => by cases b <;> simp [D.eqb]
  | .int x, b => by cases b <;> simp [D.eqb]
  | .str x, b => by cases b <;> simp [D.eqb]
  | .ref x, b => by cases b <;> simp [D.eqb]
  | .fn x, b => by cases b <;> simp [D.eqb]
  | .scr x, b => by cases b <;> simp [D.eqb]
  | .tup xs, b => by
    cases b with
    | tup ys => simp only [D.eqb, D.eqbs_iff xs ys, D.tup.injEq]
    | _ => simp [D.eqb]
  | .lst xs, b => by
    cases b with
    | lst ys => simp only [D.eqb, D.eqbs_iff xs ys, D.lst.injEq]
    | _ => simp [D.eqb]
  | .dct ks xs, b => by
    cases b with
    | dct ls ys => simp only [D.eqb, D.eqbs_iff xs ys, D.dct.injEq, Bool.and_eq_true, decide_eq_true_eq]
    | _ => simp [D.eqb]
theorem D.eqbs_iff : ∀ (a b : List D), D.eqbs a b = true ↔ a = b
  | [], b => by cases b <;> simp [D.eqbs]
  | x :: r, b => by
    cases b with
    | nil => simp [D.eqbs]
    | cons y s => simp only [D.eqbs, Bool.and_eq_true, D.eqb_iff x y, D.eqbs_iff r s, List.cons.injEq]
end
instance : DecidableEq D := fun a b => decidable_of_iff _ (D.eqb_iff a b)

/-! refs below a mark -/
mutual
def D.low (m : Nat) : D → Bool
  | .ref n => decide (n < m)
  | .tup ds => D.lows m ds
  | .lst ds => D.lows m ds
  | .dct _ ds => D.lows m ds
  | _ => true
def D.lows (m : Nat) : List D → Bool
  | [] => true
  | d :: r => D.low m d && D.lows m r
end
def O.low (m : Nat) : O → Bool
  | .lst xs => D.lows m xs
  | .dct kvs => D.lows m (kvs.map (·.2))
def Rv.low (m : Nat) : Rv → Bool
  | .val d => d.low m
  | .new o => o.low m

/-! as the library's data -/
def toP (E : Eh) : Nat → D → Option PyData
  | 0, _ => none
  | k + 1, d => match d with
    | .non => some .none
    | .bl b => some (.bool b)
    | .int i => some (.int i)
    | .str x => some (.str x)
    | .tup ds => (ds.mapM (toP E k)).map .tuple
    | .ref n => match E[n]? with
      | some (.lst xs) => (xs.mapM (toP E k)).map .list
      | _ => none
    | .fn _ => none
    | .scr ns => some (.list (ns.map .int))
    | .lst ds => (ds.mapM (toP E k)).map .list
    | .dct _ _ => none
def toPr (E : Eh) : Rv → Option PyData
  | .val d => toP E 80 d
  | .new (.lst xs) => (xs.mapM (toP E 80)).map .list
  | .new _ => none

/-! ## the core language -/
mutual
inductive Ex where
  | var (i : Nat)
  | int (i : Int) | str (x : Str) | bl (b : Bool) | non
  | tup (es : Exs) | lst (es : Exs) | dct (ks vs : Exs)
  | bin (op : Operator) (a b : Ex)
  | neg (a : Ex) | not (a : Ex)
  | bop (isAnd : Bool) (es : Exs)
  | cmp (op : CmpOp) (a b : Ex)
  | ifx (t a b : Ex)
  | call (j : Nat) (es : Exs)
  | callB (f : String) (es : Exs)
  | meth (m : String) (o : Ex) (es : Exs)
  | idx (a i : Ex)
  | slc (a : Ex) (lo hi : Exo)
  | rev (a : Ex)
  | frz (a : Ex)
  | dget (o k d : Ex)
  | isi (a : Ex) (ty : String)
  | sset (a : Ex) | lset (a : Ex) | dcx (es : Exs)
  | dcm (k v : Ex) (tg : Tg) (it : It) (c : Exo) (own : List (Str × Nat))
  | lc (elt : Ex) (tg : Tg) (it : It) (c : Exo) (own : List (Str × Nat))
  | lc2 (elt : Ex) (tg : Tg) (it : It) (tg1 : Tg) (it1 : It) (own : List (Str × Nat)) (own1 : List Nat)
inductive Exs where
  | nil | cons (e : Ex) (r : Exs)
inductive Exo where
  | none | some (e : Ex)
inductive It where
  | seq (e : Ex) | range (es : Exs) | enum (e : Ex)
inductive Tg where
  | nm (i : Nat) | tp (ts : Tgs) | star (is : List Nat) (j : Nat) | starF (is : List Nat) (j : Nat)
inductive Tgs where
  | nil | cons (t : Tg) (r : Tgs)
end
mutual
inductive Stm where
  | asg (t : Tg) (e : Ex)
  | par (is : List Nat) (es : Exs)
  | sto (o i e : Ex)
  | expr (e : Ex)
  | ret (e : Ex)
  | ife (t : Ex) (a b : Stms)
  | loop (tg : Tg) (it : It) (b : Stms)
  | whl (t : Ex) (b : Stms)
  | pass | brk | cont
inductive Stms where
  | nil | cons (s : Stm) (r : Stms)
end
end Ev
end EvCore
section EvOrd
/-! texts in their order -/
namespace Ev
open PySem PySem.Spec PyProof.Rows
theorem lt_irr : ∀ a : List Nat, ltCps a a = false
  | [] => rfl
  | x :: r => by simp [ltCps, lt_irr r]
theorem lt_asym : ∀ {a b : List Nat}, ltCps a b = true → ltCps b a = false
  | [], [], h => by simp [ltCps] at h
  | [], _ :: _, _ => rfl
  | _ :: _, [], h => by simp [ltCps] at h
  | x :: r, y :: t, h => by
    simp only [ltCps, Bool.or_eq_true, decide_eq_true_eq, Bool.and_eq_true, beq_iff_eq] at h
    rcases h with h | ⟨rfl, h⟩
    · have h1 : ¬ y < x := by omega
      have h2 : y ≠ x := by omega
      simp [ltCps, h1, h2]
    · simp [ltCps, lt_asym h]
theorem lt_tri : ∀ {a b : List Nat}, ltCps a b = false → ltCps b a = false → a = b
  | [], [], _, _ => rfl
  | [], _ :: _, h, _ => by simp [ltCps] at h
  | _ :: _, [], _, h => by simp [ltCps] at h
  | x :: r, y :: t, h1, h2 => by
    simp only [ltCps, Bool.or_eq_false_iff, decide_eq_false_iff_not, Bool.and_eq_false_iff] at h1 h2
    have e : x = y := by omega
    subst e
    simp only [beq_self_eq_true, Bool.true_eq_false, false_or] at h1 h2
    rw [lt_tri h1.2 h2.2]
theorem lt_trans : ∀ {a b c : List Nat}, ltCps a b = true → ltCps b c = true → ltCps a c = true
  | [], _, [], h1, h2 => by
    rename_i b
    cases b <;> simp [ltCps] at h1 h2
  | [], _, _ :: _, _, _ => rfl
  | _ :: _, [], _, h, _ => by simp [ltCps] at h
  | _ :: _, _ :: _, [], _, h => by simp [ltCps] at h
  | x :: r, y :: t, z :: u, h1, h2 => by
    simp only [ltCps, Bool.or_eq_true, decide_eq_true_eq, Bool.and_eq_true, beq_iff_eq] at h1 h2 ⊢
    rcases h1 with h1 | ⟨rfl, h1⟩
    · rcases h2 with h2 | ⟨rfl, h2⟩
      · exact .inl (by omega)
      · exact .inl h1
    · rcases h2 with h2 | ⟨rfl, h2⟩
      · exact .inl h2
      · exact .inr ⟨rfl, lt_trans h1 h2⟩
/-- x stands not behind y -/
def leS (x y : Str) : Bool := !ltCps y.cps.toList x.cps.toList
theorem leS_trans {x y z : Str} (h1 : leS x y = true) (h2 : leS y z = true) : leS x z = true := by
  unfold leS at *
  simp only [Bool.not_eq_true'] at *
  cases h : ltCps z.cps.toList x.cps.toList with
  | false => rfl
  | true =>
    cases h3 : ltCps x.cps.toList y.cps.toList with
    | true => rw [lt_trans h h3] at h2; cases h2
    | false =>
      have := lt_tri h3 h1
      rw [this] at h
      rw [h] at h2; cases h2
theorem leS_total {x y : Str} (h : leS x y = false) : leS y x = true := by
  unfold leS at *
  simp only [Bool.not_eq_false', Bool.not_eq_true'] at *
  exact lt_asym h
theorem leS_anti {x y : Str} (h1 : leS x y = true) (h2 : leS y x = true) : x = y := by
  unfold leS at *
  simp only [Bool.not_eq_true'] at *
  have := lt_tri h2 h1
  cases x; cases y
  simp only [Str.mk.injEq]
  exact Array.toList_inj.mp this
def insS (x : Str) : List Str → List Str
  | [] => [x]
  | y :: r => if leS x y then x :: y :: r else y :: insS x r
def sortS : List Str → List Str
  | [] => []
  | x :: r => insS x (sortS r)
theorem insS_perm (x : Str) : ∀ l, (insS x l).Perm (x :: l)
  | [] => .refl _
  | y :: r => by
    unfold insS
    split
    · exact .refl _
    · exact ((insS_perm x r).cons y).trans (.swap x y r)
theorem sortS_perm : ∀ l, (sortS l).Perm l
  | [] => .refl _
  | x :: r => (insS_perm x _).trans ((sortS_perm r).cons x)
theorem insS_pw (x : Str) : ∀ l, l.Pairwise (fun a b => leS a b = true) → (insS x l).Pairwise (fun a b => leS a b = true)
  | [], _ => by simp [insS]
  | y :: r, h => by
    obtain ⟨h1, h2⟩ := List.pairwise_cons.mp h
    unfold insS
    split
    · rename_i hx
      refine List.pairwise_cons.mpr ⟨fun z hz => ?_, h⟩
      rcases List.mem_cons.mp hz with rfl | hz
      · exact hx
      · exact leS_trans hx (h1 z hz)
    · rename_i hx
      refine List.pairwise_cons.mpr ⟨fun z hz => ?_, insS_pw x r h2⟩
      rcases List.mem_cons.mp ((insS_perm x r).mem_iff.mp hz) with rfl | hz
      · exact leS_total (by simpa using hx)
      · exact h1 z hz
theorem sortS_pw : ∀ l, (sortS l).Pairwise (fun a b => leS a b = true)
  | [] => .nil
  | x :: r => insS_pw x _ (sortS_pw r)
theorem pw_same : ∀ {a b : List Str}, a.Perm b → a.Pairwise (fun a b => leS a b = true) → b.Pairwise (fun a b => leS a b = true) → a = b
  | [], b, hp, _, _ => (List.Perm.nil_eq hp)
  | x :: r, [], hp, _, _ => absurd hp.symm (by intro h; have := h.length_eq; simp at this)
  | x :: r, y :: t, hp, ha, hb => by
    obtain ⟨a1, a2⟩ := List.pairwise_cons.mp ha
    obtain ⟨b1, b2⟩ := List.pairwise_cons.mp hb
    have e : x = y := by
      rcases List.mem_cons.mp (hp.mem_iff.mp (List.mem_cons_self ..)) with e | hx
      · exact e
      · rcases List.mem_cons.mp (hp.mem_iff.mpr (List.mem_cons_self ..)) with e | hy
        · exact e.symm
        · exact leS_anti (a1 y hy) (b1 x hx)
    subst e
    rw [pw_same (List.Perm.cons_inv hp) a2 b2]
theorem rising_pw : ∀ (l : List Str) (p : Str), risingS p l = true → (p :: l).Pairwise (fun a b => leS a b = true)
  | [], p, _ => by simp
  | x :: r, p, h => by
    unfold risingS at h
    rw [Bool.and_eq_true] at h
    have ih := rising_pw r x h.2
    have hx : leS p x = true := h.1
    refine List.pairwise_cons.mpr ⟨fun z hz => ?_, ih⟩
    rcases List.mem_cons.mp hz with rfl | hz
    · exact hx
    · exact leS_trans hx ((List.pairwise_cons.mp ih).1 z hz)
/-- each once -/
def more (L : List Str) (x : Str) : List Str := if x ∈ L then L else L ++ [x]
def once (xs : List Str) : List Str := xs.foldl more []
theorem sorted_is {ys xs : List Str} (hp : ys.Perm xs) (h : sortedS ys = true) : ys = sortS xs := by
  refine pw_same (hp.trans (sortS_perm xs).symm) ?_ (sortS_pw xs)
  cases ys with
  | nil => exact .nil
  | cons x r => exact rising_pw r x h
end Ev
end EvOrd
section EvRun
namespace Ev
open PySem

/-! ## what operators do -/
def asL (E : Eh) : Rv → Option (List D)
  | .val (.ref n) => match E[n]? with
    | some (.lst xs) => some xs
    | _ => none
  | .val (.lst xs) => some xs
  | .new (.lst xs) => some xs
  | _ => none
/-- a list or tuple, to be read: its items, and the list's number where it has one -/
def asS (E : Eh) : Rv → Option (List D × Option Nat)
  | .val (.tup ds) => some (ds, none)
  | .val (.scr ns) => some (ns.map .int, none)
  | .val (.lst xs) => some (xs, none)
  | .val (.ref n) => match E[n]? with
    | some (.lst xs) => some (xs, some n)
    | _ => none
  | .new (.lst xs) => some (xs, none)
  | _ => none
def reg (r : Rv) (E : Eh) : D × Eh := match r with
  | .val d => (d, E)
  | .new o => (.ref E.length, E ++ [o])
/-- a new thing that nobody will change -/
def freeze : Rv → Rv
  | .new (.lst xs) => .val (.lst xs)
  | .new (.dct kvs) => .val (.dct (kvs.map (·.1)) (kvs.map (·.2)))
  | .val d => .val d
def cut {α : Type} (xs : List α) (lo hi : Option Int) : List α :=
  (xs.drop (HT.sIx xs.length 0 lo)).take (HT.sIx xs.length xs.length hi - HT.sIx xs.length 0 lo)
def big : Int := 18446744073709551616
def binop (E : Eh) (op : Operator) (a b : Rv) : Option Rv :=
  match op, a, b with
  | .Add, .val (.int i), .val (.int j) => some (.val (.int (i + j)))
  | .Add, .val (.str x), .val (.str y) => if x.length + y.length ≤ sizeLine then some (.val (.str (x ++ y))) else none
  | .Add, .val (.tup xs), .val (.tup ys) => if xs.length + ys.length ≤ sizeLine then some (.val (.tup (xs ++ ys))) else none
  | .Add, a, b => match asL E a, asL E b with
    | some xs, some ys => if xs.length + ys.length ≤ sizeLine then some (.new (.lst (xs ++ ys))) else none
    | _, _ => none
  | .Sub, .val (.int i), .val (.int j) => some (.val (.int (i - j)))
  | .Mult, .val (.int i), .val (.int j) => if -big < i ∧ i < big then some (.val (.int (i * j))) else none
  | .Mult, .val (.tup xs), .val (.int j) => if 2 ≤ j ∧ j ≤ 1000 ∧ xs.length ≤ 1000 then some (.val (.tup (List.replicate j.toNat xs).flatten)) else none
  | .Mult, .new (.lst xs), .val (.int j) => if 0 ≤ j ∧ j ≤ 1000 ∧ xs.length ≤ 1000 then some (.new (.lst (List.replicate j.toNat xs).flatten)) else none
  | .FloorDiv, .val (.int i), .val (.int j) => if j ≠ 0 ∧ j.natAbs < 1073741824 then some (.val (.int (i.fdiv j))) else none
  | .Mod, .val (.int i), .val (.int j) => if j ≠ 0 then some (.val (.int (i.fmod j))) else none
  | .Pow, .val (.int i), .val (.int j) => if 0 ≤ j ∧ j ≤ 1000 ∧ i.natAbs < 18446744073709551616 then some (.val (.int (i ^ j.toNat))) else none
  | _, _, _ => none
def D.flat : D → Bool
  | .non | .bl _ | .int _ | .str _ => true
  | _ => false
/-- equality of flat things -/
def D.eqf : D → D → Bool
  | .non, .non => true
  | .bl a, .bl b => a == b
  | .bl a, .int j => (if a then 1 else 0) == j
  | .int i, .bl b => i == (if b then 1 else 0)
  | .int i, .int j => i == j
  | .str x, .str y => decide (x = y)
  | _, _ => false
def eqRv (E : Eh) (a b : Rv) : Option Bool := match a, b with
  | .val (.str x), .val (.str y) => some (decide (x = y))
  | .val (.int i), .val (.int j) => some (decide (i = j))
  | _, _ => match toPr E a, toPr E b with
    | some d, some e => if SeqAt.shaped d && SeqAt.shaped e then some (PyData.eqv d e) else none
    | _, _ => none
def D.keyOf : D → Option Key
  | .int i => some (.inl i)
  | .str x => some (.inr x)
  | _ => none
def asK (E : Eh) : Rv → Option (List (Key × D))
  | .val (.ref n) => match E[n]? with
    | some (.dct kvs) => some kvs
    | _ => none
  | .val (.dct ks vs) => some (ks.zip vs)
  | .new (.dct kvs) => some kvs
  | _ => none
def look (kvs : List (Key × D)) (k : Key) : Option D := match kvs with
  | [] => none
  | (k', d) :: r => if k' = k then some d else look r k
def put (kvs : List (Key × D)) (k : Key) (d : D) : List (Key × D) :=
  if (kvs.any fun p => decide (p.1 = k)) = true then kvs.map (fun p => if p.1 = k then (p.1, d) else p) else kvs ++ [(k, d)]
def putAll (m kvs : List (Key × D)) : List (Key × D) := kvs.foldl (fun m p => put m p.1 p.2) m
def keyD : Key → D
  | .inl i => .int i
  | .inr x => .str x
def D.asPair : D → Option (Key × D)
  | .tup [k, v] => k.keyOf.map fun k => (k, v)
  | _ => none
def keyS : Key → Option Str
  | .inl _ => none
  | .inr x => some x
def inRv (E : Eh) (a b : Rv) : Option Bool := match a with
  | .val x => match asS E b with
    | some (xs, _) => if x.flat && xs.all D.flat then some (xs.any fun y => D.eqf y x) else none
    | none => match asK E b, x.keyOf with
      | some kvs, some k => some (look kvs k).isSome
      | _, _ => none
  | _ => none
def cmpop (E : Eh) (op : CmpOp) (a b : Rv) : Option Bool :=
  match op with
  | .Eq => eqRv E a b
  | .NotEq => (eqRv E a b).map (!·)
  | .Lt => match a, b with
    | .val (.int i), .val (.int j) => some (decide (i < j))
    | .val (.str x), .val (.str y) => some (decide (x.cps.toList < y.cps.toList))
    | _, _ => none
  | .LtE => match a, b with
    | .val (.int i), .val (.int j) => some (decide (i ≤ j))
    | _, _ => none
  | .Gt => match a, b with
    | .val (.int i), .val (.int j) => some (decide (j < i))
    | _, _ => none
  | .GtE => match a, b with
    | .val (.int i), .val (.int j) => some (decide (j ≤ i))
    | _, _ => none
  | .Is => match a, b with
    | .val x, .val .non => some (decide (x = .non))
    | _, _ => none
  | .IsNot => match a, b with
    | .val x, .val .non => some (!decide (x = .non))
    | _, _ => none
  | .In => inRv E a b
  | .NotIn => (inRv E a b).map (!·)
def sign (c : Nat) : Str := ⟨#[c]⟩
def idxop (E : Eh) (a i : Rv) : Option D :=
  match i with
  | .val i => match asS E a, i with
    | some (xs, _), .int i => L2.atI xs i
    | _, i => match a, i with
      | .val (.str x), .int i => if x.length ≤ sizeLine then (L2.atI x.cps.toList i).map fun c => .str (sign c) else none
      | a, i => match asK E a, i.keyOf with
        | some kvs, some k => look kvs k
        | _, _ => none
  | _ => none
def slcop (E : Eh) (a : Rv) (lo hi : Option Int) : Option Rv :=
  match a with
  | .val (.tup ds) => some (.val (.tup (cut ds lo hi)))
  | a => match asS E a with
    | some (xs, _) => some (.new (.lst (cut xs lo hi)))
    | none => none
def revop (E : Eh) (a : Rv) : Option Rv :=
  match a with
  | .val (.tup ds) => some (.val (.tup ds.reverse))
  | a => (asL E a).map fun xs => .new (.lst xs.reverse)
def lenB (E : Eh) (rs : List Rv) : Option Rv := match rs with
  | [r] => match asS E r with
    | some (xs, _) => some (.val (.int xs.length))
    | none => match r with
      | .val (.str x) => if x.length ≤ sizeLine then some (.val (.int x.length)) else none
      | _ => none
  | _ => none
def tupB (E : Eh) (rs : List Rv) : Option Rv := match rs with
  | [r] => match asS E r with
    | some (xs, _) => some (.val (.tup xs))
    | none => match r with
      | .val (.str x) => if x.cps.size ≤ sizeLine then some (.val (.tup (x.cps.toList.map fun c => .str (sign c)))) else none
      | _ => none
  | _ => none
def lstB (E : Eh) (rs : List Rv) : Option Rv := match rs with
  | [r] => match asS E r with
    | some (xs, _) => some (.new (.lst xs))
    | none => none
  | _ => none
def reprB (E : Eh) (rs : List Rv) : Option Rv := match rs with
  | [r] => match toPr E r with
    | some d => if SeqAt.shaped d && PyData.showable d && decide (d.shown.length ≤ sizeLine) then some (.val (.str d.shown)) else none
    | none => none
  | _ => none
def strB (E : Eh) (rs : List Rv) : Option Rv := match rs with
  | [.val (.int i)] => if i.natAbs.log2 < 1920 then some (.val (.str (toString i : String))) else none
  | [.val (.str x)] => some (.val (.str x))
  | [.val .non] => some (.val (.str "None"))
  | _ => none
def intB (E : Eh) (rs : List Rv) : Option Rv := match rs with
  | [.val (.int i)] => some (.val (.int i))
  | [.val (.bl b)] => some (.val (.int (if b then 1 else 0)))
  | _ => none
def D.asBl : D → Option Bool
  | .bl b => some b
  | _ => none
def D.asStr : D → Option Str
  | .str x => some x
  | _ => none
def allB (E : Eh) (rs : List Rv) : Option Rv := match rs with
  | [r] => match asL E r with
    | some xs => (xs.mapM D.asBl).map fun bs => .val (.bl (bs.all id))
    | none => none
  | _ => none
def anyB (E : Eh) (rs : List Rv) : Option Rv := match rs with
  | [r] => match asL E r with
    | some xs => (xs.mapM D.asBl).map fun bs => .val (.bl (bs.any id))
    | none => none
  | _ => none
def sortB (E : Eh) (rs : List Rv) : Option Rv := match rs with
  | [r] => match asL E r with
    | some xs => match xs.mapM D.asStr with
      | some ys => if ys.length < 64 then some (.new (.lst ((sortS ys).map .str))) else none
      | none => none
    | none => match asK E r with
      | some kvs => match kvs.mapM (fun p => keyS p.1) with
        | some ys => if ys.length < 64 then some (.new (.lst ((sortS ys).map .str))) else none
        | none => none
      | none => none
  | _ => none
def dicB (E : Eh) (rs : List Rv) : Option Rv := match rs with
  | [r] => match asL E r with
    | some xs => match xs.mapM D.asPair with
      | some kvs => some (.new (.dct (putAll [] kvs)))
      | none => none
    | none => none
  | _ => none
def callb (E : Eh) (f : String) (rs : List Rv) : Option Rv :=
  if f = "len" then lenB E rs else if f = "tuple" then tupB E rs else if f = "list" then lstB E rs else if f = "repr" then reprB E rs else
  if f = "str" then strB E rs else if f = "int" then intB E rs else if f = "all" then allB E rs else if f = "any" then anyB E rs else if f = "sorted" then sortB E rs else if f = "dict" then dicB E rs else none
/-- the name of a thing's type -/
def tyName (E : Eh) : Rv → Option String
  | .val .non => some "NoneType"
  | .val (.bl _) => some "bool"
  | .val (.int _) => some "int"
  | .val (.str _) => some "str"
  | .val (.tup _) => some "tuple"
  | .val (.lst _) => some "list"
  | .val (.scr _) => some "list"
  | .val (.dct _ _) => some "dict"
  | .val (.ref n) => match E[n]? with
    | some (.lst _) => some "list"
    | some (.dct _) => some "dict"
    | none => none
  | .val (.fn _) => none
  | .new (.lst _) => some "list"
  | .new (.dct _) => some "dict"
def isiB (t T : String) : Bool := decide (t = T) || (decide (t = "bool") && decide (T = "int"))
def isiTys : List String := ["str", "int", "bool", "tuple", "list", "dict"]
/-- a store into object n of a thing d: an elder object takes only what is elder -/
def mayPut (b n : Nat) (d : D) : Bool := !decide (n < b) || d.low 0
def appM (b : Nat) (E : Eh) (o : Rv) (rs : List Rv) : Option (Rv × Eh) := match o, rs with
  | .val (.ref n), [.val d] => match E[n]? with
    | some (.lst xs) => if xs.length < sizeLine ∧ mayPut b n d = true then some (.val .non, E.set n (.lst (xs ++ [d]))) else none
    | _ => none
  | _, _ => none
def extM (b : Nat) (E : Eh) (o : Rv) (rs : List Rv) : Option (Rv × Eh) := match o, rs with
  | .val (.ref n), [r] => match E[n]? with
    | some (.lst xs) => match asL E r with
      | some ys => if xs.length + ys.length ≤ sizeLine ∧ mayPut b n (.tup ys) = true then some (.val .non, E.set n (.lst (xs ++ ys))) else none
      | none => none
    | _ => none
  | _, _ => none
def popM (E : Eh) (o : Rv) (rs : List Rv) : Option (Rv × Eh) := match o, rs with
  | .val (.ref n), [] => match E[n]? with
    | some (.lst xs) => match xs[xs.length - 1]? with
      | some d => some (.val d, E.set n (.lst xs.dropLast))
      | none => none
    | _ => none
  | _, _ => none
def updM (b : Nat) (E : Eh) (o : Rv) (rs : List Rv) : Option (Rv × Eh) := match o, rs with
  | .val (.ref n), [r] => match E[n]? with
    | some (.dct kvs) => match r with
      | .new (.dct ms) => if kvs.length + ms.length ≤ sizeLine ∧ mayPut b n (.tup (ms.map (·.2))) = true then some (.val .non, E.set n (.dct (putAll kvs ms))) else none
      | _ => none
    | _ => none
  | _, _ => none
def splitM (E : Eh) (o : Rv) (rs : List Rv) : Option (Rv × Eh) := match o, rs with
  | .val (.str x), [.val (.str y)] => if (y.length == 0) = false ∧ x.length + 2 ≤ sizeLine then some (.new (.lst ((Txt.split x y).map .str)), E) else none
  | _, _ => none
def joinM (E : Eh) (o : Rv) (rs : List Rv) : Option (Rv × Eh) := match o, rs with
  | .val (.str a), [r] => match asS E r with
    | some (xs, _) => match xs.mapM D.asStr with
      | some ys => if (ys.map (·.length)).sum + ys.length * a.length ≤ 16777216 then some (.val (.str (Txt.join a ys)), E) else none
      | none => none
    | none => none
  | _, _ => none
def methop (b : Nat) (E : Eh) (m : String) (o : Rv) (rs : List Rv) : Option (Rv × Eh) :=
  if m = "append" then appM b E o rs else if m = "extend" then extM b E o rs else if m = "pop" then popM E o rs else if m = "split" then splitM E o rs else if m = "join" then joinM E o rs else if m = "update" then updM b E o rs else none
/-- the receiver is of the method's own kind -/
def recv (m : String) (E : Eh) (r : Rv) : Bool :=
  if m = "split" ∨ m = "join" then (match r with | .val (.str _) => true | _ => false) else if m = "update" then (match r with | .val (.ref n) => (match E[n]? with | some (.dct _) => true | _ => false) | _ => false) else (asL E r).isSome
def stoop (b : Nat) (E : Eh) (o i : Rv) (d : D) : Option Eh :=
  match o, i with
  | .val (.ref n), .val i => match E[n]? with
    | some (.lst xs) => match i with
      | .int i => match L2.ixN xs.length i with
        | some j => if mayPut b n d = true then some (E.set n (.lst (xs.set j d))) else none
        | none => none
      | _ => none
    | some (.dct kvs) => match i.keyOf with
      | some k => if mayPut b n d = true ∧ kvs.length < sizeLine then some (E.set n (.dct (put kvs k d))) else none
      | none => none
    | _ => none
  | _, _ => none
/-- the walked list still stands -/
def chk (src : Option (Nat × List D)) (E : Eh) : Bool := match src with
  | none => true
  | some (n, xs) => match E[n]? with
    | some (.lst ys) => D.eqbs xs ys
    | _ => false
def rangeD : Int → Nat → List D
  | _, 0 => []
  | i, n + 1 => .int i :: rangeD (i + 1) n
def enumD : Nat → List D → List D
  | _, [] => []
  | i, d :: r => .tup [.int i, d] :: enumD (i + 1) r

/-! ## running -/
inductive Fl where
  | nx (σ : Sd) | rt (r : Rv) | bk (σ : Sd) | ct (σ : Sd)
abbrev Cf := Nat → List D → Eh → Option (Rv × Eh)
abbrev ItR := List D × Option (Nat × List D) × Eh

def setAll (σ : Sd) : List Nat → List D → Sd
  | i :: r, d :: s => setAll (σ.set i (some d)) r s
  | _, _ => σ
mutual
def asgT : Tg → D → Sd → Eh → Option (Sd × Eh)
  | .nm i, d, σ, E => some (σ.set i (some d), E)
  | .tp ts, d, σ, E => match d with
    | .tup ds => asgTs ts ds σ E
    | _ => none
  | .star is j, d, σ, E => match d with
    | .tup ds => if is.length ≤ ds.length then some ((setAll σ is ds).set j (some (.ref E.length)), E ++ [.lst (ds.drop is.length)]) else none
    | _ => none
  | .starF is j, d, σ, E => match d with
    | .tup ds => if is.length ≤ ds.length then some ((setAll σ is ds).set j (some (.lst (ds.drop is.length))), E) else none
    | _ => none
def asgTs : Tgs → List D → Sd → Eh → Option (Sd × Eh)
  | .nil, ds, σ, E => match ds with
    | [] => some (σ, E)
    | _ => none
  | .cons t r, ds, σ, E => match ds with
    | d :: ds => match asgT t d σ E with
      | some (σ1, E1) => asgTs r ds σ1 E1
      | none => none
    | [] => none
end
def forL (tg : D → Sd → Eh → Option (Sd × Eh)) (body : Sd → Eh → Option (Fl × Eh)) (ok : Eh → Bool) : List D → Sd → Eh → Option (Fl × Eh)
  | [], σ, E => if ok E then some (.nx σ, E) else none
  | d :: r, σ, E => if ok E then
      match tg d σ E with
      | none => none
      | some (σ1, E1) => match body σ1 E1 with
        | some (.nx σ2, E2) => forL tg body ok r σ2 E2
        | some (.ct σ2, E2) => forL tg body ok r σ2 E2
        | some (.bk σ2, E2) => some (.nx σ2, E2)
        | some (.rt v, E2) => some (.rt v, E2)
        | none => none
    else none
def whileL (t : Sd → Eh → Option (Bool × Eh)) (body : Sd → Eh → Option (Fl × Eh)) : Nat → Sd → Eh → Option (Fl × Eh)
  | 0, _, _ => none
  | n + 1, σ, E => match t σ E with
    | none => none
    | some (false, E1) => some (.nx σ, E1)
    | some (true, E1) => match body σ E1 with
      | some (.nx σ2, E2) => whileL t body n σ2 E2
      | some (.ct σ2, E2) => whileL t body n σ2 E2
      | some (.bk σ2, E2) => some (.nx σ2, E2)
      | some (.rt v, E2) => some (.rt v, E2)
      | none => none
/-- a comprehension's turns: acc holds what is made so far -/
def lcL (tg : D → Sd → Eh → Option (Sd × Eh)) (tst : Sd → Eh → Option (Bool × Eh)) (elt : Sd → Eh → Option (D × Eh)) (ok : Eh → Bool) (σ : Sd) : List D → List D → Eh → Option (List D × Eh)
  | [], acc, E => if ok E then some (acc, E) else none
  | d :: r, acc, E => if ok E then
      match tg d σ E with
      | none => none
      | some (σ1, E1) => match tst σ1 E1 with
        | none => none
        | some (false, E2) => lcL tg tst elt ok σ r acc E2
        | some (true, E2) => match elt σ1 E2 with
          | none => none
          | some (y, E3) => if acc.length < sizeLine then lcL tg tst elt ok σ r (acc ++ [y]) E3 else none
    else none
/-- a dict comprehension's turns -/
def dcL (tg : D → Sd → Eh → Option (Sd × Eh)) (tst : Sd → Eh → Option (Bool × Eh)) (elt : Sd → Eh → Option ((Key × D) × Eh)) (ok : Eh → Bool) (σ : Sd) : List D → List (Key × D) → Eh → Option (List (Key × D) × Eh)
  | [], acc, E => if ok E then some (acc, E) else none
  | d :: r, acc, E => if ok E then
      match tg d σ E with
      | none => none
      | some (σ1, E1) => match tst σ1 E1 with
        | none => none
        | some (false, E2) => dcL tg tst elt ok σ r acc E2
        | some (true, E2) => match elt σ1 E2 with
          | none => none
          | some (y, E3) => if acc.length < sizeLine then dcL tg tst elt ok σ r (put acc y.1 y.2) E3 else none
    else none
def kvR (k : Option (Rv × Eh)) (v : Eh → Option (Rv × Eh)) : Option ((Key × D) × Eh) := match k with
  | some (.val kd, E1) => match kd.keyOf with
    | some key => (v E1).map fun p => ((key, (reg p.1 p.2).1), (reg p.1 p.2).2)
    | none => none
  | _ => none
def lc2L (tg : D → Sd → Eh → Option (Sd × Eh)) (inner : Sd → List D → Eh → Option (List D × Eh)) (ok : Eh → Bool) (σ : Sd) : List D → List D → Eh → Option (List D × Eh)
  | [], acc, E => if ok E then some (acc, E) else none
  | d :: r, acc, E => if ok E then
      match tg d σ E with
      | none => none
      | some (σ1, E1) => match inner σ1 acc E1 with
        | none => none
        | some (acc2, E2) => lc2L tg inner ok σ r acc2 E2
    else none
def wipeD (σ : Sd) : List Nat → Sd
  | [] => σ
  | v :: vs => (wipeD σ vs).set v none

def innerL (tg : D → Sd → Eh → Option (Sd × Eh)) (ei : Sd → Eh → Option ItR) (el : Sd → Eh → Option (D × Eh)) (own1 : List Nat) (σ : Sd) (acc : List D) (E : Eh) : Option (List D × Eh) :=
  match ei σ E with
  | none => none
  | some (ds1, src1, E2) => lcL tg (fun _ E => some (true, E)) el (chk src1) (wipeD σ own1) ds1 acc E2
section
variable (cf : Cf) (wf b : Nat)
mutual
def ev : Ex → Sd → Eh → Option (Rv × Eh)
  | .var i, σ, E => match σ[i]? with
    | some (some d) => some (.val d, E)
    | _ => none
  | .int i, _, E => some (.val (.int i), E)
  | .str x, _, E => some (.val (.str x), E)
  | .bl b, _, E => some (.val (.bl b), E)
  | .non, _, E => some (.val .non, E)
  | .tup es, σ, E => match evs es σ E with
    | some (ds, E1) => if ds.length ≤ sizeLine then some (.val (.tup ds), E1) else none
    | none => none
  | .lst es, σ, E => match evs es σ E with
    | some (ds, E1) => if ds.length ≤ sizeLine then some (.new (.lst ds), E1) else none
    | none => none
  | .dct ks vs, σ, E => match evp ks vs σ E with
    | some (kvs, E1) => if kvs.length ≤ 15 then some (.new (.dct (kvs.foldl (fun m p => put m p.1 p.2) [])), E1) else none
    | none => none
  | .dcx es, σ, E => match evx es σ E with
    | some (kvs, E1) => if kvs.length ≤ 15 then some (.new (.dct (kvs.foldl (fun m p => put m p.1 p.2) [])), E1) else none
    | none => none
  | .bin op x y, σ, E => match ev x σ E with
    | none => none
    | some (r1, E1) => match ev y σ E1 with
      | none => none
      | some (r2, E2) => (binop E2 op r1 r2).map fun r => (r, E2)
  | .neg x, σ, E => match ev x σ E with
    | some (.val (.int i), E1) => some (.val (.int (-i)), E1)
    | _ => none
  | .not x, σ, E => match ts x σ E with
    | some (c, E1) => some (.val (.bl (!c)), E1)
    | none => none
  | .bop a es, σ, E => match evb a es σ E with
    | some (c, E1) => some (.val (.bl c), E1)
    | none => none
  | .cmp op x y, σ, E => match ev x σ E with
    | none => none
    | some (r1, E1) => match ev y σ E1 with
      | none => none
      | some (r2, E2) => (cmpop E2 op r1 r2).map fun c => (.val (.bl c), E2)
  | .ifx t x y, σ, E => match ts t σ E with
    | none => none
    | some (true, E1) => ev x σ E1
    | some (false, E1) => ev y σ E1
  | .call j es, σ, E => match evs es σ E with
    | none => none
    | some (ds, E1) => cf j ds E1
  | .callB f es, σ, E => match evr es σ E with
    | none => none
    | some (rs, E1) => (callb E1 f rs).map fun r => (r, E1)
  | .meth m o es, σ, E => match ev o σ E with
    | none => none
    | some (r, E1) => if recv m E1 r = true then match evr es σ E1 with
        | none => none
        | some (rs, E2) => methop b E2 m r rs
      else none
  | .idx x y, σ, E => match ev x σ E with
    | none => none
    | some (r1, E1) => match ev y σ E1 with
      | none => none
      | some (r2, E2) => (idxop E2 r1 r2).map fun d => (.val d, E2)
  | .slc x lo hi, σ, E => match ev x σ E with
    | none => none
    | some (r1, E1) => match evo lo σ E1 with
      | none => none
      | some (l, E2) => match evo hi σ E2 with
        | none => none
        | some (h, E3) => (slcop E3 r1 l h).map fun r => (r, E3)
  | .rev x, σ, E => match ev x σ E with
    | none => none
    | some (r, E1) => (revop E1 r).map fun r => (r, E1)
  | .frz x, σ, E => match ev x σ E with
    | none => none
    | some (r, E1) => some (freeze r, E1)
  | .dget o x y, σ, E => match ev o σ E with
    | none => none
    | some (r, E1) => match asK E1 r with
      | none => none
      | some _ => match ev x σ E1 with
        | none => none
        | some (rk, E2) => match ev y σ E2 with
          | none => none
          | some (rd, E3) => match asK E3 r, rk with
            | some kvs, .val kd => match kd.keyOf with
              | none => none
              | some key => match look kvs key with
                | some d => some (.val d, E3)
                | none => some (rd, E3)
            | _, _ => none
  | .isi x T, σ, E => match ev x σ E with
    | none => none
    | some (r, E1) => (tyName E1 r).map fun t => (.val (.bl (isiB t T)), E1)
  | .sset x, σ, E => match ev x σ E with
    | none => none
    | some (r, E1) => match asS E1 r with
      | none => none
      | some (xs, _) => match xs.mapM D.asStr with
        | none => none
        | some ys => if ys.length < 4000 ∧ (once ys).length < 64 then some (.new (.lst ((sortS (once ys)).map .str)), E1) else none
  | .lset x, σ, E => match ev x σ E with
    | none => none
    | some (r, E1) => match asS E1 r with
      | none => none
      | some (xs, _) => match xs.mapM D.asStr with
        | none => none
        | some ys => if ys.length < 4000 then some (.val (.int (once ys).length), E1) else none
  | .dcm k v tg it c own, σ, E => match evi it σ E with
    | none => none
    | some (ds, src, E1) => match dcL (asgT tg) (fun σ E => evc c σ E) (fun σ E => kvR (ev k σ E) (fun E => ev v σ E)) (chk src) (wipeD σ (own.map (·.2))) ds [] E1 with
      | some (kvs, E2) => some (.new (.dct kvs), E2)
      | none => none
  | .lc elt tg it c own, σ, E => match evi it σ E with
    | none => none
    | some (ds, src, E1) => match lcL (asgT tg) (fun σ E => evc c σ E) (fun σ E => (ev elt σ E).map fun p => reg p.1 p.2) (chk src) (wipeD σ (own.map (·.2))) ds [] E1 with
      | some (xs, E2) => some (.new (.lst xs), E2)
      | none => none
  | .lc2 elt tg it tg1 it1 own own1, σ, E => match evi it σ E with
    | none => none
    | some (ds, src, E1) => match lc2L (asgT tg) (innerL (asgT tg1) (fun σ E => evi it1 σ E) (fun σ E => (ev elt σ E).map fun p => reg p.1 p.2) own1) (chk src) (wipeD σ (own.map (·.2))) ds [] E1 with
      | some (xs, E2) => some (.new (.lst xs), E2)
      | none => none
/-- a test -/
def ts : Ex → Sd → Eh → Option (Bool × Eh)
  | .not x, σ, E => match ts x σ E with
    | some (c, E1) => some (!c, E1)
    | none => none
  | .bop a es, σ, E => evb a es σ E
  | .bl b, _, E => some (b, E)
  | .var i, σ, E => match σ[i]? with
    | some (some (.bl c)) => some (c, E)
    | _ => none
  | .cmp op x y, σ, E => match ev x σ E with
    | none => none
    | some (r1, E1) => match ev y σ E1 with
      | none => none
      | some (r2, E2) => (cmpop E2 op r1 r2).map fun c => (c, E2)
  | .call j es, σ, E => match evs es σ E with
    | none => none
    | some (ds, E1) => match cf j ds E1 with
      | some (.val (.bl c), E2) => some (c, E2)
      | _ => none
  | .callB f es, σ, E => match evr es σ E with
    | none => none
    | some (rs, E1) => match callb E1 f rs with
      | some (.val (.bl c)) => some (c, E1)
      | _ => none
  | .isi x T, σ, E => match ev x σ E with
    | none => none
    | some (r, E1) => (tyName E1 r).map fun t => (isiB t T, E1)
  | _, _, _ => none
/-- and, or of truths -/
def evb (a : Bool) : Exs → Sd → Eh → Option (Bool × Eh)
  | .nil, _, _ => none
  | .cons e r, σ, E => match r with
    | .nil => ts e σ E
    | .cons _ _ => match ts e σ E with
      | none => none
      | some (c, E1) => if c = a then evb a r σ E1 else some (c, E1)
def evs : Exs → Sd → Eh → Option (List D × Eh)
  | .nil, _, E => some ([], E)
  | .cons e r, σ, E => match ev e σ E with
    | none => none
    | some (v, E1) => match evs r σ (reg v E1).2 with
      | none => none
      | some (ds, E2) => some ((reg v E1).1 :: ds, E2)
def evr : Exs → Sd → Eh → Option (List Rv × Eh)
  | .nil, _, E => some ([], E)
  | .cons e r, σ, E => match ev e σ E with
    | none => none
    | some (v, E1) => match evr r σ E1 with
      | none => none
      | some (vs, E2) => some (v :: vs, E2)
def evo : Exo → Sd → Eh → Option (Option Int × Eh)
  | .none, _, E => some (none, E)
  | .some e, σ, E => match ev e σ E with
    | some (.val (.int i), E1) => some (some i, E1)
    | _ => none
def evc : Exo → Sd → Eh → Option (Bool × Eh)
  | .none, _, E => some (true, E)
  | .some e, σ, E => ts e σ E
def evp : Exs → Exs → Sd → Eh → Option (List (Key × D) × Eh)
  | .nil, .nil, _, E => some ([], E)
  | .cons k ks, .cons v vs, σ, E => match k with
    | .str x => match ev v σ E with
      | none => none
      | some (r, E1) => match evp ks vs σ (reg r E1).2 with
        | none => none
        | some (kvs, E2) => some ((.inr x, (reg r E1).1) :: kvs, E2)
    | _ => none
  | _, _, _, _ => none
/-- keys and values in turn -/
def evx : Exs → Sd → Eh → Option (List (Key × D) × Eh)
  | .nil, _, E => some ([], E)
  | .cons k r, σ, E => match r with
    | .nil => none
    | .cons v r2 => match ev k σ E with
      | some (.val kd, E0) => match kd.keyOf with
        | some key => match ev v σ E0 with
          | none => none
          | some (w, E1) => match evx r2 σ (reg w E1).2 with
            | none => none
            | some (kvs, E2) => some ((key, (reg w E1).1) :: kvs, E2)
        | none => none
      | _ => none
def evi : It → Sd → Eh → Option ItR
  | .seq e, σ, E => match ev e σ E with
    | none => none
    | some (r, E1) => match asS E1 r with
      | some (xs, n) => some (xs, n.map fun n => (n, xs), E1)
      | none => match r with
        | .val (.str x) => if x.length ≤ sizeLine then some (x.cps.toList.map fun c => .str (sign c), none, E1) else none
        | .val (.dct ks _) => some (ks.map keyD, none, E1)
        | _ => none
  | .range es, σ, E => match evs es σ E with
    | some ([.int j], E1) => if -4611686018427387904 ≤ j ∧ j < 4611686018427387904 then some (rangeD 0 j.toNat, none, E1) else none
    | some ([.int i, .int j], E1) => if -4611686018427387904 ≤ i ∧ i < 4611686018427387904 ∧ -4611686018427387904 ≤ j ∧ j < 4611686018427387904 then some (rangeD i (j - i).toNat, none, E1) else none
    | _ => none
  | .enum e, σ, E => match ev e σ E with
    | none => none
    | some (r, E1) => match r with
      | .val (.tup _) => none
      | r => match asS E1 r with
        | some (xs, n) => some (enumD 0 xs, n.map fun n => (n, xs), E1)
        | none => none
end
mutual
def ex : Stm → Sd → Eh → Option (Fl × Eh)
  | .asg t e, σ, E => match ev cf b e σ E with
    | none => none
    | some (r, E1) => (asgT t (reg r E1).1 σ (reg r E1).2).map fun p => (.nx p.1, p.2)
  | .par is es, σ, E => match evs cf b es σ E with
    | none => none
    | some (ds, E1) => some (.nx (setAll σ is ds), E1)
  | .sto o i e, σ, E => match ev cf b e σ E with
    | none => none
    | some (r, E1) => match ev cf b o σ (reg r E1).2 with
      | none => none
      | some (ro, E2) => match ev cf b i σ E2 with
        | none => none
        | some (ri, E3) => (stoop b E3 ro ri (reg r E1).1).map fun E4 => (.nx σ, E4)
  | .expr e, σ, E => match ev cf b e σ E with
    | none => none
    | some (_, E1) => some (.nx σ, E1)
  | .ret e, σ, E => match ev cf b e σ E with
    | none => none
    | some (r, E1) => some (.rt r, E1)
  | .ife t x y, σ, E => match ts cf b t σ E with
    | none => none
    | some (true, E1) => exs x σ E1
    | some (false, E1) => exs y σ E1
  | .loop tg it body, σ, E => match evi cf b it σ E with
    | none => none
    | some (ds, src, E1) => forL (asgT tg) (fun σ E => exs body σ E) (chk src) ds σ E1
  | .whl t body, σ, E => whileL (fun σ E => ts cf b t σ E) (fun σ E => exs body σ E) wf σ E
  | .pass, σ, E => some (.nx σ, E)
  | .brk, σ, E => some (.bk σ, E)
  | .cont, σ, E => some (.ct σ, E)
def exs : Stms → Sd → Eh → Option (Fl × Eh)
  | .nil, σ, E => some (.nx σ, E)
  | .cons s r, σ, E => match ex s σ E with
    | some (.nx σ1, E1) => exs r σ1 E1
    | x => x
end
end
structure Fn where
  np : Nat
  nn : Nat
  body : Stms
/-- what is handed back: what the call made and does not hand back is dropped -/
def leave (b : Nat) (r : Rv) (E : Eh) : Rv × Eh :=
  if r.low b then (r, E.take b) else match r with
    | .val (.ref n) => match E[n]? with
      | some o => if o.low b then (.new o, E.take b) else (r, E)
      | none => (r, E)
    | r => (r, E)
def callF (P : List Fn) (wf : Nat) : Nat → Cf
  | 0 => fun _ _ _ => none
  | k + 1 => fun j ds E => match P[j]? with
    | none => none
    | some f => if ds.length = f.np then
        match exs (callF P wf k) wf E.length f.body (ds.map some ++ List.replicate (f.nn - f.np) none) E with
        | some (.rt r, E1) => some (leave E.length r E1)
        | some (.nx _, E1) => some (leave E.length (.val .non) E1)
        | _ => none
      else none
end Ev
end EvRun
section EvRel
namespace Ev
open PySem PySem.Spec PyProof.Rows L2

/-! ## how data lie in the hand layer's heap -/
/-- a list that nobody changes -/
def FzL (K : PySem.W.Frag) (H : Hp) (a : Addr) (xs : List L2.V) : Prop :=
  (∃ o, H a = some (.frz o (.lst xs))) ∨ ∃ (o : Obj) (its : Array Value) (n : Nat), K.lookup a = some o ∧ o.cls = .type "list" ∧ o.dict = none ∧ o.data = .seq its n ∧ its.size ≤ sizeLine ∧ Vals xs its.toList
theorem FzL.sq {K : PySem.W.Frag} {H : Hp} {a : Addr} {xs : List L2.V} (h : FzL K H a xs) : SqL K H a xs := h.imp (fun h => .inr h) id
inductive FK where
  | tup | lst | frz | dct (ks : List Key) | dco (o : Obj) (ks : List Key)
/-- a tuple, or such a list, or such a dict -/
def Fix (K : PySem.W.Frag) (H : Hp) (a : Addr) (t : FK) (xs : List L2.V) : Prop := match t with
  | .tup => SqT K H a xs
  | .lst => FzL K H a xs
  | .frz => ∃ o, H a = some (.frz o (.lst xs))
  | .dct ks => ∃ o, H a = some (.frz o (.dK (ks.zip xs)))
  | .dco o ks => H a = some (.frz o (.dK (ks.zip xs)))
def Fixd : HO → Prop
  | .tup _ => True
  | .frz _ _ => True
  | _ => False
theorem fix_keep {K : PySem.W.Frag} {H H' : Hp} (h : ∀ a u, H a = some u → Fixd u → H' a = some u) : ∀ a t xs, Fix K H a t xs → Fix K H' a t xs := fun a t xs q => by
  cases t with
  | lst =>
    have q : FzL K H a xs := q
    show FzL K H' a xs
    rcases q with ⟨o, q⟩ | q
    · exact .inl ⟨o, h a _ q trivial⟩
    · exact .inr q
  | tup =>
    have q : SqT K H a xs := q
    show SqT K H' a xs
    rcases q with (q | ⟨o, q⟩) | q
    · exact .inl (.inl (h a _ q trivial))
    · exact .inl (.inr ⟨o, h a _ q trivial⟩)
    · exact .inr q
  | frz =>
    obtain ⟨o, q⟩ := q
    exact ⟨o, h a _ q trivial⟩
  | dct ks =>
    obtain ⟨o, q⟩ := q
    exact ⟨o, h a _ q trivial⟩
  | dco o ks => exact h a _ q trivial
mutual
inductive RpV (K : PySem.W.Frag) (ga : Nat → Option Addr) (H : Hp) (μ : List Addr) : D → L2.V → Prop
  | non : RpV K ga H μ .non .non
  | bl (b : Bool) : RpV K ga H μ (.bl b) (.bl b)
  | int (i : Int) : RpV K ga H μ (.int i) (.int i)
  | str (x : Str) : RpV K ga H μ (.str x) (.str x)
  | tup {ds : List D} {a : Addr} {xs : List L2.V} : SqT K H a xs → RpVs K ga H μ ds xs → RpV K ga H μ (.tup ds) (.ref a)
  | ref {n : Nat} {a : Addr} : μ[n]? = some a → RpV K ga H μ (.ref n) (.ref a)
  | fn {j : Nat} {a : Addr} : ga j = some a → RpV K ga H μ (.fn j) (.ref a)
  | scr {ns : List Int} {a : Addr} : FzL K H a (ns.map V.int) → RpV K ga H μ (.scr ns) (.ref a)
  | lst {ds : List D} {a : Addr} {xs : List L2.V} : (∃ o, H a = some (.frz o (.lst xs))) → RpVs K ga H μ ds xs → RpV K ga H μ (.lst ds) (.ref a)
  | dct {ks : List Key} {ds : List D} {a : Addr} {xs : List L2.V} : (∃ o, H a = some (.frz o (.dK (ks.zip xs)))) → ks.length = ds.length → RpVs K ga H μ ds xs → RpV K ga H μ (.dct ks ds) (.ref a)
inductive RpVs (K : PySem.W.Frag) (ga : Nat → Option Addr) (H : Hp) (μ : List Addr) : List D → List L2.V → Prop
  | nil : RpVs K ga H μ [] []
  | cons {d : D} {v : L2.V} {ds : List D} {vs : List L2.V} : RpV K ga H μ d v → RpVs K ga H μ ds vs → RpVs K ga H μ (d :: ds) (v :: vs)
end
def RpO (K : PySem.W.Frag) (ga : Nat → Option Addr) (H : Hp) (μ : List Addr) (a : Addr) : O → Prop
  | .lst ds => ∃ xs, H a = some (.lst xs) ∧ RpVs K ga H μ ds xs
  | .dct kvs => ∃ xs, H a = some (.dK ((kvs.map (·.1)).zip xs)) ∧ RpVs K ga H μ (kvs.map (·.2)) xs
/-- marks: objects below one name only such below it -/
structure Mk where
  b : Nat
  l : List Nat
  le : ∀ m ∈ l, m ≤ b
def Mk.all (b : Mk) : List Nat := b.b :: b.l
theorem Mk.top (b : Mk) {m : Nat} (h : m ∈ b.all) : m ≤ b.b := by
  rcases List.mem_cons.mp h with rfl | h
  · exact Nat.le_refl _
  · exact b.le m h
structure Rp (K : PySem.W.Frag) (ga : Nat → Option Addr) (b : Mk) (μ : List Addr) (E : Eh) (H : Hp) : Prop where
  len : μ.length = E.length
  nd : μ.Nodup
  ob : ∀ (n : Nat) (o : O) (a : Addr), E[n]? = some o → μ[n]? = some a → RpO K ga H μ a o
  low : ∀ m ∈ b.all, ∀ (n : Nat) (o : O), n < m → E[n]? = some o → o.low m = true
  bl : ∀ m ∈ b.all, m ≤ E.length
structure Ext (K : PySem.W.Frag) (H : Hp) (μ : List Addr) (H' : Hp) (μ' : List Addr) : Prop where
  pre : ∃ l, μ' = μ ++ l ∧ ∀ a ∈ l, H a = none
  oth : ∀ a o, H a = some o → a ∉ μ → H' a = some o
  tup : ∀ a t xs, Fix K H a t xs → Fix K H' a t xs
def RpR (K : PySem.W.Frag) (ga : Nat → Option Addr) (H0 H : Hp) (μ : List Addr) : Rv → L2.V → Prop
  | .val d, v => RpV K ga H μ d v
  | .new o, v => ∃ a, v = .ref a ∧ RpO K ga H μ a o ∧ a ∉ μ ∧ H0 a = none
structure RpS (K : PySem.W.Frag) (ga : Nat → Option Addr) (H : Hp) (μ : List Addr) (σd : Sd) (σ : L2.St) : Prop where
  len : σ.length = σd.length
  get : ∀ (i : Nat) (d : D), σd[i]? = some (some d) → ∃ v, σ[i]? = some (some v) ∧ RpV K ga H μ d v

section
variable {K : PySem.W.Frag} {ga : Nat → Option Addr} {H H0 H1 H2 : Hp} {μ μ1 μ2 : List Addr} {b : Mk} {E : Eh}
theorem RpVs.length : ∀ {ds : List D} {vs : List L2.V}, RpVs K ga H μ ds vs → ds.length = vs.length
  | _, _, .nil => rfl
  | _, _, .cons _ t => by simp only [List.length_cons, RpVs.length t]
theorem RpVs.get : ∀ {ds : List D} {vs : List L2.V} {i : Nat} {d : D}, RpVs K ga H μ ds vs → ds[i]? = some d → ∃ v, vs[i]? = some v ∧ RpV K ga H μ d v
  | _, _, _, _, .nil, e => by simp at e
  | _, _, 0, _, .cons r _, e => by simp at e; subst e; exact ⟨_, rfl, r⟩
  | _, _, i + 1, d, .cons _ t, e => by
    obtain ⟨v, h1, h2⟩ := RpVs.get (i := i) (d := d) t (by simpa using e)
    exact ⟨v, by simpa using h1, h2⟩
theorem RpVs.append : ∀ {ds es : List D} {vs us : List L2.V}, RpVs K ga H μ ds vs → RpVs K ga H μ es us → RpVs K ga H μ (ds ++ es) (vs ++ us)
  | _, _, _, _, .nil, s => s
  | _, _, _, _, .cons r t, s => .cons r (RpVs.append t s)
theorem RpVs.drop : ∀ (n : Nat) {ds : List D} {vs : List L2.V}, RpVs K ga H μ ds vs → RpVs K ga H μ (ds.drop n) (vs.drop n)
  | 0, _, _, r => r
  | _ + 1, _, _, .nil => .nil
  | n + 1, _, _, .cons _ t => RpVs.drop n t
theorem RpVs.take : ∀ (n : Nat) {ds : List D} {vs : List L2.V}, RpVs K ga H μ ds vs → RpVs K ga H μ (ds.take n) (vs.take n)
  | 0, _, _, _ => .nil
  | _ + 1, _, _, .nil => .nil
  | n + 1, _, _, .cons r t => .cons r (RpVs.take n t)
theorem RpVs.set {d : D} {v : L2.V} (r : RpV K ga H μ d v) : ∀ (i : Nat) {ds : List D} {vs : List L2.V}, RpVs K ga H μ ds vs → RpVs K ga H μ (ds.set i d) (vs.set i v)
  | _, _, _, .nil => .nil
  | 0, _, _, .cons _ t => .cons r t
  | i + 1, _, _, .cons q t => .cons q (RpVs.set r i t)
theorem RpVs.reverse : ∀ {ds : List D} {vs : List L2.V}, RpVs K ga H μ ds vs → RpVs K ga H μ ds.reverse vs.reverse
  | _, _, .nil => .nil
  | _, _, .cons r t => by
    rw [List.reverse_cons, List.reverse_cons]
    exact (RpVs.reverse t).append (.cons r .nil)
theorem RpVs.split : ∀ {ds es : List D} {vs : List L2.V}, RpVs K ga H μ (ds ++ es) vs → ∃ us ws, vs = us ++ ws ∧ RpVs K ga H μ ds us ∧ RpVs K ga H μ es ws
  | [], _, vs, r => ⟨[], vs, rfl, .nil, r⟩
  | _ :: _, _, _, .cons r t => by
    obtain ⟨us, ws, rfl, h1, h2⟩ := RpVs.split t
    exact ⟨_ :: us, ws, rfl, .cons r h1, h2⟩
/-! what is known stays known -/
mutual
theorem RpV.mono' {H' : Hp} {μ' : List Addr} (ht : ∀ a t xs, Fix K H a t xs → Fix K H' a t xs) (hm : ∀ (n : Nat) (a : Addr), μ[n]? = some a → μ'[n]? = some a) : ∀ {d : D} {v : L2.V}, RpV K ga H μ d v → RpV K ga H' μ' d v
  | _, _, .non => .non
  | _, _, .bl b => .bl b
  | _, _, .int i => .int i
  | _, _, .str x => .str x
  | _, _, .tup h r => .tup (ht _ .tup _ h) (RpVs.mono' ht hm r)
  | _, _, .ref h => .ref (hm _ _ h)
  | _, _, .fn h => .fn h
  | _, _, .scr h => .scr (ht _ .lst _ h)
  | _, _, .lst h r => .lst (ht _ .frz _ h) (RpVs.mono' ht hm r)
  | _, _, .dct h l r => .dct (ht _ (.dct _) _ h) l (RpVs.mono' ht hm r)
theorem RpVs.mono' {H' : Hp} {μ' : List Addr} (ht : ∀ a t xs, Fix K H a t xs → Fix K H' a t xs) (hm : ∀ (n : Nat) (a : Addr), μ[n]? = some a → μ'[n]? = some a) : ∀ {d : List D} {v : List L2.V}, RpVs K ga H μ d v → RpVs K ga H' μ' d v
  | _, _, .nil => .nil
  | _, _, .cons r t => .cons (RpV.mono' ht hm r) (RpVs.mono' ht hm t)
end
theorem Ext.at (x : Ext K H μ H1 μ1) : ∀ (n : Nat) (a : Addr), μ[n]? = some a → μ1[n]? = some a := fun n a e => by
  obtain ⟨l, rfl, _⟩ := x.pre
  rw [List.getElem?_append_left (by rw [List.getElem?_eq_some_iff] at e; exact e.1)]
  exact e
theorem RpV.mono {d : D} {v : L2.V} (r : RpV K ga H μ d v) (x : Ext K H μ H1 μ1) : RpV K ga H1 μ1 d v := RpV.mono' x.tup x.at r
theorem RpVs.mono {d : List D} {v : List L2.V} (r : RpVs K ga H μ d v) (x : Ext K H μ H1 μ1) : RpVs K ga H1 μ1 d v := RpVs.mono' x.tup x.at r
theorem RpS.mono {σd : Sd} {σ : L2.St} (r : RpS K ga H μ σd σ) (x : Ext K H μ H1 μ1) : RpS K ga H1 μ1 σd σ :=
  ⟨r.len, fun i d e => let ⟨v, h1, h2⟩ := r.get i d e; ⟨v, h1, h2.mono x⟩⟩
theorem Ext.refl (K : PySem.W.Frag) (H : Hp) (μ : List Addr) : Ext K H μ H μ := ⟨⟨[], by simp, by simp⟩, fun _ _ h _ => h, fun _ _ _ h => h⟩
theorem RpO.there {a : Addr} {o : O} (h : RpO K ga H μ a o) : ∃ u, H a = some u := by
  cases o with
  | lst xs => obtain ⟨_, h, _⟩ := h; exact ⟨_, h⟩
  | dct xs => obtain ⟨_, h, _⟩ := h; exact ⟨_, h⟩
theorem RpO.nofix {a : Addr} {o : O} {u : HO} (h : RpO K ga H μ a o) (e : H a = some u) : ¬ Fixd u := by
  cases o with
  | lst xs => obtain ⟨_, h, _⟩ := h; rw [h] at e; cases e; exact id
  | dct xs => obtain ⟨_, h, _⟩ := h; rw [h] at e; cases e; exact id
theorem Rp.there (r : Rp K ga b μ E H) {a : Addr} (h : a ∈ μ) : ∃ (n : Nat) (o : O), μ[n]? = some a ∧ E[n]? = some o ∧ RpO K ga H μ a o := by
  obtain ⟨n, hn, e⟩ := List.getElem_of_mem h
  have hn' : n < E.length := by rw [← r.len]; exact hn
  refine ⟨n, E[n], ?_, List.getElem?_eq_getElem hn', r.ob n _ a (List.getElem?_eq_getElem hn') ?_⟩ <;> rw [List.getElem?_eq_getElem hn, e]
theorem Rp.notin (r : Rp K ga b μ E H) {a : Addr} (h : H a = none) : a ∉ μ := fun hm => by
  obtain ⟨_, o, _, _, q⟩ := r.there hm
  obtain ⟨u, e⟩ := q.there
  rw [h] at e; cases e
/-- the tuples' part of Ext follows -/
theorem Ext.of (r : Rp K ga b μ E H) (pre : ∃ l, μ1 = μ ++ l ∧ ∀ a ∈ l, H a = none) (oth : ∀ a o, H a = some o → a ∉ μ → H1 a = some o) : Ext K H μ H1 μ1 := by
  refine ⟨pre, oth, fix_keep fun a u h hu => oth a u h fun hm => ?_⟩
  obtain ⟨_, o, _, _, q⟩ := r.there hm
  exact q.nofix h hu
theorem Ext.trans {b1 : Mk} {E1 : Eh} (x : Ext K H μ H1 μ1) (r1 : Rp K ga b1 μ1 E1 H1) (y : Ext K H1 μ1 H2 μ2) : Ext K H μ H2 μ2 := by
  have z1 := x.pre
  have z2 := y.pre
  obtain ⟨l1, e1, n1⟩ := z1
  obtain ⟨l2, e2, n2⟩ := z2
  refine ⟨⟨l1 ++ l2, by rw [e2, e1, List.append_assoc], fun a ha => ?_⟩, fun a o h hn => ?_, fun a t xs h => y.tup a t xs (x.tup a t xs h)⟩
  · rcases List.mem_append.mp ha with ha | ha
    · exact n1 a ha
    · have h1 := n2 a ha
      cases e : H a with
      | none => rfl
      | some o =>
        by_cases hm : a ∈ μ
        · exact absurd (e1 ▸ List.mem_append_left l1 hm) (r1.notin h1)
        · rw [x.oth a o e hm] at h1; cases h1
  · refine y.oth a o (x.oth a o h hn) fun hm => ?_
    rw [e1] at hm
    rcases List.mem_append.mp hm with hm | hm
    · exact hn hm
    · rw [n1 a hm] at h; cases h
theorem RpO.mono {a : Addr} {o : O} (h : RpO K ga H μ a o) (x : Ext K H μ H1 μ1) (hn : a ∉ μ) : RpO K ga H1 μ1 a o := by
  cases o with
  | lst xs => obtain ⟨ys, h, r⟩ := h; exact ⟨ys, x.oth _ _ h hn, r.mono x⟩
  | dct xs => obtain ⟨ys, h, r⟩ := h; exact ⟨ys, x.oth _ _ h hn, r.mono x⟩
theorem RpR.mono {r : Rv} {v : L2.V} (h : RpR K ga H0 H μ r v) (x : Ext K H μ H1 μ1) : RpR K ga H0 H1 μ1 r v := by
  cases r with
  | val d => exact RpV.mono h x
  | new o =>
    obtain ⟨a, e, q, hn, h0⟩ := h
    refine ⟨a, e, q.mono x hn, fun hm => ?_, h0⟩
    have z := x.pre
    obtain ⟨l, rfl, n⟩ := z
    rcases List.mem_append.mp hm with hm | hm
    · exact hn hm
    · obtain ⟨u, e⟩ := q.there
      rw [n a hm] at e; cases e
/-- seen from an elder heap -/
theorem RpR.elder {r : Rv} {v : L2.V} {b' : Mk} {μ' : List Addr} {E' : Eh} (h : RpR K ga H1 H2 μ2 r v) (x : Ext K H0 μ' H1 μ1) (q1 : Rp K ga b' μ1 E' H1) : RpR K ga H0 H2 μ2 r v := by
  cases r with
  | val d => exact h
  | new o =>
    obtain ⟨a, e, q, hn, h0⟩ := h
    refine ⟨a, e, q, hn, ?_⟩
    cases e0 : H0 a with
    | none => rfl
    | some u =>
      by_cases hm : a ∈ μ'
      · have z := x.pre
        obtain ⟨l, e1, _⟩ := z
        exact absurd (e1 ▸ List.mem_append_left l hm) (q1.notin h0)
      · rw [x.oth a u e0 hm] at h0; cases h0
/-- a thing is noted as an object -/
theorem reg_ok {r : Rv} {v : L2.V} {μ0 : List Addr} (x : Ext K H0 μ0 H μ) (q : Rp K ga b μ E H) (h : RpR K ga H0 H μ r v) :
    ∃ μ', Ext K H0 μ0 H μ' ∧ (∀ (n : Nat) (a : Addr), μ[n]? = some a → μ'[n]? = some a) ∧ Rp K ga b μ' (reg r E).2 H ∧ RpV K ga H μ' (reg r E).1 v := by
  cases r with
  | val d => exact ⟨μ, x, fun _ _ e => e, q, h⟩
  | new o =>
    obtain ⟨a, rfl, ho, hn, h0⟩ := h
    have up : ∀ (n : Nat) (c : Addr), μ[n]? = some c → (μ ++ [a])[n]? = some c := fun n c e => by
      rw [List.getElem?_append_left (by rw [List.getElem?_eq_some_iff] at e; exact e.1)]
      exact e
    have mono : ∀ {ds : List D} {vs : List L2.V}, RpVs K ga H μ ds vs → RpVs K ga H (μ ++ [a]) ds vs := RpVs.mono' (fun _ _ _ h => h) up
    have hoM : ∀ {c : Addr} {o : O}, RpO K ga H μ c o → RpO K ga H (μ ++ [a]) c o := fun {c o} h => by
      cases o with
      | lst xs => obtain ⟨ys, h, r⟩ := h; exact ⟨ys, h, mono r⟩
      | dct xs => obtain ⟨ys, h, r⟩ := h; exact ⟨ys, h, mono r⟩
    refine ⟨μ ++ [a], ⟨?_, x.oth, x.tup⟩, up, ⟨?_, ?_, ?_, ?_, ?_⟩, .ref ?_⟩
    · have z := x.pre
      obtain ⟨l, rfl, n⟩ := z
      refine ⟨l ++ [a], by rw [List.append_assoc], fun c hc => ?_⟩
      rcases List.mem_append.mp hc with hc | hc
      · exact n c hc
      · rw [List.mem_singleton.mp hc]; exact h0
    · show (μ ++ [a]).length = (E ++ [o]).length
      rw [List.length_append, List.length_append, q.len]; rfl
    · exact List.nodup_append.mpr ⟨q.nd, by simp, fun c hc d hd => by rw [List.mem_singleton.mp hd]; intro e; rw [e] at hc; exact hn hc⟩
    · intro n u c eu ec
      have eu : (E ++ [o])[n]? = some u := eu
      by_cases hl : n < E.length
      · rw [List.getElem?_append_left hl] at eu
        rw [List.getElem?_append_left (by rw [q.len]; exact hl)] at ec
        exact hoM (q.ob n u c eu ec)
      · have hl2 : n = E.length := by
          have := (List.getElem?_eq_some_iff.mp eu).1
          rw [List.length_append] at this
          simp at this
          omega
        subst hl2
        rw [List.getElem?_append_right (Nat.le_refl _), Nat.sub_self] at eu
        rw [← q.len, List.getElem?_append_right (Nat.le_refl _), Nat.sub_self] at ec
        obtain rfl : o = u := by simpa using eu
        obtain rfl : a = c := by simpa using ec
        exact hoM ho
    · intro m hm n u hb eu
      have eu : (E ++ [o])[n]? = some u := eu
      rw [List.getElem?_append_left (Nat.lt_of_lt_of_le hb (q.bl m hm))] at eu
      exact q.low m hm n u hb eu
    · intro m hm
      show m ≤ (E ++ [o]).length
      rw [List.length_append]
      exact Nat.le_trans (q.bl m hm) (Nat.le_add_right _ _)
    · show (μ ++ [a])[E.length]? = some a
      rw [← q.len, List.getElem?_append_right (Nat.le_refl _), Nat.sub_self]
      rfl
end
end Ev
end EvRel
section EvMul
namespace Ev
open PySem PySem.Spec PyProof.Rows L2
theorem mul_void (l : Addr) (n : Nat) (dd : Option Addr) (sl : Array (Option Value)) (x : Int) (u : Tok) (c0 : (decide (x < -(2 ^ 63)) || decide (x ≥ 2 ^ 63)) = false) :
    Meets (Builtin.«tuple.__mul__» ⟨[.ref l, .int x u], []⟩) (fun _ R s => s.heap.get? l = some { cls := .type "tuple", dict := dd, data := .seq #[] n, slots := sl } ∧ R (.ok (.ret (Value.ref l))) s) :=
  .of_wp fun prog w A R s h => by
    obtain ⟨hp, g, d, tk, os⟩ := s
    obtain ⟨hl, h⟩ := h
    have f1 := AutoSeq1.idx_int
    wp_walk using wpAny_loadPart' hl
    repeat (first
      | (refine wpAny_ite_false (decide_eq_false (by rw [c0]; exact Bool.false_ne_true)) ?_; wp_walk using wpAny_loadPart' hl)
      | (refine wpAny_ite_true (decide_eq_true (by rfl)) ?_; wp_walk using wpAny_loadPart' hl))
    exact ⟨_, rfl, h⟩
section
variable {X : Cx}
/-- () * k -/
theorem op_rep0 : OpR X (binaryOp .Mult) (fun x y H Q => ∃ l k, x = .ref l ∧ y = .int k ∧ SqT X.K H l [] ∧ 2 ≤ k ∧ k ≤ 1000 ∧ Q (.ref l) H) := by
  intro pins s σ H x y v u Q I rx ry h
  obtain ⟨l, k, rfl, rfl, hT, h1, h2, q⟩ := h
  cases rx
  obtain ⟨t, rfl⟩ := ry
  obtain ⟨its, r, ⟨⟨cls, dd, data, sl⟩, ho, hc, n, hd⟩, _⟩ := I.tuple hT
  cases r
  simp only at hc hd
  subst hc hd
  have c0 : (decide (k < -(2 ^ 63)) || decide (k ≥ 2 ^ 63)) = false := by
    rw [decide_eq_false (by omega), decide_eq_false (by omega)]
    rfl
  have m0 := mul_void l n dd sl k t c0
  refine wpAny_binaryOp_repeat_ref (T := "tuple") (U := "int") (by decide) ⟨_, ho, rfl⟩ (fun s' => typeIs_int s' k t) noFill_tuple_mul F.fills_int_mul F.slot_int_rmul repeat_tuple F.slot_int_index.lookup ?_
  refine call_meets F.slot_int_rmul (typeIs_int s k t) F.entry_int_rmul (F.args_int_rmul_2 _ _) (int_rmul_tuple k t l #[] n dd sl) ⟨ho, rfl, ⟨_, ho, rfl⟩, ?_⟩
  exact call_meets F.slot_tuple_mul ⟨_, ho, rfl⟩ F.entry_tuple_mul (F.args_tuple_mul_2 _ _) m0 ⟨ho, .ref l, H, I, rfl, q⟩
end
end Ev
end EvMul
section EvOps
namespace Ev
open PySem PySem.Spec PyProof.Rows L2

section
variable {K : PySem.W.Frag} {ga : Nat → Option Addr} {H H0 H1 H2 : Hp} {μ μ1 μ2 : List Addr} {b : Mk} {E : Eh} {p : Addr}
/-- what follows an expression -/
def Kn (K : PySem.W.Frag) (ga : Nat → Option Addr) (b : Mk) (H : Hp) (μ : List Addr) (E : Eh) (r : Rv) (Q : VK) : Prop :=
  ∀ v H' μ', Ext K H μ H' μ' → Rp K ga b μ' E H' → RpR K ga H H' μ' r v → Q v H'
theorem fix_fresh {o : HO} (hp : H p = none) : ∀ a t xs, Fix K H a t xs → Fix K (upd H p o) a t xs := fix_keep fun a u h _ => by rw [upd_ne (ne_of_none h hp)]; exact h
theorem RpV.fresh {o : HO} {d : D} {v : L2.V} (hp : H p = none) (h : RpV K ga H μ d v) : RpV K ga (upd H p o) μ d v := RpV.mono' (fix_fresh hp) (fun _ _ e => e) h
theorem RpVs.fresh {o : HO} {d : List D} {v : List L2.V} (hp : H p = none) (h : RpVs K ga H μ d v) : RpVs K ga (upd H p o) μ d v := RpVs.mono' (fix_fresh hp) (fun _ _ e => e) h
theorem RpO.fresh {u : HO} {a : Addr} {o : O} (hp : H p = none) (h : RpO K ga H μ a o) : RpO K ga (upd H p u) μ a o := by
  cases o with
  | lst xs => obtain ⟨ys, h, r⟩ := h; exact ⟨ys, by rw [upd_ne (ne_of_none h hp)]; exact h, r.fresh hp⟩
  | dct xs => obtain ⟨ys, h, r⟩ := h; exact ⟨ys, by rw [upd_ne (ne_of_none h hp)]; exact h, r.fresh hp⟩
theorem Rp.fresh {u : HO} (q : Rp K ga b μ E H) (hp : H p = none) : Rp K ga b μ E (upd H p u) := ⟨q.len, q.nd, fun n o a e1 e2 => (q.ob n o a e1 e2).fresh hp, q.low, q.bl⟩
theorem Ext.fresh {u : HO} (q : Rp K ga b μ E H) (hp : H p = none) : Ext K H μ (upd H p u) μ :=
  Ext.of q ⟨[], by simp, by simp⟩ fun a o h _ => by rw [upd_ne (ne_of_none h hp)]; exact h
theorem Kn.val {d : D} {v : L2.V} {Q : VK} (k : Kn K ga b H μ E (.val d) Q) (q : Rp K ga b μ E H) (h : RpV K ga H μ d v) : Q v H := k v H μ (Ext.refl _ _ _) q h
theorem Kn.tup {ds : List D} {xs : List L2.V} {Q : VK} (k : Kn K ga b H μ E (.val (.tup ds)) Q) (q : Rp K ga b μ E H) (h : RpVs K ga H μ ds xs) (hp : H p = none) : Q (.ref p) (upd H p (.tup xs)) :=
  k _ _ μ (Ext.fresh q hp) (q.fresh hp) (RpV.tup (SqT.of upd_same) (h.fresh hp))
theorem Kn.lst {ds : List D} {xs : List L2.V} {Q : VK} (k : Kn K ga b H μ E (.new (.lst ds)) Q) (q : Rp K ga b μ E H) (h : RpVs K ga H μ ds xs) (hp : H p = none) : Q (.ref p) (upd H p (.lst xs)) :=
  k _ _ μ (Ext.fresh q hp) (q.fresh hp) ⟨p, rfl, ⟨xs, upd_same, h.fresh hp⟩, q.notin hp, hp⟩
/-- a list that is read -/
theorem asL_ok {r : Rv} {v : L2.V} {ds : List D} (q : Rp K ga b μ E H) (h : RpR K ga H0 H μ r v) (e : asL E r = some ds) : ∃ a xs, v = .ref a ∧ Rd H a (.lst xs) ∧ RpVs K ga H μ ds xs := by
  cases r with
  | val d => cases d with
    | ref n =>
      cases h with
      | ref hm =>
        have e : (match E[n]? with | some (.lst xs) => some xs | _ => none) = some ds := e
        split at e
        · rename_i ys en
          cases e
          obtain ⟨xs, hx, r⟩ := q.ob n _ _ en hm
          exact ⟨_, xs, rfl, .inl hx, r⟩
        · cases e
    | lst es =>
      cases e
      cases h with
      | lst hz r => exact ⟨_, _, rfl, .inr hz, r⟩
    | _ => cases e
  | new o => cases o with
    | lst ys =>
      cases e
      obtain ⟨a, rfl, ⟨xs, hx, r⟩, _⟩ := h
      exact ⟨a, xs, rfl, .inl hx, r⟩
    | _ => cases e
theorem rp_ints : ∀ ns : List Int, RpVs K ga H μ (ns.map D.int) (ns.map V.int)
  | [] => .nil
  | _ :: r => .cons (.int _) (rp_ints r)
/-- a list or tuple that is read -/
theorem asS_ok {r : Rv} {v : L2.V} {ds : List D} {n : Option Nat} (q : Rp K ga b μ E H) (h : RpR K ga H0 H μ r v) (e : asS E r = some (ds, n)) : ∃ a xs, v = .ref a ∧ RpVs K ga H μ ds xs ∧ ((SqL K H a xs ∧ ∀ es, r ≠ .val (.tup es)) ∨ (SqT K H a xs ∧ r = .val (.tup ds))) := by
  cases r with
  | val d => cases d with
    | ref m =>
      cases h with
      | ref hm =>
        have e : (match E[m]? with | some (.lst xs) => some (xs, some m) | _ => none) = some (ds, n) := e
        split at e
        · rename_i ys en
          cases e
          obtain ⟨xs, hx, r⟩ := q.ob m _ _ en hm
          exact ⟨_, xs, rfl, r, .inl ⟨SqL.of hx, fun _ z => by cases z⟩⟩
        · cases e
    | tup es =>
      cases e
      cases h with
      | tup hs r => exact ⟨_, _, rfl, r, .inr ⟨hs, rfl⟩⟩
    | scr ns =>
      cases e
      cases h with
      | scr hz => exact ⟨_, _, rfl, rp_ints ns, .inl ⟨hz.sq, fun _ z => by cases z⟩⟩
    | lst es =>
      cases e
      cases h with
      | lst hz r => exact ⟨_, _, rfl, r, .inl ⟨.inl (.inr hz), fun _ z => by cases z⟩⟩
    | _ => cases e
  | new o => cases o with
    | lst ys =>
      cases e
      obtain ⟨a, rfl, ⟨xs, hx, r⟩, _⟩ := h
      exact ⟨a, xs, rfl, r, .inl ⟨SqL.of hx, fun _ z => by cases z⟩⟩
    | _ => cases e
theorem asS_or {r : Rv} {v : L2.V} {ds : List D} {n : Option Nat} (q : Rp K ga b μ E H) (h : RpR K ga H0 H μ r v) (e : asS E r = some (ds, n)) : ∃ a xs, v = .ref a ∧ RpVs K ga H μ ds xs ∧ (SqL K H a xs ∨ SqT K H a xs) := by
  obtain ⟨a, xs, e1, e2, e3⟩ := asS_ok q h e
  exact ⟨a, xs, e1, e2, e3.imp (·.1) (·.1)⟩
/-- an object is changed -/
theorem Rp.mut {n : Nat} {a : Addr} {o o' : O} {u : HO} (q : Rp K ga b μ E H) (e1 : E[n]? = some o) (e2 : μ[n]? = some a) (h : RpO K ga (upd H a u) μ a o') (hl : ∀ m ∈ b.all, n < m → o'.low m = true) :
    Rp K ga b μ (E.set n o') (upd H a u) ∧ Ext K H μ (upd H a u) μ := by
  have ho := q.ob n o a e1 e2
  have hn : n < E.length := (List.getElem?_eq_some_iff.mp e1).1
  have hsq : ∀ c t xs, Fix K H c t xs → Fix K (upd H a u) c t xs := fix_keep fun c w h hw => by
    have hc : c ≠ a := fun z => by
      rw [z] at h
      exact ho.nofix h hw
    rw [upd_ne hc]
    exact h
  have hv : ∀ {ds : List D} {vs : List L2.V}, RpVs K ga H μ ds vs → RpVs K ga (upd H a u) μ ds vs := fun h => RpVs.mono' hsq (fun _ _ e => e) h
  refine ⟨⟨by rw [List.length_set]; exact q.len, q.nd, fun m w c f1 f2 => ?_, fun mk hk m w hb f1 => ?_, by rw [List.length_set]; exact q.bl⟩, ⟨⟨[], by simp, by simp⟩, fun c w hc hm => ?_, hsq⟩⟩
  · by_cases hm : n = m
    · subst hm
      rw [List.getElem?_set_self hn] at f1
      cases f1
      rw [e2] at f2
      cases f2
      exact h
    · rw [List.getElem?_set_ne hm] at f1
      have hc : c ≠ a := fun z => by
        subst z
        have h1 := List.getElem?_eq_some_iff.mp e2
        have h2 := List.getElem?_eq_some_iff.mp f2
        obtain ⟨l1, g1⟩ := h1
        obtain ⟨l2, g2⟩ := h2
        have nd := List.pairwise_iff_getElem.mp q.nd
        rcases Nat.lt_or_gt_of_ne hm with hlt | hlt
        · exact nd _ _ l1 l2 hlt (g1.trans g2.symm)
        · exact nd _ _ l2 l1 hlt (g2.trans g1.symm)
      have := q.ob m w c f1 f2
      cases w with
      | lst xs => obtain ⟨ys, h, r⟩ := this; exact ⟨ys, by rw [upd_ne hc]; exact h, hv r⟩
      | dct xs => obtain ⟨ys, h, r⟩ := this; exact ⟨ys, by rw [upd_ne hc]; exact h, hv r⟩
  · by_cases hm : n = m
    · subst hm
      rw [List.getElem?_set_self hn] at f1
      cases f1
      exact hl mk hk hb
    · rw [List.getElem?_set_ne hm] at f1
      exact q.low mk hk m w hb f1
  · rw [upd_ne fun z => hm (by rw [z]; exact List.mem_of_getElem? e2)]
    exact hc
end

section
variable {X : Cx} {ga : Nat → Option Addr} {b : Mk}
/-- a list and a list -/
def rCatR : R2 := fun x y H Q => ∃ l b xs zs, x = .ref l ∧ y = .ref b ∧ Rd H l (.lst xs) ∧ Rd H b (.lst zs) ∧ xs.length + zs.length ≤ sizeLine ∧ ∀ p, H p = none → Q (.ref p) (upd H p (.lst (xs ++ zs)))
theorem op_catR : OpR X (binaryOp .Add) rCatR := by
  intro pins s σ H x y v u Q I rx ry h
  obtain ⟨l, b, xs, zs, rfl, rfl, h1, h2, hz, q⟩ := h
  cases rx
  cases ry
  obtain ⟨_, as, n, ra, ea⟩ := h1.ok I.hok
  obtain ⟨_, bs, m, rb, eb⟩ := h2.ok I.hok
  have la := ra.length
  have lb := rb.length
  refine PySem.P.add_list ea eb ?_ (by simp only [List.size_toArray]; omega)
  rw [show as.toArray ++ bs.toArray = (as ++ bs).toArray by simp]
  exact ⟨.ref _, _, I.lnew (t' := s.toks) (ra.append rb) (by simp only [List.length_append]; omega), rfl, q _ I.fresh⟩
/-- two things and an operation on them -/
def rTwo (K : PySem.W.Frag) (ga : Nat → Option Addr) (b : Mk) (f : Eh → Rv → Rv → Option Rv) : R2 := fun x y H Q =>
  ∃ H0 H1 μ E r1 r2 r, Rp K ga b μ E H ∧ RpR K ga H0 H μ r1 x ∧ RpR K ga H1 H μ r2 y ∧ f E r1 r2 = some r ∧ Kn K ga b H μ E r Q
theorem binop_ok (op : Operator) : OpR X (binaryOp op) (rTwo X.K ga b fun E => binop E op) := by
  intro pins s σ H x y v u Q I rx ry h
  obtain ⟨H0, H1, μ, E, r1, r2, r, q, h1, h2, e0, k⟩ := h
  have e : binop E op r1 r2 = some r := e0
  clear e0
  have lists : op = .Add → (match asL E r1, asL E r2 with
    | some xs, some ys => if xs.length + ys.length ≤ sizeLine then some (Rv.new (.lst (xs ++ ys))) else none
    | _, _ => none) = some r → wpAny (model X.prog X.w) X.A (binaryOp op v u) (EP X pins σ Q) X.xe s := by
    intro ho f
    subst ho
    clear e
    split at f
    · rename_i ds es e1 e2
      split at f
      · rename_i hz
        cases f
        obtain ⟨a, xs, rfl, ha, ra⟩ := asL_ok q h1 e1
        obtain ⟨c, ys, rfl, hc, rc⟩ := asL_ok q h2 e2
        exact op_catR pins s σ H _ _ v u Q I rx ry ⟨a, c, xs, ys, rfl, rfl, ha, hc, by rw [← ra.length, ← rc.length]; exact hz, fun p hp => k.lst q (ra.append rc) hp⟩
      · cases f
    · cases f
  unfold binop at e
  split at e
  · cases e; cases h1; cases h2
    exact op_add pins s σ H _ _ v u Q I rx ry ⟨_, _, rfl, rfl, k.val q (.int _)⟩
  · split at e
    · cases e; cases h1; cases h2
      exact op_add_str pins s σ H _ _ v u Q I rx ry ⟨_, _, rfl, rfl, by assumption, k.val q (.str _)⟩
    · cases e
  · rename_i xs ys
    split at e
    · rename_i hz
      cases e
      cases h1 with
      | tup ha ra => cases h2 with
        | tup hc rc =>
          refine op_catA pins s σ H _ _ v u Q I rx ry ⟨_, _, _, _, rfl, rfl, ha, hc, by rw [← ra.length, ← rc.length]; exact hz, fun e0 => ?_, fun e1 e2 => ?_, fun e1 e2 p hp => k.tup q (ra.append rc) hp⟩
          · subst e0
            cases ra
            exact k.val q (.tup hc rc)
          · subst e2
            cases rc
            rw [List.append_nil] at k
            exact k.val q (.tup ha ra)
    · cases e
  · exact lists rfl e
  · cases e; cases h1; cases h2
    exact op_sub pins s σ H _ _ v u Q I rx ry ⟨_, _, rfl, rfl, k.val q (.int _)⟩
  · split at e
    · rename_i hz
      cases e; cases h1; cases h2
      exact op_mul pins s σ H _ _ v u Q I rx ry ⟨_, _, rfl, rfl, .inl (by have := hz; unfold big at this; exact this), k.val q (.int _)⟩
    · cases e
  · rename_i xs j
    split at e
    · rename_i hz
      obtain ⟨z2, z3, z4⟩ := hz
      cases e
      cases h1 with
      | tup ha ra =>
        cases h2
        by_cases hx : xs = []
        · subst hx
          cases ra
          have e0 : (List.replicate j.toNat ([] : List D)).flatten = [] := by simp
          rw [e0] at k
          exact op_rep0 pins s σ H _ _ v u Q I rx ry ⟨_, _, rfl, rfl, ha, z2, z3, k.val q (.tup ha .nil)⟩
        refine op_repT pins s σ H _ _ v u Q I rx ry ⟨_, _, _, rfl, rfl, ha, fun z => ?_, z2, z3, by rw [← ra.length]; exact z4, fun p hp => k.tup q ?_ hp⟩
        · subst z
          cases ra
          exact hx rfl
        · have rep : ∀ n : Nat, RpVs X.K ga H μ (List.replicate n xs).flatten (List.replicate n _).flatten := fun n => by
            induction n with
            | zero => exact .nil
            | succ n ih => rw [List.replicate_succ, List.replicate_succ, List.flatten_cons, List.flatten_cons]; exact ra.append ih
          exact rep _
    · cases e
  · rename_i xs j
    split at e
    · rename_i hz
      obtain ⟨z2, z3, z4⟩ := hz
      cases e
      obtain ⟨a, rfl, ⟨ys, hy, ry'⟩, _⟩ := h1
      cases h2
      have hm : xs.length * j.toNat ≤ 1000 * 1000 := Nat.mul_le_mul z4 (by omega)
      have rep : ∀ n : Nat, RpVs X.K ga H μ (List.replicate n xs).flatten (List.replicate n ys).flatten := fun n => by
        induction n with
        | zero => exact .nil
        | succ n ih => rw [List.replicate_succ, List.replicate_succ, List.flatten_cons, List.flatten_cons]; exact ry'.append ih
      exact op_rep pins s σ H _ _ v u Q I rx ry ⟨a, j, ys, rfl, rfl, hy, by omega, by omega, by rw [← ry'.length, sizeLine_eq]; omega, fun p hp => k.lst q (rep _) hp⟩
    · cases e
  · split at e
    · cases e; cases h1; cases h2
      exact op_fdivN pins s σ H _ _ v u Q I rx ry ⟨_, _, rfl, rfl, by assumption, k.val q (.int _)⟩
    · cases e
  · split at e
    · cases e; cases h1; cases h2
      exact op_modN pins s σ H _ _ v u Q I rx ry ⟨_, _, rfl, rfl, by assumption, k.val q (.int _)⟩
    · cases e
  · split at e
    · rename_i hz
      obtain ⟨z1, z2, z3⟩ := hz
      cases e; cases h1; cases h2
      exact op_pow pins s σ H _ _ v u Q I rx ry ⟨_, _, rfl, rfl, ⟨z1, Int.le_trans z2 (by decide), z3⟩, k.val q (.int _)⟩
    · cases e
  · cases e
end
end Ev
end EvOps
section EvOps2
namespace Ev
open PySem PySem.Spec PyProof.Rows L2

section
variable {K : PySem.W.Frag} {ga : Nat → Option Addr} {H H0 H1 H2 : Hp} {μ μ1 μ2 : List Addr} {b : Mk} {E : Eh} {p : Addr}
theorem mapM_dp {f : D → Option PyData} (hf : ∀ d v p, RpV K ga H μ d v → f d = some p → Dp K H v p) : ∀ {ds : List D} {vs : List L2.V} {ps : List PyData}, RpVs K ga H μ ds vs → ds.mapM f = some ps → DpAll K H vs ps
  | _, _, _, .nil, e => by
    rw [List.mapM_nil] at e
    cases e
    exact .nil
  | _, _, _, .cons r t, e => by
    rw [List.mapM_cons] at e
    obtain ⟨p, e1, e⟩ := Option.bind_eq_some_iff.mp e
    obtain ⟨ps, e2, e⟩ := Option.bind_eq_some_iff.mp e
    cases e
    exact .cons (hf _ _ _ r e1) (mapM_dp hf t e2)
theorem ints_dp : ∀ ns : List Int, DpAll K H (ns.map V.int) (ns.map PyData.int)
  | [] => .nil
  | _ :: r => .cons (.int _) (ints_dp r)
theorem toP_dp (q : Rp K ga b μ E H) : ∀ (k : Nat) (d : D) (v : L2.V) (p : PyData), RpV K ga H μ d v → toP E k d = some p → Dp K H v p
  | 0, _, _, _, _, e => by cases e
  | k + 1, d, v, p, h, e => by
    cases h with
    | non => cases e; exact .non
    | bl c => cases e; exact .bl c
    | int i => cases e; exact .int i
    | str x => cases e; exact .str x
    | fn _ => cases e
    | scr hz => cases e; exact .lst hz.sq (ints_dp _)
    | dct _ _ _ => cases e
    | lst hz r =>
      rename_i ds a xs
      have e : (ds.mapM (toP E k)).map PyData.list = some p := e
      obtain ⟨ps, e1, rfl⟩ := Option.map_eq_some_iff.mp e
      exact .lst (.inl (.inr hz)) (mapM_dp (toP_dp q k) r e1)
    | tup hs r =>
      rename_i ds a xs
      have e : (ds.mapM (toP E k)).map PyData.tuple = some p := e
      obtain ⟨ps, e1, rfl⟩ := Option.map_eq_some_iff.mp e
      exact .tup hs (mapM_dp (toP_dp q k) r e1)
    | ref hm =>
      rename_i n a
      have e : (match E[n]? with | some (.lst xs) => (xs.mapM (toP E k)).map PyData.list | _ => none) = some p := e
      split at e
      · rename_i xs en
        obtain ⟨ps, e1, rfl⟩ := Option.map_eq_some_iff.mp e
        obtain ⟨ys, hx, r⟩ := q.ob n _ _ en hm
        exact .lst (SqL.of hx) (mapM_dp (toP_dp q k) r e1)
      · cases e
theorem toPr_dp (q : Rp K ga b μ E H) {r : Rv} {v : L2.V} {p : PyData} (h : RpR K ga H0 H μ r v) (e : toPr E r = some p) : Dp K H v p := by
  cases r with
  | val d => exact toP_dp q 80 d v p h e
  | new o => cases o with
    | lst xs =>
      have e : (xs.mapM (toP E 80)).map PyData.list = some p := e
      obtain ⟨ps, e1, rfl⟩ := Option.map_eq_some_iff.mp e
      obtain ⟨a, rfl, ⟨ys, hx, r⟩, _⟩ := h
      exact .lst (SqL.of hx) (mapM_dp (toP_dp q 80) r e1)
    | dct _ => cases e
theorem flat_ok {d : D} {v : L2.V} (h : RpV K ga H μ d v) (f : d.flat = true) : flatV v = true := by
  cases h <;> first | rfl | cases f
theorem flats_ok : ∀ {ds : List D} {vs : List L2.V}, RpVs K ga H μ ds vs → ds.all D.flat = true → vs.all flatV = true
  | _, _, .nil, _ => rfl
  | _, _, .cons r t, f => by
    rw [List.all_cons, Bool.and_eq_true] at f ⊢
    exact ⟨flat_ok r f.1, flats_ok t f.2⟩
theorem eqf_ok {d e : D} {v u : L2.V} (h : RpV K ga H μ d v) (h' : RpV K ga H μ e u) : eqV v u = D.eqf d e := by
  cases h <;> cases h' <;> first | rfl | (simp only [eqV, D.eqf]; rfl) | (simp only [eqV, D.eqf, beq_eq_decide])
theorem any_ok {x : D} {v : L2.V} (h : RpV K ga H μ x v) : ∀ {ds : List D} {vs : List L2.V}, RpVs K ga H μ ds vs → inV v vs = ds.any fun y => D.eqf y x
  | _, _, .nil => rfl
  | _, _, .cons r t => by
    have := any_ok h t
    unfold inV at this ⊢
    rw [List.any_cons, List.any_cons, this, eqf_ok r h]
theorem non_ok {d : D} {v : L2.V} (h : RpV K ga H μ d v) : decide (v = .non) = decide (d = .non) := by
  cases h <;> first | rfl | (rw [decide_eq_false (by intro e; cases e), decide_eq_false (by intro e; cases e)])
theorem at_ok {ds : List D} {vs : List L2.V} {i : Int} {d : D} (r : RpVs K ga H μ ds vs) (e : atI ds i = some d) : ∃ v, atI vs i = some v ∧ RpV K ga H μ d v := by
  unfold atI at e ⊢
  obtain ⟨j, e1, e2⟩ := Option.bind_eq_some_iff.mp e
  obtain ⟨v, e3, rv⟩ := r.get e2
  exact ⟨v, Option.bind_eq_some_iff.mpr ⟨j, by rw [← r.length]; exact e1, e3⟩, rv⟩
theorem look_ok {k : Key} : ∀ {kvs : List (Key × D)} {xs : List L2.V} {d : D}, RpVs K ga H μ (kvs.map (·.2)) xs → look kvs k = some d → ∃ v, valV ((kvs.map (·.1)).zip xs) k = some v ∧ RpV K ga H μ d v
  | [], _, _, _, e => by cases e
  | (k', d') :: r, _, d, .cons (v := v) rv t, e => by
    unfold look at e
    by_cases hk : k' = k
    · rw [if_pos hk] at e
      cases e
      refine ⟨v, ?_, rv⟩
      unfold valV
      simp [hk]
    · rw [if_neg hk] at e
      obtain ⟨w, hw, rw'⟩ := look_ok t e
      refine ⟨w, ?_, rw'⟩
      unfold valV at hw ⊢
      simpa [hk] using hw
theorem look_none {k : Key} : ∀ {kvs : List (Key × D)} {xs : List L2.V}, kvs.length = xs.length → look kvs k = none → valV ((kvs.map (·.1)).zip xs) k = none
  | [], _, _, _ => by simp [valV]
  | (k', d') :: r, [], h, _ => by simp at h
  | (k', d') :: r, v :: xs, h, e => by
    unfold look at e
    by_cases hk : k' = k
    · rw [if_pos hk] at e; cases e
    · rw [if_neg hk] at e
      have := look_none (by simpa using h) e
      unfold valV at this ⊢
      simpa [hk] using this
theorem key_ok {d : D} {v : L2.V} {k : Key} (h : RpV K ga H μ d v) (e : d.keyOf = some k) : v = kV k := by
  cases h <;> first | (cases e; rfl) | cases e
theorem zip_fst {α β : Type} : ∀ {ks : List α} {vs : List β}, ks.length = vs.length → (ks.zip vs).map (·.1) = ks
  | [], _, _ => by simp
  | k :: ks, [], h => by simp at h
  | k :: ks, v :: vs, h => by simp only [List.zip_cons_cons, List.map_cons, zip_fst (show ks.length = vs.length by simpa using h)]
theorem zip_snd {α β : Type} : ∀ {ks : List α} {vs : List β}, ks.length = vs.length → (ks.zip vs).map (·.2) = vs
  | [], [], _ => by simp
  | [], v :: vs, h => by simp at h
  | k :: ks, [], h => by simp at h
  | k :: ks, v :: vs, h => by simp only [List.zip_cons_cons, List.map_cons, zip_snd (show ks.length = vs.length by simpa using h)]
theorem dget_k {a : Addr} {kvs : List (Key × V)} {k : Key} (e : Rd H a (.dK kvs)) : DGet H a (kV k) (valV kvs k) := .inl ⟨kvs, k, e, rfl, rfl⟩
theorem asK_ok {r : Rv} {v : L2.V} {kvs : List (Key × D)} (q : Rp K ga b μ E H) (h : RpR K ga H0 H μ r v) (e : asK E r = some kvs) : ∃ a xs, v = .ref a ∧ Rd H a (.dK ((kvs.map (·.1)).zip xs)) ∧ RpVs K ga H μ (kvs.map (·.2)) xs := by
  cases r with
  | val d => cases d with
    | ref n =>
      cases h with
      | ref hm =>
        have e : (match E[n]? with | some (.dct kvs) => some kvs | _ => none) = some kvs := e
        split at e
        · rename_i ys en
          cases e
          obtain ⟨xs, hx, r⟩ := q.ob n _ _ en hm
          exact ⟨_, xs, rfl, .inl hx, r⟩
        · cases e
    | dct ks vs =>
      cases e
      cases h with
      | dct hz hl r =>
        rw [zip_fst hl, zip_snd hl]
        exact ⟨_, _, rfl, .inr hz, r⟩
    | _ => cases e
  | new o => cases o with
    | dct ys =>
      cases e
      obtain ⟨a, rfl, ⟨xs, hx, r⟩, _⟩ := h
      exact ⟨a, xs, rfl, .inl hx, r⟩
    | _ => cases e
end

section
variable {X : Cx} {ga : Nat → Option Addr} {b : Mk}
theorem eq_any (neg : Bool) (hu : X.A.units + 64 < cLine) : OpR X (compareOp (if neg then .NotEq else .Eq)) (rTwo X.K ga b fun E x y => (eqRv E x y).map fun c => .val (.bl (if neg then !c else c))) := by
  intro pins s σ H x y v u Q I rx ry h
  obtain ⟨H0, H1, μ, E, r1, r2, r, q, h1, h2, e0, k⟩ := h
  obtain ⟨c, e, rfl⟩ := Option.map_eq_some_iff.mp e0
  clear e0
  have fin : Q (.bl (if neg then !c else c)) H := k.val q (.bl _)
  unfold eqRv at e
  split at e
  · cases e; cases h1; cases h2
    rename_i a c
    have hd : decide (V.str a = V.str c) = decide (a = c) := by
      by_cases z : a = c
      · subst z; simp
      · rw [decide_eq_false z, decide_eq_false (by intro w; cases w; exact z rfl)]
    cases neg
    · exact op_eq pins s σ H _ _ v u Q I rx ry ⟨rfl, by rw [hd]; exact fin⟩
    · exact op_ne pins s σ H _ _ v u Q I rx ry ⟨rfl, by rw [hd]; exact fin⟩
  · cases e; cases h1; cases h2
    rename_i a c
    have hd : decide (V.int a = V.int c) = decide (a = c) := by
      by_cases z : a = c
      · subst z; simp
      · rw [decide_eq_false z, decide_eq_false (by intro w; cases w; exact z rfl)]
    cases neg
    · exact op_eq pins s σ H _ _ v u Q I rx ry ⟨rfl, by rw [hd]; exact fin⟩
    · exact op_ne pins s σ H _ _ v u Q I rx ry ⟨rfl, by rw [hd]; exact fin⟩
  · split at e
    · rename_i d1 d2 e1 e2
      split at e
      · rename_i hs
        rw [Bool.and_eq_true] at hs
        cases e
        cases neg
        · exact op_eqD hu pins s σ H _ _ v u Q I rx ry ⟨d1, d2, toPr_dp q h1 e1, toPr_dp q h2 e2, hs.1, hs.2, fin⟩
        · exact op_neD hu pins s σ H _ _ v u Q I rx ry ⟨d1, d2, toPr_dp q h1 e1, toPr_dp q h2 e2, hs.1, hs.2, fin⟩
      · cases e
    · cases e
theorem in_any (neg : Bool) (hu : X.A.units + 1 < cLine) : OpR X (compareOp (if neg then .NotIn else .In)) (rTwo X.K ga b fun E x y => (inRv E x y).map fun c => .val (.bl (if neg then !c else c))) := by
  intro pins s σ H x y v u Q I rx ry h
  obtain ⟨H0, H1, μ, E, r1, r2, r, q, h1, h2, e0, k⟩ := h
  obtain ⟨c, e, rfl⟩ := Option.map_eq_some_iff.mp e0
  clear e0
  have fin : Q (.bl (if neg then !c else c)) H := k.val q (.bl _)
  unfold inRv at e
  split at e
  · rename_i d
    split at e
    · rename_i ds n es
      split at e
      · rename_i hf
        rw [Bool.and_eq_true] at hf
        cases e
        obtain ⟨a, xs, rfl, r, hs⟩ := asS_or q h2 es
        rw [← any_ok h1 r] at fin
        cases neg
        · exact op_in_seq pins s σ H _ _ v u Q I rx ry ⟨a, xs, rfl, hs, flat_ok h1 hf.1, flats_ok r hf.2, fin⟩
        · exact op_notIn_seq pins s σ H _ _ v u Q I rx ry ⟨a, xs, rfl, hs, flat_ok h1 hf.1, flats_ok r hf.2, fin⟩
      · cases e
    · split at e
      · rename_i kvs k' ek ek'
        cases e
        obtain ⟨a, xs, rfl, hx, r⟩ := asK_ok q h2 ek
        have hy := key_ok h1 ek'
        subst hy
        have hg : DGet H a (kV k') (valV ((kvs.map (·.1)).zip xs) k') := dget_k hx
        have hs : (valV ((kvs.map (·.1)).zip xs) k').isSome = (look kvs k').isSome := by
          cases hl : look kvs k' with
          | none => rw [look_none (by rw [← r.length, List.length_map]) hl]; rfl
          | some d => obtain ⟨w, hw, _⟩ := look_ok r hl; rw [hw]; rfl
        rw [← hs] at fin
        cases ry
        cases neg
        · exact d_in hu I hg rx fun s3 I3 => ⟨.bl _, H, I3, rfl, fin⟩
        · exact d_notIn hu I hg rx fun s3 I3 => ⟨.bl _, H, I3, rfl, fin⟩
      · cases e
  · cases e
theorem cmpop_ok {kr : Nat} (hr : Room kr X.A) (op : CmpOp) : OpR X (compareOp op) (rTwo X.K ga b fun E x y => (cmpop E op x y).map fun c => .val (.bl c)) := by
  cases op with
  | Eq => exact eq_any (ga := ga) (b := b) false hr.units
  | NotEq =>
    intro pins s σ H x y v u Q I rx ry h
    obtain ⟨H0, H1, μ, E, r1, r2, r, q, h1, h2, e, k⟩ := h
    refine eq_any (ga := ga) (b := b) true hr.units pins s σ H x y v u Q I rx ry ⟨H0, H1, μ, E, r1, r2, r, q, h1, h2, ?_, k⟩
    have e : ((eqRv E r1 r2).map (!·)).map (fun c => Rv.val (.bl c)) = some r := e
    rw [Option.map_map] at e
    exact e
  | In => exact in_any (ga := ga) (b := b) false (hu_of hr)
  | NotIn =>
    intro pins s σ H x y v u Q I rx ry h
    obtain ⟨H0, H1, μ, E, r1, r2, r, q, h1, h2, e, k⟩ := h
    refine in_any (ga := ga) (b := b) true (hu_of hr) pins s σ H x y v u Q I rx ry ⟨H0, H1, μ, E, r1, r2, r, q, h1, h2, ?_, k⟩
    have e : ((inRv E r1 r2).map (!·)).map (fun c => Rv.val (.bl c)) = some r := e
    rw [Option.map_map] at e
    exact e
  | _ =>
    intro pins s σ H x y v u Q I rx ry h
    obtain ⟨H0, H1, μ, E, r1, r2, r, q, h1, h2, e0, k⟩ := h
    obtain ⟨c, e, rfl⟩ := Option.map_eq_some_iff.mp e0
    clear e0
    have fin : Q (.bl c) H := k.val q (.bl _)
    simp only [cmpop] at e
    first
    | (split at e
       · cases e; cases h1; cases h2; exact op_lt pins s σ H _ _ v u Q I rx ry ⟨_, _, rfl, rfl, fin⟩
       · cases e; cases h1; cases h2; exact op_lt_str pins s σ H _ _ v u Q I rx ry ⟨_, _, rfl, rfl, fin⟩
       · cases e)
    | (split at e
       · cases e; cases h1; cases h2; exact op_le pins s σ H _ _ v u Q I rx ry ⟨_, _, rfl, rfl, fin⟩
       · cases e)
    | (split at e
       · cases e; cases h1; cases h2; exact op_gt pins s σ H _ _ v u Q I rx ry ⟨_, _, rfl, rfl, fin⟩
       · cases e)
    | (split at e
       · cases e; cases h1; cases h2; exact op_ge pins s σ H _ _ v u Q I rx ry ⟨_, _, rfl, rfl, fin⟩
       · cases e)
    | (split at e
       · cases e; cases h2; rw [← non_ok h1] at fin; exact op_isN pins s σ H _ _ v u Q I rx ry ⟨rfl, fin⟩
       · cases e)
    | (split at e
       · cases e; cases h2; rw [← non_ok h1] at fin; exact op_notN pins s σ H _ _ v u Q I rx ry ⟨rfl, fin⟩
       · cases e)
end
end Ev
end EvOps2
section EvOps3
namespace Ev
open PySem PySem.Spec PyProof.Rows L2

section
variable {X : Cx} {ga : Nat → Option Addr} {b : Mk}
theorem ix_dict (hu : X.A.units + 1 < cLine) : IxR X (fun x y H Q => ∃ a v, x = .ref a ∧ DGet H a y (some v) ∧ Q v H) := by
  intro value slice pins s σ H x y v u Q I rx ry h hs
  obtain ⟨a, w, rfl, g, q⟩ := h
  cases rx
  exact tail_any (dict_typeIs I g) PySem.F.slot_dict_getitem.lookup (d_getItem hu I g ry fun w' s3 I3 rw' => ⟨w, H, I3, rw', q⟩) hs
theorem idxop_ok {kr : Nat} (hr : Room kr X.A) : IxR X (rTwo X.K ga b fun E x y => (idxop E x y).map .val) := by
  intro value slice pins s σ H x y v u Q I rx ry h hs
  obtain ⟨H0, H1, μ, E, r1, r2, r, q, h1, h2, e0, k⟩ := h
  obtain ⟨d, e, rfl⟩ := Option.map_eq_some_iff.mp e0
  clear e0
  unfold idxop at e
  split at e
  · rename_i di
    split at e
    · rename_i ds n i es
      obtain ⟨a, xs, rfl, rs, hq⟩ := asS_or q h1 es
      cases h2
      obtain ⟨w, hw, rw'⟩ := at_ok rs e
      rcases hq with hq | hq
      · exact ix_list value slice pins s σ H _ _ v u Q I rx ry ⟨a, xs, _, w, rfl, rfl, hq, hw, k.val q rw'⟩ hs
      · exact ix_tup value slice pins s σ H _ _ v u Q I rx ry ⟨a, xs, _, w, rfl, rfl, hq, hw, k.val q rw'⟩ hs
    · split at e
      · split at e
        · rename_i hz
          obtain ⟨c, ec, rfl⟩ := Option.map_eq_some_iff.mp e
          cases h1
          cases h2
          exact ix_str value slice pins s σ H _ _ v u Q I rx ry ⟨_, _, c, rfl, rfl, hz, ec, k.val q (.str _)⟩ hs
        · cases e
      · split at e
        · rename_i kvs k' ek ek'
          obtain ⟨a, xs, rfl, hx, rs⟩ := asK_ok q h1 ek
          have hy := key_ok h2 ek'
          subst hy
          obtain ⟨w, hw, rw'⟩ := look_ok rs e
          refine ix_dict (hu_of hr) value slice pins s σ H _ _ v u Q I rx ry ⟨a, w, rfl, ?_, k.val q rw'⟩ hs
          rw [← hw]
          exact dget_k hx
        · cases e
  · cases e
theorem cut_ok {K : PySem.W.Frag} {H : Hp} {μ : List Addr} {ds : List D} {xs : List L2.V} (r : RpVs K ga H μ ds xs) (lo hi : Option Int) : RpVs K ga H μ (cut ds lo hi) (cutV xs lo hi) := by
  unfold cut cutV
  rw [r.length]
  exact (r.drop _).take _
def rSl (K : PySem.W.Frag) (ga : Nat → Option Addr) (b : Mk) : V → Option Int → Option Int → Hp → VK → Prop := fun x lo hi H Q =>
  ∃ H0 μ E r1 r, Rp K ga b μ E H ∧ RpR K ga H0 H μ r1 x ∧ slcop E r1 lo hi = some r ∧ Kn K ga b H μ E r Q
theorem slcop_ok : SlR X (rSl X.K ga b) := by
  intro pins s σ H x v vl vu lo hi sl Q I rx hs pl pu h
  obtain ⟨H0, μ, E, r1, r, q, h1, e, k⟩ := h
  unfold slcop at e
  split at e
  · rename_i ds
    cases e
    cases h1 with
    | tup hq rs =>
      refine sl_tupA pins s σ H _ v vl vu lo hi sl Q I rx hs pl pu ⟨_, _, rfl, hq, fun hw => ?_, fun hw p hp => k.tup q (cut_ok rs lo hi) hp⟩
      have hc : cut ds lo hi = ds := by
        unfold cut
        rw [rs.length, hw.1, hw.2, List.drop_zero, Nat.sub_zero, ← rs.length, List.take_length]
      rw [hc] at k
      exact k.val q (.tup hq rs)
  · rename_i hnt
    split at e
    · rename_i ds n es
      cases e
      obtain ⟨a, xs, rfl, rs, hq⟩ := asS_ok q h1 es
      rcases hq with ⟨hq, _⟩ | ⟨_, hq⟩
      · exact sl_list pins s σ H _ v vl vu lo hi sl Q I rx hs pl pu ⟨a, xs, rfl, hq, fun p hp => k.lst q (cut_ok rs lo hi) hp⟩
      · exact absurd hq (hnt ds)
    · cases e
inductive RpRs (K : PySem.W.Frag) (ga : Nat → Option Addr) (H0 H : Hp) (μ : List Addr) : List Rv → List L2.V → Prop
  | nil : RpRs K ga H0 H μ [] []
  | cons {r : Rv} {v : L2.V} {rs : List Rv} {vs : List L2.V} : RpR K ga H0 H μ r v → RpRs K ga H0 H μ rs vs → RpRs K ga H0 H μ (r :: rs) (v :: vs)
/-- a call of a built-in -/
def rCall (K : PySem.W.Frag) (ga : Nat → Option Addr) (b : Mk) (f : Eh → List Rv → Option Rv) : List V → Hp → VK → Prop := fun xs H Q =>
  ∃ H0 μ E rs r, Rp K ga b μ E H ∧ RpRs K ga H0 H μ rs xs ∧ f E rs = some r ∧ Kn K ga b H μ E r Q
theorem len_ok : CallR X (.builtin "len") (rCall X.K ga b lenB) := by
  intro pins s σ H xs us Q I r h
  obtain ⟨H0, μ, E, rs, r0, q, hs, e, k⟩ := h
  unfold lenB at e
  split at e
  · rename_i r1
    cases hs with
    | cons h1 ht =>
      cases ht
      split at e
      · rename_i ds n es
        cases e
        obtain ⟨a, ys, rfl, rs, hq⟩ := asS_or q h1 es
        refine call_len_seq pins s σ H _ us Q I r ⟨a, ys, rfl, hq, ?_⟩
        rw [← rs.length]
        exact k.val q (.int _)
      · split at e
        · split at e
          · rename_i hz
            cases e
            cases h1
            exact call_len pins s σ H _ us Q I r ⟨_, _, rfl, ⟨hz, rfl⟩, k.val q (.int _)⟩
          · cases e
        · cases e
  · cases e
theorem vals_sign {x : Str} {acc : Array Value} (h : ItemsOf (SignAt x) acc x.cps.size) : Vals (x.cps.toList.map fun c => V.str ⟨#[c]⟩) acc.toList := by
  refine vals_of_at (by rw [List.length_map, Array.length_toList, Array.length_toList]; exact h.1.symm) fun j y u e1 e2 => ?_
  rw [Array.getElem?_toList] at e2
  obtain ⟨c, t, ec, rfl⟩ := h.2 j u e2
  rw [List.getElem?_map, Array.getElem?_toList, ec] at e1
  cases e1
  exact ⟨t, rfl⟩
theorem rp_signs {K : PySem.W.Frag} {H : Hp} {μ : List Addr} : ∀ l : List Nat, RpVs K ga H μ (l.map fun c => D.str (sign c)) (l.map fun c => V.str ⟨#[c]⟩)
  | [] => .nil
  | c :: l => .cons (.str _) (rp_signs l)
theorem tuple_ok (hc : X.calm = true) : CallR X (.type "tuple") (rCall X.K ga b tupB) := by
  intro pins s σ H xs us Q I r h
  obtain ⟨H0, μ, E, rs, r0, q, hs, e, k⟩ := h
  unfold tupB at e
  split at e
  · rename_i r1
    cases hs with
    | cons h1 ht =>
      cases ht
      split at e
      · rename_i ds n es
        cases e
        obtain ⟨a, ys, rfl, rs, hq⟩ := asS_or q h1 es
        rcases hq with hq | hq
        · exact call_tuple_of pins s σ H _ us Q I r ⟨a, ys, rfl, .inl ⟨hq, fun p hp => k.tup q rs hp⟩⟩
        · exact call_tuple_of pins s σ H _ us Q I r ⟨a, ys, rfl, .inr ⟨hq, k.val q (.tup hq rs)⟩⟩
      · split at e
        · split at e
          · rename_i hz
            rename_i x _
            cases e
            cases h1
            cases r with
            | cons r1 r2 =>
              cases r2
              obtain ⟨t, rfl⟩ := r1
              refine call_tuple_str (I.ok.hd hc) x t (fun h' tk acc hk ha => ?_) hz
              have I1 : L2.Inv X pins σ H { s with heap := h', toks := tk } := I.kept (t' := tk) hk
              have hf : H h'.objs.size = none := I1.hok.fresh (Nat.le_refl _)
              refine ⟨.ref h'.objs.size, upd H h'.objs.size (.tup (x.cps.toList.map fun c => V.str ⟨#[c]⟩)), I1.laid (t' := tk) (fun b u e => Heap.get?_push_of_some _ e) (Nat.le_refl _) ?_, rfl, k.tup q (rp_signs _) hf⟩
              exact ⟨by rw [List.length_map, Array.length_toList]; exact hz, acc.toList, vals_sign ha, ⟨_, Heap.get?_push_size _ rfl, rfl, _, rfl⟩⟩
          · cases e
        · cases e
  · cases e
theorem list_ok : CallR X (.type "list") (rCall X.K ga b lstB) := by
  intro pins s σ H xs us Q I r h
  obtain ⟨H0, μ, E, rs, r0, q, hs, e, k⟩ := h
  unfold lstB at e
  split at e
  · rename_i r1
    cases hs with
    | cons h1 ht =>
      cases ht
      split at e
      · rename_i ds n es
        cases e
        obtain ⟨a, ys, rfl, rs, hq⟩ := asS_or q h1 es
        exact call_list_of pins s σ H _ us Q I r ⟨a, ys, rfl, hq, fun p hp => k.lst q rs hp⟩
      · cases e
  · cases e
mutual
theorem no_dict' : ∀ (d : PyData), d.canLay0 = true → d.hasDict = false
  | .none, _ => rfl
  | .bool _, _ => rfl
  | .int _, _ => rfl
  | .str _, _ => rfl
  | .list xs, h => no_dicts xs h
  | .tuple xs, h => no_dicts xs h
  | .dict _, h => by cases h
theorem no_dicts : ∀ (ds : List PyData), PyData.canLayAll0 ds = true → PyData.hasDictAll ds = false
  | [], _ => rfl
  | x :: xs, h => by
    unfold PyData.canLayAll0 at h
    rw [Bool.and_eq_true] at h
    unfold PyData.hasDictAll
    rw [no_dict' x h.1, no_dicts xs h.2]
    rfl
end
theorem no_dict {d : PyData} (h : SeqAt.shaped d = true) : ¬ d.hasDict = true := by
  rw [no_dict' d (SeqAt.canLay_of_shaped h)]
  exact Bool.false_ne_true
theorem repr_ok (hg : X.A.guards = some []) {kr : Nat} (hr : Room kr X.A) : CallR X (.builtin "repr") (rCall X.K ga b reprB) := by
  intro pins s σ H xs us Q I r h
  obtain ⟨H0, μ, E, rs, r0, q, hs, e, k⟩ := h
  unfold reprB at e
  split at e
  · rename_i r1
    cases hs with
    | cons h1 ht =>
      cases ht
      split at e
      · rename_i d ed
        split at e
        · rename_i hz
          rw [Bool.and_eq_true, Bool.and_eq_true] at hz
          obtain ⟨⟨z1, z2⟩, z3⟩ := hz
          cases e
          have hd := toPr_dp q h1 ed
          cases r with
          | cons r1 r2 =>
            cases r2
            obtain ⟨as, rd⟩ := Dp.reads I d _ _ hd r1
            have dep := SeqAt.depth_of_shaped z1
            have hnd : d.hasDict = true → sysModules ∉ as := fun z => by
              exact absurd z (no_dict z1)
            cases hd with
            | lst h0 h2 =>
              cases r1
              refine repr_of_reads' (h₀ := s.heap) rd z2 hnd hg (by have := hr.un; omega) (fun _ _ e => e) (fun h' u tk hk => ?_) (of_decide_eq_true z3)
              exact ⟨.str _, H, I.kept (t' := tk) hk, ⟨u, rfl⟩, k.val q (.str _)⟩
            | tup h0 h2 =>
              cases r1
              refine repr_of_reads' (h₀ := s.heap) rd z2 hnd hg (by have := hr.un; omega) (fun _ _ e => e) (fun h' u tk hk => ?_) (of_decide_eq_true z3)
              exact ⟨.str _, H, I.kept (t' := tk) hk, ⟨u, rfl⟩, k.val q (.str _)⟩
            | str y =>
              obtain ⟨t, rfl⟩ := r1
              simp only [PyData.shown_str] at z3 ⊢
              exact P.repr_of_str ⟨.str _, H, I.tok _, ⟨_, rfl⟩, k.val q (.str _)⟩ (of_decide_eq_true z3)
            | int i =>
              obtain ⟨t, rfl⟩ := r1
              simp only [PyData.showable, decide_eq_true_eq] at z2
              exact P.repr_of_int z2 ⟨.str _, H, I.tok _, ⟨_, rfl⟩, k.val q (.str _)⟩
            | bl c =>
              cases r1
              exact P.repr_of_bool ⟨.str _, H, I.tok _, ⟨_, rfl⟩, k.val q (.str _)⟩
            | non =>
              cases r1
              exact P.repr_of_none ⟨.str _, H, I.tok _, ⟨_, rfl⟩, k.val q (.str _)⟩
        · cases e
      · cases e
  · cases e
end
end Ev
end EvOps3
section EvOps4
namespace Ev
open PySem PySem.Spec PyProof.Rows L2

theorem lows_append {b : Nat} : ∀ {xs ys : List D}, D.lows b (xs ++ ys) = (D.lows b xs && D.lows b ys)
  | [], _ => by simp [D.lows]
  | x :: xs, ys => by rw [List.cons_append]; simp only [D.lows]; rw [lows_append, Bool.and_assoc]
theorem lows_mem {b : Nat} : ∀ {xs : List D}, D.lows b xs = true ↔ ∀ x ∈ xs, D.low b x = true
  | [] => by simp [D.lows]
  | x :: xs => by simp only [D.lows, Bool.and_eq_true, lows_mem, List.mem_cons, forall_eq_or_imp]
mutual
theorem low_mono {m : Nat} : ∀ {d : D}, d.low 0 = true → d.low m = true
  | .non, _ => rfl
  | .bl _, _ => rfl
  | .int _, _ => rfl
  | .str _, _ => rfl
  | .fn _, _ => rfl
  | .scr _, _ => rfl
  | .ref n, h => by simp [D.low] at h
  | .tup ds, h => by simp only [D.low] at h ⊢; exact lows_mono h
  | .lst ds, h => by simp only [D.low] at h ⊢; exact lows_mono h
  | .dct _ ds, h => by simp only [D.low] at h ⊢; exact lows_mono h
theorem lows_mono {m : Nat} : ∀ {ds : List D}, D.lows 0 ds = true → D.lows m ds = true
  | [], _ => rfl
  | d :: r, h => by
    simp only [D.lows, Bool.and_eq_true] at h ⊢
    exact ⟨low_mono h.1, lows_mono h.2⟩
end
theorem mayPut_lowM {b : Mk} {n m : Nat} {d : D} (h : mayPut b.b n d = true) (hm : m ∈ b.all) (hn : n < m) : d.low m = true := by
  unfold mayPut at h
  rw [decide_eq_true (Nat.lt_of_lt_of_le hn (b.top hm))] at h
  exact low_mono (by simpa using h)
section
variable {X : Cx}
def rExtendR : V → List V → Hp → VK → Prop := fun x vs H Q => ∃ l b xs zs, x = .ref l ∧ vs = [.ref b] ∧ H l = some (.lst xs) ∧ Rd H b (.lst zs) ∧ xs.length + zs.length ≤ sizeLine ∧ Q .non (upd H l (.lst (xs ++ zs)))
theorem mt_extendR : MtM X "list.extend" rExtendR := by
  intro pins s σ H x vs v us Q I rx rv h
  obtain ⟨l, b, xs, zs, rfl, rfl, h1, h2, hz, q⟩ := h
  cases rx
  obtain ⟨w, rfl, rw'⟩ := rv.one
  cases rw'
  obtain ⟨_, as, n, ra, la, ea⟩ := I.lstM h1
  obtain ⟨_, bs, m, rb, eb⟩ := h2.ok I.hok
  have lb := rb.length
  have hs : as.toArray.size + bs.toArray.size ≤ sizeLine := by simp only [List.size_toArray]; omega
  have hn : ¬ (!as.toArray.isEmpty && Builtin.List.listTooLong (as.toArray.size + bs.toArray.size)) = true := by
    rw [notLongL hs, Bool.and_false]; exact fun z => by cases z
  refine call_meets PySem.F.slot_list_extend ⟨_, ea, rfl⟩ PySem.F.entry_list_extend (PySem.F.args_list_extend_2 _ _)
    (AutoSeq1.list_extend_list_list_0 l as.toArray n b bs.toArray m hn (by simp only [List.size_toArray]; omega) (by omega)) ⟨ea, eb, ?_⟩
  exact ⟨.non, _, I.lset (its' := as ++ bs) h1 ea (by simp) (ra.append rb) (by simp only [List.length_append]; omega), rfl, q⟩
end
theorem RpVs.onto {K : PySem.W.Frag} {ga : Nat → Option Addr} {H : Hp} {μ : List Addr} {a : Addr} {u o : HO} {ds : List D} {vs : List L2.V} (h : RpVs K ga H μ ds vs) (hx : H a = some o) (hn : ¬ Fixd o) : RpVs K ga (upd H a u) μ ds vs :=
  RpVs.mono' (fix_keep fun c w e hw => by
    have hc : c ≠ a := fun z => by
      rw [z, hx] at e
      cases e
      exact hn hw
    rw [upd_ne hc]
    exact e) (fun _ _ e => e) h
section
variable {K : PySem.W.Frag} {ga : Nat → Option Addr} {H : Hp} {μ : List Addr} {b : Mk} {E : Eh}
/-- a list object is changed -/
theorem Rp.putL {n : Nat} {a : Addr} {xs ds : List D} {ys zs : List L2.V} (q : Rp K ga b μ E H) (en : E[n]? = some (.lst xs)) (hm : μ[n]? = some a) (hx : H a = some (.lst ys)) (r : RpVs K ga H μ ds zs) (hl : ∀ m ∈ b.all, n < m → D.lows m ds = true) :
    Rp K ga b μ (E.set n (.lst ds)) (upd H a (.lst zs)) ∧ Ext K H μ (upd H a (.lst zs)) μ :=
  q.mut (o' := .lst ds) en hm ⟨zs, upd_same, r.onto hx id⟩ hl
end
section
variable {X : Cx} {ga : Nat → Option Addr} {b : Mk}
def rMeth (K : PySem.W.Frag) (ga : Nat → Option Addr) (b : Mk) (f : Eh → Rv → List Rv → Option (Rv × Eh)) : V → List V → Hp → VK → Prop := fun x xs H Q =>
  ∃ H0 H1 μ E o rs r E', Rp K ga b μ E H ∧ RpR K ga H0 H μ o x ∧ RpRs K ga H1 H μ rs xs ∧ f E o rs = some (r, E') ∧ Kn K ga b H μ E' r Q
theorem append_ok : MtR X "list.append" (rMeth X.K ga b (appM b.b)) := by
  intro pins s σ H x xs v us Q I rx rs h
  obtain ⟨H0, H1, μ, E, o, rs', r, E', q, h1, h2, e, k⟩ := h
  unfold appM at e
  split at e
  · rename_i n d
    split at e
    · rename_i ds en
      split at e
      · rename_i hz
        cases e
        cases h1 with
        | ref hm =>
          cases h2 with
          | cons hd ht =>
            cases ht
            obtain ⟨ys, hx, ry⟩ := q.ob n _ _ en hm
            refine mt_append pins s σ H _ _ v us Q I rx rs ⟨_, ys, _, rfl, rfl, hx, by rw [← ry.length]; exact hz.1, ?_⟩
            obtain ⟨q', x'⟩ := q.putL (ds := ds ++ [d]) en hm hx (ry.append (.cons hd .nil)) fun m hm' hb => by
              have := q.low m hm' n _ hb en
              rw [lows_append, Bool.and_eq_true]
              exact ⟨this, by simp [D.lows, mayPut_lowM hz.2 hm' hb]⟩
            exact k _ _ μ x' q' RpV.non
      · cases e
    · cases e
  · cases e
theorem extend_ok : MtR X "list.extend" (rMeth X.K ga b (extM b.b)) := by
  intro pins s σ H x xs v us Q I rx rs h
  obtain ⟨H0, H1, μ, E, o, rs', r, E', q, h1, h2, e, k⟩ := h
  unfold extM at e
  split at e
  · rename_i n r1
    split at e
    · rename_i ds en
      split at e
      · rename_i es el
        split at e
        · rename_i hz
          cases e
          cases h1 with
          | ref hm =>
            cases h2 with
            | cons hd ht =>
              cases ht
              obtain ⟨ys, hx, ry⟩ := q.ob n _ _ en hm
              obtain ⟨c, zs, rfl, hc, rz⟩ := asL_ok q hd el
              refine mt_extendR pins s σ H _ _ v us Q I rx rs ⟨_, c, ys, zs, rfl, rfl, hx, hc, by rw [← ry.length, ← rz.length]; exact hz.1, ?_⟩
              obtain ⟨q', x'⟩ := q.putL (ds := ds ++ es) en hm hx (ry.append rz) fun m hm' hb => by
                have := q.low m hm' n _ hb en
                rw [lows_append, Bool.and_eq_true]
                exact ⟨this, mayPut_lowM hz.2 hm' hb⟩
              exact k _ _ μ x' q' RpV.non
        · cases e
      · cases e
    · cases e
  · cases e
theorem RpVs.dropLast {K : PySem.W.Frag} {H : Hp} {μ : List Addr} {ds : List D} {vs : List L2.V} (r : RpVs K ga H μ ds vs) : RpVs K ga H μ ds.dropLast vs.dropLast := by
  rw [List.dropLast_eq_take, List.dropLast_eq_take, r.length]
  exact r.take _
theorem pop_ok : MtR X "list.pop" (rMeth X.K ga b popM) := by
  intro pins s σ H x xs v us Q I rx rs h
  obtain ⟨H0, H1, μ, E, o, rs', r, E', q, h1, h2, e, k⟩ := h
  unfold popM at e
  split at e
  · rename_i n
    split at e
    · rename_i ds en
      split at e
      · rename_i d ed
        cases e
        cases h1 with
        | ref hm =>
          cases h2
          obtain ⟨ys, hx, ry⟩ := q.ob n _ _ en hm
          rw [ry.length] at ed
          obtain ⟨w, hw, rw'⟩ := ry.get ed
          refine mt_pop pins s σ H _ _ v us Q I rx rs ⟨_, ys, w, rfl, rfl, hx, hw, ?_⟩
          obtain ⟨q', x'⟩ := q.putL (ds := ds.dropLast) en hm hx ry.dropLast fun m hm' hb => by
            have := q.low m hm' n _ hb en
            exact lows_mem.mpr fun z hz => lows_mem.mp this z (List.dropLast_subset _ hz)
          exact k _ _ μ x' q' (RpV.mono rw' x')
      · cases e
    · cases e
  · cases e
theorem rp_strs {K : PySem.W.Frag} {H : Hp} {μ : List Addr} : ∀ l : List Str, RpVs K ga H μ (l.map D.str) (l.map V.str)
  | [] => .nil
  | c :: l => .cons (.str _) (rp_strs l)
theorem split_ok : MtR X "str.split" (rMeth X.K ga b splitM) := by
  intro pins s σ H x xs v us Q I rx rs h
  obtain ⟨H0, H1, μ, E, o, rs', r, E', q, h1, h2, e, k⟩ := h
  unfold splitM at e
  split at e
  · split at e
    · rename_i hz
      cases e
      cases h1
      cases h2 with
      | cons hd ht =>
        cases ht
        cases hd
        exact mt_split pins s σ H _ _ v us Q I rx rs ⟨_, _, rfl, rfl, hz.1, hz.2, fun p hp => k.lst q (rp_strs _) hp⟩
    · cases e
  · cases e
def rSet (K : PySem.W.Frag) (ga : Nat → Option Addr) (b : Mk) : TSet := fun o i v H Q =>
  ∃ H0 H1 μ E ro ri d E', Rp K ga b μ E H ∧ RpR K ga H0 H μ ro o ∧ RpR K ga H1 H μ ri i ∧ RpV K ga H μ d v ∧ stoop b.b E ro ri d = some E' ∧ ∀ H', Ext K H μ H' μ → Rp K ga b μ E' H' → Q H'
theorem any_zip {k : Key} : ∀ {kvs : List (Key × D)} {xs : List L2.V}, kvs.length = xs.length → ((kvs.map (·.1)).zip xs).any (fun p => decide (p.1 = k)) = kvs.any fun p => decide (p.1 = k)
  | [], _, _ => rfl
  | _ :: _, [], h => by simp at h
  | p :: r, x :: xs, h => by
    have := any_zip (k := k) (kvs := r) (xs := xs) (by simpa using h)
    simp only [List.map_cons, List.zip_cons_cons, List.any_cons, this]
theorem put_ok {K : PySem.W.Frag} {H : Hp} {μ : List Addr} {k : Key} {d : D} {v : L2.V} (rv : RpV K ga H μ d v) {kvs : List (Key × D)} {xs : List L2.V} (h : RpVs K ga H μ (kvs.map (·.2)) xs) :
    ∃ ys, putK ((kvs.map (·.1)).zip xs) k v = ((put kvs k d).map (·.1)).zip ys ∧ RpVs K ga H μ ((put kvs k d).map (·.2)) ys := by
  have hl : kvs.length = xs.length := by rw [← h.length, List.length_map]
  unfold putK put
  rw [any_zip hl]
  split
  · rename_i hany
    clear hl hany
    induction kvs generalizing xs with
    | nil => cases h; exact ⟨[], rfl, .nil⟩
    | cons p r ih => cases h with
      | cons h1 h2 =>
        rename_i x xs
        obtain ⟨ys, e1, e2⟩ := ih h2
        by_cases hk : p.1 = k
        · refine ⟨v :: ys, ?_, ?_⟩
          · simp only [List.map_cons, List.zip_cons_cons, hk, if_true] at e1 ⊢
            rw [← e1]
          · simp only [List.map_cons, hk, if_true]
            exact .cons rv e2
        · refine ⟨x :: ys, ?_, ?_⟩
          · simp only [List.map_cons, List.zip_cons_cons, hk, if_false] at e1 ⊢
            rw [← e1]
          · simp only [List.map_cons, hk, if_false]
            exact .cons h1 e2
  · refine ⟨xs ++ [v], ?_, ?_⟩
    · rw [List.map_append, List.zip_append (by rw [List.length_map]; exact hl)]
      rfl
    · rw [List.map_append]
      exact h.append (.cons rv .nil)
theorem low_map {b : Nat} {kvs : List (Key × D)} {k : Key} {d : D} (h : D.lows b (kvs.map (·.2)) = true) (hd : d.low b = true) : D.lows b ((put kvs k d).map (·.2)) = true := by
  refine lows_mem.mpr fun x hx => ?_
  obtain ⟨p, hp, rfl⟩ := List.mem_map.mp hx
  unfold put at hp
  split at hp
  · obtain ⟨p', hp', rfl⟩ := List.mem_map.mp hp
    split
    · exact hd
    · exact lows_mem.mp h _ (List.mem_map.mpr ⟨p', hp', rfl⟩)
  · rcases List.mem_append.mp hp with hp | hp
    · exact lows_mem.mp h _ (List.mem_map.mpr ⟨p, hp, rfl⟩)
    · rw [List.mem_singleton.mp hp]; exact hd
theorem stoop_ok (hu : X.A.units + 1 < cLine) : PSet X (rSet X.K ga b) := by
  intro pins s σ H o i v ov iv u Q I ro ri rv h
  obtain ⟨H0, H1, μ, E, o', i', d, E', q, h1, h2, h3, e, k⟩ := h
  unfold stoop at e
  split at e
  · rename_i n di
    split at e
    · rename_i ds en
      split at e
      · rename_i j
        split at e
        · rename_i jj ej
          split at e
          · rename_i hz
            cases e
            cases h1 with
            | ref hm =>
              cases h2
              obtain ⟨ys, hx, ry⟩ := q.ob n _ _ en hm
              refine set_list pins s σ H _ _ _ ov iv u Q I ro ri rv ⟨_, ys, _, jj, rfl, rfl, hx, by rw [← ry.length]; exact ej, ?_⟩
              obtain ⟨q', x'⟩ := q.putL (ds := ds.set jj d) en hm hx (ry.set h3 jj) fun m hm' hb => by
                have := q.low m hm' n _ hb en
                refine lows_mem.mpr fun z hz' => ?_
                rcases List.mem_or_eq_of_mem_set hz' with hz' | rfl
                · exact lows_mem.mp this z hz'
                · exact mayPut_lowM hz hm' hb
              exact k _ x' q'
          · cases e
        · cases e
      · cases e
    · rename_i kvs en
      split at e
      · rename_i kk ek
        split at e
        · rename_i hz
          cases e
          cases h1 with
          | ref hm =>
            obtain ⟨ys, hx, ry⟩ := q.ob n _ _ en hm
            have hy := key_ok h2 ek
            subst hy
            cases ro
            have hl : ((kvs.map (·.1)).zip ys).length < sizeLine := by
              rw [List.length_zip, List.length_map, ← ry.length, List.length_map, Nat.min_self]
              exact hz.2
            refine d_setItem hu I (DPut.k hx hl) ri rv fun s' I' => ⟨_, I', ?_⟩
            obtain ⟨zs, e1, e2⟩ := put_ok (k := kk) h3 ry
            rw [e1]
            obtain ⟨q', x'⟩ := q.mut (o' := .dct (put kvs kk d)) en hm (u := .dK (((put kvs kk d).map (·.1)).zip zs)) ⟨zs, upd_same, e2.onto hx id⟩ fun m hm' hb => low_map (q.low m hm' n _ hb en) (mayPut_lowM hz.1 hm' hb)
            exact k _ x' q'
        · cases e
      · cases e
    · cases e
  · cases e
end
end Ev
end EvOps4
section EvOps5
namespace Ev
open PySem PySem.Spec PyProof.Rows L2
section
variable {K : PySem.W.Frag} {ga : Nat → Option Addr} {H H0 : Hp} {μ : List Addr} {b : Mk} {E : Eh}
theorem bls_ok : ∀ {ds : List D} {vs : List L2.V} {bs : List Bool}, RpVs K ga H μ ds vs → ds.mapM D.asBl = some bs → vs = bs.map V.bl
  | _, _, _, .nil, e => by
    rw [List.mapM_nil] at e
    cases e
    rfl
  | _, _, _, .cons r t, e => by
    rw [List.mapM_cons] at e
    obtain ⟨p, e1, e⟩ := Option.bind_eq_some_iff.mp e
    obtain ⟨ps, e2, e⟩ := Option.bind_eq_some_iff.mp e
    cases e
    rw [bls_ok t e2]
    cases r <;> cases e1
    rfl
theorem strs_ok : ∀ {ds : List D} {vs : List L2.V} {bs : List Str}, RpVs K ga H μ ds vs → ds.mapM D.asStr = some bs → vs = bs.map V.str
  | _, _, _, .nil, e => by
    rw [List.mapM_nil] at e
    cases e
    rfl
  | _, _, _, .cons r t, e => by
    rw [List.mapM_cons] at e
    obtain ⟨p, e1, e⟩ := Option.bind_eq_some_iff.mp e
    obtain ⟨ps, e2, e⟩ := Option.bind_eq_some_iff.mp e
    cases e
    rw [strs_ok t e2]
    cases r <;> cases e1
    rfl
theorem ty_ok {r : Rv} {v : L2.V} {t : String} (q : Rp K ga b μ E H) (h : RpR K ga H0 H μ r v) (e : tyName E r = some t) : TyX K H v (.type t) := by
  cases r with
  | val d => cases d with
    | non => cases e; cases h; exact .base .non
    | bl c => cases e; cases h; exact .base (.bl c)
    | int c => cases e; cases h; exact .base (.int c)
    | str c => cases e; cases h; exact .base (.str c)
    | tup ds =>
      cases e
      cases h with
      | tup hs _ =>
        rcases hs with (hs | ⟨o, hs⟩) | ⟨o, its, n, h1, h2, _⟩
        · exact .base (.tup hs)
        · exact .fTuple hs
        · exact .kTuple h1 h2
    | lst ds =>
      cases e
      cases h with
      | lst hs _ => obtain ⟨o, hs⟩ := hs; exact .base (.frz hs)
    | scr ns =>
      cases e
      cases h with
      | scr hs =>
        rcases hs with ⟨o, hs⟩ | ⟨o, its, n, h1, h2, _⟩
        · exact .base (.frz hs)
        · exact .kList h1 h2
    | dct ks ds =>
      cases e
      cases h with
      | dct hs _ _ => obtain ⟨o, hs⟩ := hs; exact .fDict hs
    | fn _ => cases e
    | ref n =>
      cases h with
      | ref hm =>
        have e : (match E[n]? with | some (.lst _) => some "list" | some (.dct _) => some "dict" | none => none) = some t := e
        split at e
        · rename_i ys en
          cases e
          obtain ⟨xs, hx, _⟩ := q.ob n _ _ en hm
          exact .base (.lst hx)
        · rename_i ys en
          cases e
          obtain ⟨xs, hx, _⟩ := q.ob n _ _ en hm
          exact .base (.dK hx)
        · cases e
  | new o => cases o with
    | lst ys =>
      cases e
      obtain ⟨a, rfl, ⟨xs, hx, _⟩, _⟩ := h
      exact .base (.lst hx)
    | dct ys =>
      cases e
      obtain ⟨a, rfl, ⟨xs, hx, _⟩, _⟩ := h
      exact .base (.dK hx)
theorem isi_tab : ∀ t ∈ ["NoneType", "bool", "int", "str", "tuple", "list", "dict"], ∀ T ∈ isiTys, kitB t T = some (isiB t T) := by decide +kernel
theorem ty_in {r : Rv} {t : String} (e : tyName E r = some t) : t ∈ ["NoneType", "bool", "int", "str", "tuple", "list", "dict"] := by
  cases r with
  | val d => cases d with
    | ref n =>
      have e : (match E[n]? with | some (.lst _) => some "list" | some (.dct _) => some "dict" | none => none) = some t := e
      split at e
      · cases e; simp
      · cases e; simp
      · cases e
    | fn _ => cases e
    | _ => cases e; simp
  | new o => cases o <;> (cases e; simp)
end
section
variable {X : Cx} {ga : Nat → Option Addr} {b : Mk}
theorem str_ok : CallR X (.type "str") (rCall X.K ga b strB) := by
  intro pins s σ H xs us Q I r h
  obtain ⟨H0, μ, E, rs, r0, q, hs, e, k⟩ := h
  unfold strB at e
  split at e
  · split at e
    · rename_i hz
      cases e
      cases hs with
      | cons h1 ht =>
        cases ht
        cases h1
        exact call_str_int pins s σ H _ us Q I r ⟨_, rfl, hz, k.val q (.str _)⟩
    · cases e
  · cases e
    cases hs with
    | cons h1 ht =>
      cases ht
      cases h1
      cases r with
      | cons r1 r2 =>
        cases r2
        obtain ⟨t, rfl⟩ := r1
        exact PySem.P.str_of_str ⟨.str _, H, I, ⟨t, rfl⟩, k.val q (.str _)⟩
  · cases e
    cases hs with
    | cons h1 ht =>
      cases ht
      cases h1
      cases r with
      | cons r1 r2 =>
        cases r2
        cases r1
        exact PySem.P.str_of_none ⟨.str "None", H, I.tok _, ⟨_, rfl⟩, k.val q (.str _)⟩
  · cases e
theorem int_ok : CallR X (.type "int") (rCall X.K ga b intB) := by
  intro pins s σ H xs us Q I r h
  obtain ⟨H0, μ, E, rs, r0, q, hs, e, k⟩ := h
  unfold intB at e
  split at e
  · cases e
    cases hs with
    | cons h1 ht =>
      cases ht
      cases h1
      exact call_int1 pins s σ H _ us Q I r (.inl ⟨_, rfl, k.val q (.int _)⟩)
  · cases e
    cases hs with
    | cons h1 ht =>
      cases ht
      cases h1
      exact call_int1 pins s σ H _ us Q I r (.inr ⟨_, rfl, k.val q (.int _)⟩)
  · cases e
theorem all_okB (hc : X.calm = true) : CallR X (.builtin "all") (rCall X.K ga b allB) := by
  intro pins s σ H xs us Q I r h
  obtain ⟨H0, μ, E, rs, r0, q, hs, e, k⟩ := h
  unfold allB at e
  split at e
  · cases hs with
    | cons h1 ht =>
      cases ht
      split at e
      · rename_i ds el
        obtain ⟨bs, e1, rfl⟩ := Option.map_eq_some_iff.mp e
        obtain ⟨a, ys, rfl, ha, ra⟩ := asL_ok q h1 el
        have := bls_ok ra e1
        subst this
        exact cr_all hc pins s σ H _ us Q I r ⟨a, bs, rfl, .inl ha, k.val q (.bl _)⟩
      · cases e
  · cases e
theorem any_okB (hc : X.calm = true) : CallR X (.builtin "any") (rCall X.K ga b anyB) := by
  intro pins s σ H xs us Q I r h
  obtain ⟨H0, μ, E, rs, r0, q, hs, e, k⟩ := h
  unfold anyB at e
  split at e
  · cases hs with
    | cons h1 ht =>
      cases ht
      split at e
      · rename_i ds el
        obtain ⟨bs, e1, rfl⟩ := Option.map_eq_some_iff.mp e
        obtain ⟨a, ys, rfl, ha, ra⟩ := asL_ok q h1 el
        have := bls_ok ra e1
        subst this
        exact cr_any hc pins s σ H _ us Q I r ⟨a, bs, rfl, .inl ha, k.val q (.bl _)⟩
      · cases e
  · cases e
theorem join_ok : MtR X "str.join" (rMeth X.K ga b joinM) := by
  intro pins s σ H x vs v us Q I rx rs h
  obtain ⟨H0, H1, μ, E, o, rs', r, E', q, h1, h2, e, k⟩ := h
  unfold joinM at e
  split at e
  · split at e
    · rename_i ds n es
      split at e
      · rename_i ys ey
        split at e
        · rename_i hz
          cases e
          cases h1
          cases h2 with
          | cons hd ht =>
            cases ht
            obtain ⟨p, zs, rfl, rz, hq⟩ := asS_or q hd es
            have := strs_ok rz ey
            subst this
            exact mt_join pins s σ H _ _ v us Q I rx rs ⟨_, p, ys, rfl, rfl, hq, hz, k.val q (.str _)⟩
        · cases e
      · cases e
    · cases e
  · cases e
end
end Ev
end EvOps5
section EvSnd
namespace Ev
open PySem PySem.Spec PyProof.Rows L2

section
variable {K : PySem.W.Frag} {ga : Nat → Option Addr} {H H1 H2 : Hp} {μ μ1 μ2 : List Addr} {b : Mk} {E E1 E2 : Eh} {r : Rv} {Q : VK}
theorem Kn.back (k : Kn K ga b H μ E r Q) (x : Ext K H μ H2 μ2) (q : Rp K ga b μ2 E2 H2) : Kn K ga b H2 μ2 E r Q :=
  fun v H' μ' x' q' hr => k v H' μ' (x.trans q x') q' (hr.elder x q)
end

/-! ## the readings that the core gives -/
section
variable (K : PySem.W.Frag) (ga : Nat → Option Addr) (cf : Cf) (b : Mk)
def tE (c : Ex) : TE := fun σ H Q => ∃ σd E μ r E', Rp K ga b μ E H ∧ RpS K ga H μ σd σ ∧ ev cf b.b c σd E = some (r, E') ∧ Kn K ga b H μ E' r Q
def tT (c : Ex) : TT := fun σ H Q => ∃ σd E μ t E', Rp K ga b μ E H ∧ RpS K ga H μ σd σ ∧ ts cf b.b c σd E = some (t, E') ∧ ∀ H' μ', Ext K H μ H' μ' → Rp K ga b μ' E' H' → Q t H'
def tBb (a : Bool) (es : Exs) : TT := fun σ H Q => ∃ σd E μ t E', Rp K ga b μ E H ∧ RpS K ga H μ σd σ ∧ evb cf b.b a es σd E = some (t, E') ∧ ∀ H' μ', Ext K H μ H' μ' → Rp K ga b μ' E' H' → Q t H'
def tEs (es : Exs) : TA := fun σ H Q => ∃ σd E μ ds E', Rp K ga b μ E H ∧ RpS K ga H μ σd σ ∧ evs cf b.b es σd E = some (ds, E') ∧ ∀ vs H' μ', Ext K H μ H' μ' → Rp K ga b μ' E' H' → RpVs K ga H' μ' ds vs → Q vs H'
def tEr (es : Exs) : TA := fun σ H Q => ∃ σd E μ rs E', Rp K ga b μ E H ∧ RpS K ga H μ σd σ ∧ evr cf b.b es σd E = some (rs, E') ∧ ∀ vs H' μ', Ext K H μ H' μ' → Rp K ga b μ' E' H' → RpRs K ga H H' μ' rs vs → Q vs H'
end
theorem _root_.L2.PE.weak {X : Cx} {e : PySem.Expr} {t t' : TE} (h : PE X e t) (i : ∀ σ H Q, t' σ H Q → t σ H Q) : PE X e t' := ⟨fun pins s σ H Q I q => h.run pins s σ H Q I (i σ H Q q)⟩
theorem _root_.L2.PT.weak {X : Cx} {e : PySem.Expr} {t t' : TT} (h : PT X e t) (i : ∀ σ H Q, t' σ H Q → t σ H Q) : PT X e t' := ⟨fun pins s σ H Q I q => h.run pins s σ H Q I (i σ H Q q)⟩
theorem _root_.L2.PW.weak {X : Cx} {e : PySem.Expr} {t t' : TT} (h : PW X e t) (i : ∀ σ H Q, t' σ H Q → t σ H Q) : PW X e t' := ⟨fun wh pins s σ H Q I q => h.run wh pins s σ H Q I (i σ H Q q)⟩
theorem _root_.L2.PA.weak {X : Cx} {e : List PySem.Expr} {t t' : TA} (h : PA X e t) (i : ∀ σ H Q, t' σ H Q → t σ H Q) : PA X e t' := ⟨fun pos pins s σ H Q I q => h.run pos pins s σ H Q I (i σ H Q q)⟩
theorem _root_.L2.PE.either {X : Cx} {e : PySem.Expr} {t t' : TE} (h : PE X e t) (h' : PE X e t') : PE X e (fun σ H Q => t σ H Q ∨ t' σ H Q) := ⟨fun pins s σ H Q I q => q.elim (h.run pins s σ H Q I) (h'.run pins s σ H Q I)⟩

section
variable {X : Cx} {ga : Nat → Option Addr} {cf : Cf} {b : Mk} {x y z : PySem.Expr} {ca cb cc : Ex} {pos : Pos}

theorem sd_var {i : Nat} {n : Str} (hN : X.N[i]? = some n) (hv : Vis X.env.scope n) (hd : (n == ("__debug__" : Str)) = false) (hcd : (n == ("__classdict__" : Str)) = false) : PE X (.Name n pos) (tE X.K ga cf b (.var i)) := by
  refine (pe_var hN hv hd hcd).weak fun σ H Q h => ?_
  obtain ⟨σd, E, μ, r, E', q, hs, e, k⟩ := h
  simp only [ev] at e
  split at e
  · rename_i d ed
    cases e
    obtain ⟨v, hv, rv⟩ := hs.get i d ed
    exact ⟨v, hv, k.val q rv⟩
  · cases e
theorem sd_int {i : Int} {j} : PE X (.Constant (.int i) j pos) (tE X.K ga cf b (.int i)) := pe_int.weak fun σ H Q h => by
  obtain ⟨σd, E, μ, r, E', q, hs, e, k⟩ := h; simp only [ev] at e; cases e; exact k.val q (.int _)
theorem sd_str {i : Str} {j} : PE X (.Constant (.str i) j pos) (tE X.K ga cf b (.str i)) := pe_str.weak fun σ H Q h => by
  obtain ⟨σd, E, μ, r, E', q, hs, e, k⟩ := h; simp only [ev] at e; cases e; exact k.val q (.str _)
theorem sd_bl {i : Bool} {j} : PE X (.Constant (.bool i) j pos) (tE X.K ga cf b (.bl i)) := pe_bl.weak fun σ H Q h => by
  obtain ⟨σd, E, μ, r, E', q, hs, e, k⟩ := h; simp only [ev] at e; cases e; exact k.val q (.bl _)
theorem sd_non {j} : PE X (.Constant .none j pos) (tE X.K ga cf b .non) := pe_non.weak fun σ H Q h => by
  obtain ⟨σd, E, μ, r, E', q, hs, e, k⟩ := h; simp only [ev] at e; cases e; exact k.val q .non
theorem sd_bin {op : Operator} (ha : PE X x (tE X.K ga cf b ca)) (hb : PE X y (tE X.K ga cf b cb)) : PE X (.BinOp x op y pos) (tE X.K ga cf b (.bin op ca cb)) := by
  refine (pe_op (binop_ok (ga := ga) (b := b) op) ha hb).weak fun σ H Q h => ?_
  obtain ⟨σd, E, μ, r, E', q, hs, e, k⟩ := h
  simp only [ev] at e
  split at e
  · cases e
  · rename_i r1 E1 e1
    split at e
    · cases e
    · rename_i r2 E2 e2
      obtain ⟨r', e3, e4⟩ := Option.map_eq_some_iff.mp e
      cases e4
      exact ⟨σd, E, μ, r1, E1, q, hs, e1, fun v1 H1 μ1 x1 q1 h1 => ⟨σd, E1, μ1, r2, E', q1, hs.mono x1, e2, fun v2 H2 μ2 x2 q2 h2 =>
        ⟨H, H1, μ2, E', r1, r2, r, q2, h1.mono x2, h2, e3, k.back (x1.trans q1 x2) q2⟩⟩⟩
theorem sd_cmp {kr : Nat} (hr : Room kr X.A) {op : CmpOp} (ha : PE X x (tE X.K ga cf b ca)) (hb : PE X y (tE X.K ga cf b cb)) (hm : behindInMarks op y = false) : PE X (.Compare x [op] [y] pos) (tE X.K ga cf b (.cmp op ca cb)) := by
  refine (pe_cmpR (cmpop_ok (ga := ga) (b := b) hr op) ha hb hm).weak fun σ H Q h => ?_
  obtain ⟨σd, E, μ, r, E', q, hs, e, k⟩ := h
  simp only [ev] at e
  split at e
  · cases e
  · rename_i r1 E1 e1
    split at e
    · cases e
    · rename_i r2 E2 e2
      obtain ⟨r', e3, e4⟩ := Option.map_eq_some_iff.mp e
      cases e4
      exact ⟨σd, E, μ, r1, E1, q, hs, e1, fun v1 H1 μ1 x1 q1 h1 => ⟨σd, E1, μ1, r2, E', q1, hs.mono x1, e2, fun v2 H2 μ2 x2 q2 h2 =>
        ⟨H, H1, μ2, E', r1, r2, _, q2, h1.mono x2, h2, Option.map_eq_some_iff.mpr ⟨_, e3, rfl⟩, k.back (x1.trans q1 x2) q2⟩⟩⟩
theorem sd_idx {kr : Nat} (hr : Room kr X.A) (ha : PE X x (tE X.K ga cf b ca)) (hb : PE X y (tE X.K ga cf b cb)) (hp : PlainIx y) : PE X (.Subscript x y pos) (tE X.K ga cf b (.idx ca cb)) := by
  refine (pe_ix (idxop_ok (ga := ga) (b := b) hr) ha hb hp).weak fun σ H Q h => ?_
  obtain ⟨σd, E, μ, r, E', q, hs, e, k⟩ := h
  simp only [ev] at e
  split at e
  · cases e
  · rename_i r1 E1 e1
    split at e
    · cases e
    · rename_i r2 E2 e2
      obtain ⟨r', e3, e4⟩ := Option.map_eq_some_iff.mp e
      cases e4
      exact ⟨σd, E, μ, r1, E1, q, hs, e1, fun v1 H1 μ1 x1 q1 h1 => ⟨σd, E1, μ1, r2, E', q1, hs.mono x1, e2, fun v2 H2 μ2 x2 q2 h2 =>
        ⟨H, H1, μ2, E', r1, r2, _, q2, h1.mono x2, h2, Option.map_eq_some_iff.mpr ⟨_, e3, rfl⟩, k.back (x1.trans q1 x2) q2⟩⟩⟩
theorem sd_neg (ha : PE X x (tE X.K ga cf b ca)) : PE X (.UnaryOp .USub x pos) (tE X.K ga cf b (.neg ca)) := by
  refine (pe_un un_neg ha).weak fun σ H Q h => ?_
  obtain ⟨σd, E, μ, r, E', q, hs, e, k⟩ := h
  simp only [ev] at e
  split at e
  · rename_i i E1 e1
    cases e
    refine ⟨σd, E, μ, _, _, q, hs, e1, fun v1 H1 μ1 x1 q1 h1 => ?_⟩
    cases h1
    exact ⟨i, rfl, k _ _ μ1 x1 q1 (RpV.int _)⟩
  · cases e
theorem sd_ifx {t : PySem.Expr} {ct : Ex} (ht : PT X t (tT X.K ga cf b ct)) (ha : PE X x (tE X.K ga cf b ca)) (hb : PE X y (tE X.K ga cf b cb)) : PE X (.IfExp t x y pos) (tE X.K ga cf b (.ifx ct ca cb)) := by
  refine (pe_ifExp ht ha hb).weak fun σ H Q h => ?_
  obtain ⟨σd, E, μ, r, E', q, hs, e, k⟩ := h
  simp only [ev] at e
  split at e
  · cases e
  · rename_i E1 e1
    refine ⟨σd, E, μ, _, _, q, hs, e1, fun H1 μ1 x1 q1 => ?_⟩
    exact ⟨σd, E1, μ1, r, E', q1, hs.mono x1, e, k.back x1 q1⟩
  · rename_i E1 e1
    refine ⟨σd, E, μ, _, _, q, hs, e1, fun H1 μ1 x1 q1 => ?_⟩
    exact ⟨σd, E1, μ1, r, E', q1, hs.mono x1, e, k.back x1 q1⟩
/-! argument lists -/
theorem s_nils : PA X [] (tEs X.K ga cf b .nil) := pa_nil.weak fun σ H Q h => by
  obtain ⟨σd, E, μ, ds, E', q, hs, e, k⟩ := h
  simp only [evs] at e
  cases e
  exact k [] H μ (Ext.refl _ _ _) q .nil
theorem s_conss {es : List PySem.Expr} {cs : Exs} (ha : PE X x (tE X.K ga cf b ca)) (hr : PA X es (tEs X.K ga cf b cs)) (hst : starEach (x :: es) X.env = (false, eval x X.env) :: starEach es X.env) : PA X (x :: es) (tEs X.K ga cf b (.cons ca cs)) := by
  refine (pa_cons ha hr hst).weak fun σ H Q h => ?_
  obtain ⟨σd, E, μ, ds, E', q, hs, e, k⟩ := h
  simp only [evs] at e
  split at e
  · cases e
  · rename_i r E1 e1
    split at e
    · cases e
    · rename_i ds2 E2 e2
      cases e
      refine ⟨σd, E, μ, r, E1, q, hs, e1, fun v1 H1 μ1 x1 q1 h1 => ?_⟩
      obtain ⟨μ2, y1, up, q2, rv⟩ := reg_ok x1 q1 h1
      refine ⟨σd, _, μ2, ds2, _, q2, hs.mono y1, e2, fun vs H3 μ3 x3 q3 rs => ?_⟩
      exact k _ H3 μ3 (y1.trans q2 x3) q3 (.cons (rv.mono x3) rs)
theorem s_nilr : PA X [] (tEr X.K ga cf b .nil) := pa_nil.weak fun σ H Q h => by
  obtain ⟨σd, E, μ, ds, E', q, hs, e, k⟩ := h
  simp only [evr] at e
  cases e
  exact k [] H μ (Ext.refl _ _ _) q .nil
theorem RpRs.elder {K : PySem.W.Frag} {H0 H1 H2 : Hp} {μ' μ1 μ2 : List Addr} {b' : Mk} {E' : Eh} : ∀ {rs : List Rv} {vs : List L2.V}, RpRs K ga H1 H2 μ2 rs vs → Ext K H0 μ' H1 μ1 → Rp K ga b' μ1 E' H1 → RpRs K ga H0 H2 μ2 rs vs
  | _, _, .nil, _, _ => .nil
  | _, _, .cons h t, x, q => .cons (h.elder x q) (RpRs.elder t x q)
theorem s_consr {es : List PySem.Expr} {cs : Exs} (ha : PE X x (tE X.K ga cf b ca)) (hr : PA X es (tEr X.K ga cf b cs)) (hst : starEach (x :: es) X.env = (false, eval x X.env) :: starEach es X.env) : PA X (x :: es) (tEr X.K ga cf b (.cons ca cs)) := by
  refine (pa_cons ha hr hst).weak fun σ H Q h => ?_
  obtain ⟨σd, E, μ, ds, E', q, hs, e, k⟩ := h
  simp only [evr] at e
  split at e
  · cases e
  · rename_i r E1 e1
    split at e
    · cases e
    · rename_i ds2 E2 e2
      cases e
      refine ⟨σd, E, μ, r, E1, q, hs, e1, fun v1 H1 μ1 x1 q1 h1 => ?_⟩
      refine ⟨σd, _, μ1, ds2, _, q1, hs.mono x1, e2, fun vs H3 μ3 x3 q3 rs => ?_⟩
      exact k _ H3 μ3 (x1.trans q1 x3) q3 (.cons (h1.mono x3) (rs.elder x1 q1))
theorem sd_tup {es : List PySem.Expr} {cs : Exs} {k} (h : PA X es (tEs X.K ga cf b cs)) : PE X (.Tuple es k pos) (tE X.K ga cf b (.tup cs)) := by
  refine (pe_tup h).weak fun σ H Q h => ?_
  obtain ⟨σd, E, μ, r, E', q, hs, e, k⟩ := h
  simp only [ev] at e
  split at e
  · rename_i ds E1 e1
    split at e
    · rename_i hz
      cases e
      refine ⟨σd, E, μ, ds, _, q, hs, e1, fun vs H1 μ1 x1 q1 rs => ⟨by rw [← rs.length]; exact hz, fun p hp => ?_⟩⟩
      exact (k.back x1 q1).tup q1 rs hp
    · cases e
  · cases e
theorem sd_lst {es : List PySem.Expr} {cs : Exs} (h : PA X es (tEs X.K ga cf b cs)) : PE X (.List es pos) (tE X.K ga cf b (.lst cs)) := by
  refine (pe_lst h).weak fun σ H Q h => ?_
  obtain ⟨σd, E, μ, r, E', q, hs, e, k⟩ := h
  simp only [ev] at e
  split at e
  · rename_i ds E1 e1
    split at e
    · rename_i hz
      cases e
      refine ⟨σd, E, μ, ds, _, q, hs, e1, fun vs H1 μ1 x1 q1 rs => ⟨by rw [← rs.length]; exact hz, fun p hp => ?_⟩⟩
      exact (k.back x1 q1).lst q1 rs hp
    · cases e
  · cases e
/-! tests -/
theorem ts_ev : ∀ {c : Ex} {σ : Sd} {E E' : Eh} {t : Bool}, ts cf b.b c σ E = some (t, E') → ev cf b.b c σ E = some (.val (.bl t), E') := by
  intro c σ E E' t h
  cases c with
  | not e =>
    simp only [ts] at h
    simp only [ev]
    split at h <;> first | (cases h; done) | skip
    rename_i e1; cases h; first | rfl | rw [e1]
  | bop a es => simp only [ts] at h; simp only [ev, h]
  | bl v => simp only [ts] at h; cases h; rfl
  | var i =>
    simp only [ts] at h
    simp only [ev]
    split at h <;> first | (cases h; done) | skip
    rename_i e1; cases h; first | rfl | rw [e1]
  | cmp op x y =>
    simp only [ts] at h
    simp only [ev]
    split at h
    · cases h
    · rename_i r1 E1 e1
      split at h
      · cases h
      · rename_i r2 E2 e2
        obtain ⟨c, e3, e4⟩ := Option.map_eq_some_iff.mp h
        cases e4
        simp only [e3, Option.map_some]
  | call j es =>
    simp only [ts] at h
    simp only [ev]
    split at h
    · cases h
    · split at h <;> first | (cases h; done) | skip
      rename_i e1; cases h; exact e1
  | isi x T =>
    simp only [ts] at h
    simp only [ev]
    split at h
    · cases h
    · obtain ⟨c, e3, e4⟩ := Option.map_eq_some_iff.mp h
      cases e4
      simp only [e3, Option.map_some]
  | callB f es =>
    simp only [ts] at h
    simp only [ev]
    split at h
    · cases h
    · split at h <;> first | (cases h; done) | skip
      rename_i e1; cases h; rw [e1]; rfl
  | _ => simp only [ts] at h; cases h
theorem s_test (ha : PE X x (tE X.K ga cf b ca)) (he : ∀ whole, isTrue x X.env whole = (do let v ← whole; standAt x.pos; holding [v] (truthy v))) : PT X x (tT X.K ga cf b ca) := by
  refine (pt_val ha he).weak fun σ H Q h => ?_
  obtain ⟨σd, E, μ, t, E', q, hs, e, k⟩ := h
  refine ⟨σd, E, μ, _, E', q, hs, ts_ev e, fun v H1 μ1 x1 q1 h1 => ?_⟩
  cases h1
  exact ⟨t, rfl, k H1 μ1 x1 q1⟩
theorem s_notT (ha : PT X x (tT X.K ga cf b ca)) : PT X (.UnaryOp .Not x pos) (tT X.K ga cf b (.not ca)) := by
  refine (pt_not ha).weak fun σ H Q h => ?_
  obtain ⟨σd, E, μ, t, E', q, hs, e, k⟩ := h
  simp only [ts] at e
  split at e
  · rename_i c E1 e1
    cases e
    exact ⟨σd, E, μ, c, _, q, hs, e1, k⟩
  · cases e
theorem sd_not (ha : PE X x (tE X.K ga cf b ca)) : PE X (.UnaryOp .Not x pos) (tE X.K ga cf b (.not ca)) := by
  refine (pe_not ha).weak fun σ H Q h => ?_
  obtain ⟨σd, E, μ, r, E', q, hs, e, k⟩ := h
  simp only [ev] at e
  split at e
  · rename_i c E1 e1
    cases e
    refine ⟨σd, E, μ, _, _, q, hs, ts_ev e1, fun v H1 μ1 x1 q1 h1 => ?_⟩
    cases h1
    exact ⟨c, rfl, k _ H1 μ1 x1 q1 (RpV.bl _)⟩
  · cases e
end
end Ev
end EvSnd
section EvSnd2
namespace Ev
open PySem PySem.Spec PyProof.Rows L2

/-! ## what the text must be like -/
def plain : PySem.Expr → Bool
  | .Starred .. => false
  | _ => true
theorem star_cons {e : PySem.Expr} {es : List PySem.Expr} {env : Env} (h : plain e = true) : starEach (e :: es) env = (false, eval e env) :: starEach es env := by
  cases e <;> first | rfl | cases h
theorem star_none {pos : Pos} {env : Env} : ∀ {es : List PySem.Expr}, es.all plain = true → (backTo pos (starEach es env)).any (·.1) = false
  | [], _ => rfl
  | e :: es, h => by
    rw [List.all_cons, Bool.and_eq_true] at h
    rw [star_cons h.1]
    have := star_none (pos := pos) (env := env) h.2
    unfold backTo at this ⊢
    rw [List.map_cons, List.any_cons, this]
    rfl
theorem star_all {pos : Pos} {env : Env} : ∀ {es : List PySem.Expr}, es.all plain = true → (backTo pos (starEach es env)).all (fun x => !x.1) = true
  | [], _ => rfl
  | e :: es, h => by
    rw [List.all_cons, Bool.and_eq_true] at h
    rw [star_cons h.1]
    have := star_all (pos := pos) (env := env) h.2
    unfold backTo at this ⊢
    rw [List.map_cons, List.all_cons, this]
    rfl
theorem few_ok {cpos : Pos} {env : Env} {es : List PySem.Expr} (h : es.all plain = true) (hl : es.length < 30) :
    ((backTo cpos (starEach es env)).all (fun x => !x.1) && (backToKw cpos (keywordEach [] env)).all (fun x => x.1.isSome)
      && decide (es.length + ([] : List Keyword).length + (if ([] : List Keyword).isEmpty then 0 else 1) < 30)) = true := by
  rw [star_all h, Bool.true_and, Bool.and_eq_true]
  exact ⟨rfl, decide_eq_true (by simpa using hl)⟩
def noSuper : PySem.Expr → Bool
  | .Call (.Name _ _) [] [] _ => false
  | _ => true
theorem base_ok {o : PySem.Expr} {a : Str} {env : Env} {w : Sem Value} (h : noSuper o = true) : attributeBase o a env w = w := by
  unfold attributeBase
  split
  · cases h
  · rfl

section
variable {X : Cx} {ga : Nat → Option Addr} {cf : Cf} {b : Mk} {x y z : PySem.Expr} {ca cb cc : Ex} {pos : Pos}
/-! and, or -/
theorem w_one {op : BoolOp} {a : Bool} (ho : op = if a then .And else .Or) (h : PT X x (tT X.K ga cf b ca)) : PW X (.BoolOp op [x] pos) (tBb X.K ga cf b a (.cons ca .nil)) := by
  cases a
  · subst ho
    refine (pw_or1 h).weak fun σ H Q q => ?_
    obtain ⟨σd, E, μ, t, E', q, hs, e, k⟩ := q
    simp only [evb] at e
    exact ⟨σd, E, μ, t, E', q, hs, e, k⟩
  · subst ho
    refine (pw_and1 h).weak fun σ H Q q => ?_
    obtain ⟨σd, E, μ, t, E', q, hs, e, k⟩ := q
    simp only [evb] at e
    exact ⟨σd, E, μ, t, E', q, hs, e, k⟩
theorem w_more {op : BoolOp} {a : Bool} {rest : List PySem.Expr} {cs : Exs} (ho : op = if a then .And else .Or) (h : PT X x (tT X.K ga cf b ca)) (hr : PW X (.BoolOp op (y :: rest) pos) (tBb X.K ga cf b a (.cons cb cs))) :
    PW X (.BoolOp op (x :: y :: rest) pos) (tBb X.K ga cf b a (.cons ca (.cons cb cs))) := by
  cases a
  · subst ho
    refine (pw_or h hr).weak fun σ H Q q => ?_
    obtain ⟨σd, E, μ, t, E', q, hs, e, k⟩ := q
    rw [evb] at e
    split at e
    · cases e
    · rename_i c E1 e1
      refine ⟨σd, E, μ, c, E1, q, hs, e1, fun H1 μ1 x1 q1 => ?_⟩
      cases c
      · rw [if_neg Bool.false_ne_true]
        rw [if_pos rfl] at e
        exact ⟨σd, E1, μ1, t, E', q1, hs.mono x1, e, fun H' μ' x' q' => k H' μ' (x1.trans q1 x') q'⟩
      · rw [if_pos rfl]
        rw [if_neg (by decide)] at e
        cases e
        exact k H1 μ1 x1 q1
  · subst ho
    refine (pw_and h hr).weak fun σ H Q q => ?_
    obtain ⟨σd, E, μ, t, E', q, hs, e, k⟩ := q
    rw [evb] at e
    split at e
    · cases e
    · rename_i c E1 e1
      refine ⟨σd, E, μ, c, E1, q, hs, e1, fun H1 μ1 x1 q1 => ?_⟩
      cases c
      · rw [if_neg Bool.false_ne_true]
        rw [if_neg (by decide)] at e
        cases e
        exact k H1 μ1 x1 q1
      · rw [if_pos rfl]
        rw [if_pos rfl] at e
        exact ⟨σd, E1, μ1, t, E', q1, hs.mono x1, e, fun H' μ' x' q' => k H' μ' (x1.trans q1 x') q'⟩
/-- as a value -/
def tBv (K : PySem.W.Frag) (ga : Nat → Option Addr) (cf : Cf) (b : Mk) (a : Bool) (es : Exs) : TE := fun σ H Q => tBb K ga cf b a es σ H fun t H' => Q (.bl t) H'
theorem v_one {op : BoolOp} {a : Bool} (h : PE X x (tE X.K ga cf b ca)) : PE X (.BoolOp op [x] pos) (tBv X.K ga cf b a (.cons ca .nil)) := by
  refine (pe_one h).weak fun σ H Q q => ?_
  obtain ⟨σd, E, μ, t, E', q, hs, e, k⟩ := q
  simp only [evb] at e
  refine ⟨σd, E, μ, _, E', q, hs, ts_ev e, fun v H1 μ1 x1 q1 h1 => ?_⟩
  cases h1
  exact k H1 μ1 x1 q1
theorem v_more {op : BoolOp} {a : Bool} {rest : List PySem.Expr} {cs : Exs} (ho : op = if a then .And else .Or) (h : PE X x (tE X.K ga cf b ca)) (hr : PE X (.BoolOp op (y :: rest) pos) (tBv X.K ga cf b a (.cons cb cs))) :
    PE X (.BoolOp op (x :: y :: rest) pos) (tBv X.K ga cf b a (.cons ca (.cons cb cs))) := by
  cases a
  · subst ho
    refine (pe_or h hr).weak fun σ H Q q => ?_
    obtain ⟨σd, E, μ, t, E', q, hs, e, k⟩ := q
    rw [evb] at e
    split at e
    · cases e
    · rename_i c E1 e1
      refine ⟨σd, E, μ, _, E1, q, hs, ts_ev e1, fun v H1 μ1 x1 q1 h1 => ?_⟩
      cases h1
      refine ⟨c, rfl, ?_⟩
      cases c
      · rw [if_neg Bool.false_ne_true]
        rw [if_pos rfl] at e
        exact ⟨σd, E1, μ1, t, E', q1, hs.mono x1, e, fun H' μ' x' q' => k H' μ' (x1.trans q1 x') q'⟩
      · rw [if_pos rfl]
        rw [if_neg (by decide)] at e
        cases e
        exact k H1 μ1 x1 q1
  · subst ho
    refine (pe_and h hr).weak fun σ H Q q => ?_
    obtain ⟨σd, E, μ, t, E', q, hs, e, k⟩ := q
    rw [evb] at e
    split at e
    · cases e
    · rename_i c E1 e1
      refine ⟨σd, E, μ, _, E1, q, hs, ts_ev e1, fun v H1 μ1 x1 q1 h1 => ?_⟩
      cases h1
      refine ⟨c, rfl, ?_⟩
      cases c
      · rw [if_neg Bool.false_ne_true]
        rw [if_neg (by decide)] at e
        cases e
        exact k H1 μ1 x1 q1
      · rw [if_pos rfl]
        rw [if_pos rfl] at e
        exact ⟨σd, E1, μ1, t, E', q1, hs.mono x1, e, fun H' μ' x' q' => k H' μ' (x1.trans q1 x') q'⟩
theorem sd_bop {op : BoolOp} {a : Bool} {l : List PySem.Expr} {cs : Exs} (h : PE X (.BoolOp op l pos) (tBv X.K ga cf b a cs)) : PE X (.BoolOp op l pos) (tE X.K ga cf b (.bop a cs)) := by
  refine h.weak fun σ H Q q => ?_
  obtain ⟨σd, E, μ, r, E', q, hs, e, k⟩ := q
  simp only [ev] at e
  split at e
  · rename_i c E1 e1
    cases e
    exact ⟨σd, E, μ, c, E', q, hs, e1, fun H1 μ1 x1 q1 => k _ H1 μ1 x1 q1 (RpV.bl _)⟩
  · cases e
theorem s_bopT {op : BoolOp} {a : Bool} {l : List PySem.Expr} {cs : Exs} (h : PW X (.BoolOp op l pos) (tBb X.K ga cf b a cs)) : PT X (.BoolOp op l pos) (tT X.K ga cf b (.bop a cs)) := by
  refine h.pt.weak fun σ H Q q => ?_
  obtain ⟨σd, E, μ, t, E', q, hs, e, k⟩ := q
  simp only [ts] at e
  exact ⟨σd, E, μ, t, E', q, hs, e, k⟩
/-! calls of built-ins -/
theorem sd_callB {f : String} {g : Eh → List Rv → Option Rv} {n : Str} {p : Pos} {es : List PySem.Expr} {cs : Exs} (hcb : ∀ E rs, callb E f rs = g E rs)
    (h : PE X (.Call (.Name n p) es [] pos) (tCB (rCall X.K ga b g) (tEr X.K ga cf b cs))) : PE X (.Call (.Name n p) es [] pos) (tE X.K ga cf b (.callB f cs)) := by
  refine h.weak fun σ H Q q => ?_
  obtain ⟨σd, E, μ, r, E', q, hs, e, k⟩ := q
  simp only [ev] at e
  split at e
  · cases e
  · rename_i rs E1 e1
    obtain ⟨r', e3, e4⟩ := Option.map_eq_some_iff.mp e
    cases e4
    rw [hcb] at e3
    exact ⟨σd, E, μ, rs, E', q, hs, e1, fun vs H1 μ1 x1 q1 rr => ⟨H, μ1, E', rs, r, q1, rr, e3, k.back x1 q1⟩⟩
/-! methods of built-ins -/
theorem sd_meth {m : String} {g : Eh → Rv → List Rv → Option (Rv × Eh)} {o : PySem.Expr} {co : Ex} {n : Str} {T : String} {apos : Pos} {es : List PySem.Expr} {cs : Exs} (hcb : ∀ E o rs, methop b.b E m o rs = g E o rs)
    (hty : ∀ (E : Eh) (o : Rv) (H H0 : Hp) (μ : List Addr) (v : V), recv m E o = true → Rp X.K ga b μ E H → RpR X.K ga H0 H μ o v → tyV X.K T v H)
    (h : PE X (.Call (.Attribute o n apos) es [] pos) (tBM X.K T (rMeth X.K ga b g) (tE X.K ga cf b co) (tEr X.K ga cf b cs))) : PE X (.Call (.Attribute o n apos) es [] pos) (tE X.K ga cf b (.meth m co cs)) := by
  refine h.weak fun σ H Q q => ?_
  obtain ⟨σd, E, μ, r, E', q, hs, e, k⟩ := q
  simp only [ev] at e
  split at e
  · cases e
  · rename_i r0 E1 e1
    split at e
    · rename_i hk
      split at e
      · cases e
      · rename_i rs E2 e2
        rw [hcb] at e
        refine ⟨σd, E, μ, r0, E1, q, hs, e1, fun v H1 μ1 x1 q1 h1 => ⟨hty E1 r0 H1 H μ1 v hk q1 h1, ?_⟩⟩
        refine ⟨σd, E1, μ1, rs, E2, q1, hs.mono x1, e2, fun vs H2 μ2 x2 q2 rr => ?_⟩
        exact ⟨H, H1, μ2, E2, r0, rs, r, E', q2, h1.mono x2, rr, e, k.back (x1.trans q1 x2) q2⟩
    · cases e
theorem ty_list {m : String} (hm : ¬ (m = "split" ∨ m = "join")) (hu : ¬ m = "update") (E : Eh) (o : Rv) (H H0 : Hp) (μ : List Addr) (v : V) (h : recv m E o = true) (q : Rp X.K ga b μ E H) (r : RpR X.K ga H0 H μ o v) : tyV X.K "list" v H := by
  unfold recv at h
  rw [if_neg hm, if_neg hu] at h
  obtain ⟨ds, e⟩ := Option.isSome_iff_exists.mp h
  obtain ⟨a, xs, rfl, ha, _⟩ := asL_ok q r e
  exact .inl ⟨rfl, _, .inl ha⟩
theorem ty_str {m : String} (hm : m = "split" ∨ m = "join") (E : Eh) (o : Rv) (H H0 : Hp) (μ : List Addr) (v : V) (h : recv m E o = true) (q : Rp X.K ga b μ E H) (r : RpR X.K ga H0 H μ o v) : tyV X.K "str" v H := by
  unfold recv at h
  rw [if_pos hm] at h
  split at h
  · cases r; rfl
  · cases h
theorem s_meth0 {m : String} {g : Eh → Rv → List Rv → Option (Rv × Eh)} {o : PySem.Expr} {co : Ex} {n : Str} {T : String} {apos : Pos} (hcb : ∀ E o rs, methop b.b E m o rs = g E o rs)
    (hty : ∀ (E : Eh) (o : Rv) (H H0 : Hp) (μ : List Addr) (v : V), recv m E o = true → Rp X.K ga b μ E H → RpR X.K ga H0 H μ o v → tyV X.K T v H)
    (h : PE X (.Call (.Attribute o n apos) [] [] pos) (tBM0 X.K T (rMeth X.K ga b g) (tE X.K ga cf b co))) : PE X (.Call (.Attribute o n apos) [] [] pos) (tE X.K ga cf b (.meth m co .nil)) := by
  refine h.weak fun σ H Q q => ?_
  obtain ⟨σd, E, μ, r, E', q, hs, e, k⟩ := q
  simp only [ev] at e
  split at e
  · cases e
  · rename_i r0 E1 e1
    split at e
    · rename_i hk
      simp only [evr] at e
      rw [hcb] at e
      refine ⟨σd, E, μ, r0, E1, q, hs, e1, fun v H1 μ1 x1 q1 h1 => ⟨hty E1 r0 H1 H μ1 v hk q1 h1, ?_⟩⟩
      exact ⟨H, H1, μ1, E1, r0, [], r, E', q1, h1, .nil, e, k.back x1 q1⟩
    · cases e
/-! slices -/
def tOo (K : PySem.W.Frag) (ga : Nat → Option Addr) (cf : Cf) (b : Mk) (c : Exo) : TO := fun σ H Q => ∃ σd E μ i E', Rp K ga b μ E H ∧ RpS K ga H μ σd σ ∧ evo cf b.b c σd E = some (i, E') ∧ ∀ H' μ', Ext K H μ H' μ' → Rp K ga b μ' E' H' → Q i H'
theorem _root_.L2.PO.weak {X : Cx} {e : Option PySem.Expr} {t t' : TO} (h : PO X e t) (i : ∀ σ H Q, t' σ H Q → t σ H Q) : PO X e t' := ⟨fun pins s σ H Q I q => h.run pins s σ H Q I (i σ H Q q)⟩
theorem o_none : PO X none (tOo X.K ga cf b .none) := po_none.weak fun σ H Q q => by
  obtain ⟨σd, E, μ, i, E', q, hs, e, k⟩ := q
  simp only [evo] at e
  cases e
  exact k H μ (Ext.refl _ _ _) q
theorem o_some (h : PE X x (tE X.K ga cf b ca)) : PO X (some x) (tOo X.K ga cf b (.some ca)) := (po_some h).weak fun σ H Q q => by
  obtain ⟨σd, E, μ, i, E', q, hs, e, k⟩ := q
  simp only [evo] at e
  split at e
  · rename_i j E1 e1
    cases e
    refine ⟨σd, E, μ, _, E', q, hs, e1, fun v H1 μ1 x1 q1 h1 => ?_⟩
    cases h1
    exact ⟨j, rfl, k H1 μ1 x1 q1⟩
  · cases e
theorem sd_slc {lo hi : Option PySem.Expr} {cl ch : Exo} {p2 : Pos} (h : PE X x (tE X.K ga cf b ca)) (hl : PO X lo (tOo X.K ga cf b cl)) (hh : PO X hi (tOo X.K ga cf b ch)) : PE X (.Subscript x (.Slice lo hi none p2) pos) (tE X.K ga cf b (.slc ca cl ch)) := by
  refine (pe_slice (slcop_ok (ga := ga) (b := b)) h hl hh).weak fun σ H Q q => ?_
  obtain ⟨σd, E, μ, r, E', q, hs, e, k⟩ := q
  simp only [ev] at e
  split at e
  · cases e
  · rename_i r1 E1 e1
    split at e
    · cases e
    · rename_i l E2 e2
      split at e
      · cases e
      · rename_i u E3 e3
        obtain ⟨r', e4, e5⟩ := Option.map_eq_some_iff.mp e
        cases e5
        exact ⟨σd, E, μ, r1, E1, q, hs, e1, fun v H1 μ1 x1 q1 h1 => ⟨σd, E1, μ1, l, E2, q1, hs.mono x1, e2, fun H2 μ2 x2 q2 =>
          ⟨σd, E2, μ2, u, E', q2, (hs.mono x1).mono x2, e3, fun H3 μ3 x3 q3 => ⟨H, μ3, E', r1, r, q3, (h1.mono x2).mono x3, e4, k.back ((x1.trans q1 x2).trans q2 x3) q3⟩⟩⟩⟩
/-! d.get(k, x) -/
theorem sd_dget {o e f : PySem.Expr} {co ce cf' : Ex} {apos : Pos} {kr : Nat} (hr : Room kr X.A) (ho : PE X o (tE X.K ga cf b co)) (he : PE X e (tE X.K ga cf b ce)) (hf : PE X f (tE X.K ga cf b cf')) (m : M2 X o "get" apos e f pos) :
    PE X (.Call (.Attribute o "get" apos) [e, f] [] pos) (tE X.K ga cf b (.dget co ce cf')) := by
  refine (pe_dget2 (hu_of hr) ho he hf m).weak fun σ H Q q => ?_
  obtain ⟨σd, E, μ, r, E', q, hs, e, k⟩ := q
  simp only [ev] at e
  split at e
  · cases e
  · rename_i r0 E1 e1
    split at e
    · cases e
    · rename_i kv0 ek0
      split at e
      · cases e
      · rename_i rk E2 e2
        split at e
        · cases e
        · rename_i rd E3 e3
          split at e
          · rename_i kvs kd ek
            split at e
            · cases e
            · rename_i key ekey
              refine ⟨σd, E, μ, r0, E1, q, hs, e1, fun v H1 μ1 x1 q1 h1 => ?_⟩
              obtain ⟨a, ys, rfl, ha, _⟩ := asK_ok q1 h1 ek0
              refine ⟨a, rfl, .inl ⟨_, ha⟩, ?_⟩
              refine ⟨σd, E1, μ1, _, E2, q1, hs.mono x1, e2, fun vk H2 μ2 x2 q2 h2 => ?_⟩
              refine ⟨σd, E2, μ2, rd, E3, q2, (hs.mono x1).mono x2, e3, fun vd H3 μ3 x3 q3 h3 => ?_⟩
              obtain ⟨a', zs, ea, hz, rz⟩ := asK_ok q3 ((h1.mono x2).mono x3) ek
              cases ea
              have hk := key_ok (RpV.mono h2 x3) ekey
              subst hk
              have xx := (x1.trans q1 x2).trans q2 x3
              split at e
              · rename_i d ed
                cases e
                obtain ⟨w, hw, rw'⟩ := look_ok rz ed
                exact ⟨_, dget_k hz, by rw [hw]; exact k _ _ μ3 xx q3 rw'⟩
              · rename_i ed
                cases e
                refine ⟨_, dget_k hz, ?_⟩
                rw [look_none (by rw [← rz.length, List.length_map]) ed]
                exact k _ _ μ3 xx q3 (h3.elder (x1.trans q1 x2) q2)
          · cases e
/-! isinstance(x, T) -/
theorem sd_isi {e : PySem.Expr} {ce : Ex} {T : String} {p p1 : Pos} (hT : T ∈ isiTys) (he : PE X e (tE X.K ga cf b ce)) (hg : Gl X "isinstance") (hm : X.mg "isinstance" = none) (hg1 : Gl X (Str.ofString T)) (hm1 : X.mg (Str.ofString T) = none) (hp : plain e = true) :
    PE X (.Call (.Name "isinstance" p) [e, .Name (Str.ofString T) p1] [] pos) (tE X.K ga cf b (.isi ce T)) := by
  have hb : bootBuiltins (Str.ofString T) = some (.type T) ∧ (Str.ofString T == ("__debug__" : Str)) = false ∧ (Str.ofString T ≠ "__name__") := by
    unfold isiTys at hT
    simp only [List.mem_cons, List.not_mem_nil, or_false] at hT
    rcases hT with rfl | rfl | rfl | rfl | rfl | rfl <;> decide +kernel
  refine (pe_callB call_isi hg hm (by decide +kernel) (pa_cons (hs := star_cons hp) he (pa_cons (pe_bltn (v := .ty T) hg1 hm1 hb.1 rfl hb.2.2 hb.2.1) pa_nil)) (by decide +kernel) (by decide +kernel) (star_cons hp) rfl).weak fun σ H Q q => ?_
  obtain ⟨σd, E, μ, r, E', q, hs, e, k⟩ := q
  simp only [ev] at e
  split at e
  · cases e
  · rename_i r0 E1 e1
    obtain ⟨t, et, e4⟩ := Option.map_eq_some_iff.mp e
    cases e4
    refine ⟨σd, E, μ, r0, _, q, hs, e1, fun v H1 μ1 x1 q1 h1 => ?_⟩
    exact ⟨v, .ty T, .type t, .type T, isiB t T, rfl, .ty T, ty_ok q1 h1 et, kit_ty (isi_tab t (ty_in et) T hT), k _ _ μ1 x1 q1 (RpV.bl _)⟩
end
end Ev
end EvSnd2
section EvRev
namespace Ev
open PySem PySem.Spec PyProof.Rows L2

theorem fm_some {α β : Type} (f : α → Option β) (g : α → β) : ∀ l : List α, (∀ a ∈ l, f a = some (g a)) → l.filterMap f = l.map g
  | [], _ => rfl
  | a :: l, h => by
    rw [List.filterMap_cons, h a (List.mem_cons_self), List.map_cons]
    exact congrArg _ (fm_some f g l fun c hc => h c (List.mem_cons_of_mem _ hc))
theorem rev_pick (xs : Array Value) : ((List.range xs.size).filterMap fun (k : Nat) => xs[((xs.size : Int) - 1 + (k : Int) * (-1)).toNat]?) = xs.toList.reverse := by
  rw [fm_some _ (fun k => xs.toList.getD (xs.size - 1 - k) default) _ fun k hk => ?_]
  · apply List.ext_getElem
    · simp
    · intro i h1 h2
      have hi : i < xs.size := by simpa using h1
      rw [List.getElem_map, List.getElem_range, List.getElem_reverse, List.getD_eq_getElem?_getD, List.getElem?_eq_getElem (by rw [Array.length_toList]; omega)]
      simp
  · have hk' := List.mem_range.mp hk
    have e : ((xs.size : Int) - 1 + (k : Int) * (-1)).toNat = xs.size - 1 - k := by omega
    rw [e, List.getD_eq_getElem?_getD, ← Array.getElem?_toList, List.getElem?_eq_getElem (by rw [Array.length_toList]; omega)]
    rfl
section
variable {prog : Program} {w : World} {A : Around} {E : Value → Shared → Prop} {s : Shared}
theorem applied_rev {sl : Addr} {vs : Value} {n : Nat} {Q : Int × Int × Nat → Shared → Prop} (hs : s.heap.IsSliceOf sl .none .none vs) (ps : IsPart vs (some (-1)))
    (h : Q ((n : Int) - 1, -1, n) s) : wpAny (model prog w) A (Builtin.Slice.sliceApplied (.ref sl) (pure (n : Int))) Q E s := by
  obtain ⟨os, hos, hcs, hds⟩ := id hs
  unfold Builtin.Slice.sliceApplied Builtin.Slice.sliceFields
  refine wpAny_bind (wpAny_bind (wpAny_field hos hds (x := .none) rfl ?_))
  refine wpAny_bind (wpAny_field hos hds (x := .none) rfl ?_)
  refine wpAny_bind (wpAny_field hos hds (x := vs) rfl (wpAny_pure ?_))
  refine wpAny_bind (HT.slicePart_ ps ?_)
  show wpAny _ _ (if ((-1 : Int) == 0) = true then _ else _) _ _ s
  rw [if_neg (by decide)]
  refine wpAny_bind (HT.slicePart_ .none ?_)
  refine wpAny_bind (HT.slicePart_ .none ?_)
  refine wpAny_bind (wpAny_pure ?_)
  have e1 : Builtin.Slice.sliceAdjust none none (-1) (n : Int) = ((n : Int) - 1, -1) := rfl
  have e2 : Builtin.Slice.slicePlaces ((n : Int) - 1) (-1) (-1) = n := by
    unfold Builtin.Slice.slicePlaces
    rw [if_neg (by decide)]
    rw [show -(-1 : Int) = 1 from rfl, Int.ediv_one]
    split <;> omega
  show wpAny _ _ (match Builtin.Slice.sliceAdjust none none (-1) (n : Int) with | (lo, hi) => pure (lo, (-1 : Int), Builtin.Slice.slicePlaces lo hi (-1))) _ _ s
  rw [e1]
  show wpAny _ _ (pure ((n : Int) - 1, (-1 : Int), Builtin.Slice.slicePlaces ((n : Int) - 1) (-1) (-1))) _ _ s
  rw [e2]
  exact wpAny_pure h
theorem tuple_rev {t sl : Addr} {items : Array Value} {vs : Value} {Q : Value → Shared → Prop} (ht : IsTup s.heap t items) (hs : s.heap.IsSliceOf sl .none .none vs) (ps : IsPart vs (some (-1)))
    (h : Q (.ref s.heap.objs.size) { s with heap := s.heap.push { cls := .type "tuple", data := .seq items.toList.reverse.toArray } }) (hsz : items.size ≤ sizeLine) : wpAny (model prog w) A (getItem (.ref t) (.ref sl)) Q E s := by
  have htake : sizeOk (.seq items.toList.reverse.toArray) := by
    show items.toList.reverse.toArray.size ≤ sizeLine
    simpa using hsz
  obtain ⟨os, hos, hcs, hds⟩ := id hs
  have hTs : s.TypeIs (.ref sl) "slice" := ⟨os, hos, hcs⟩
  unfold getItem
  try with_reducible refine wpAny_holding ?_
  first | refine wpAny_bind (wpAny_pure ?_) | skip
  refine wpAny_bind (wpAny_sequenceKey ht.typeIs (by decide) ?_)
  refine wpAny_bind (wpAny_callSpecial?_slot (name := Str.ofString "__getitem__") ht.typeIs PyProof.Rows.slot_tuple_getitem ?_)
  refine wpAny_call_entry PyProof.Rows.slot_tuple_getitem ht.typeIs entry_tuple_getitem ?_ (args_tuple_getitem _ _)
  show wpAny _ _ (Builtin.Tuple.tupleItemsOf (.ref t) >>= _) _ _ s
  refine wpAny_bind (tupleItemsOf_ ht ?_)
  refine wpAny_bind (wpAny_typeOf hTs ?_)
  rw [if_pos (by decide)]
  refine wpAny_bind (applied_rev hs ps ?_)
  have hno : ¬ ((((items.size : Int) - 1) == 0 && (-1 : Int) == 1 && items.size == items.size) = true) := by
    intro q
    rw [Bool.and_eq_true, Bool.and_eq_true] at q
    exact absurd q.1.2 (by decide)
  show wpAny _ _ (if (((items.size : Int) - 1) == 0 && (-1 : Int) == 1 && items.size == items.size) = true then _ else _) _ _ s
  rw [if_neg hno, rev_pick]
  first
    | exact wpAny_bind (m := Builtin.Tuple.tupleExact _) (wpAny_newObj_type (wpAny_pure ⟨_, rfl, wpAny_pure h⟩) htake)
    | exact wpAny_bind (m := Builtin.Tuple.tupleExact _) (wpAny_newObj_type (wpAny_bind (wpAny_pure (wpAny_pure ⟨_, rfl, wpAny_pure h⟩))) htake)
    | exact wpAny_bind (wpAny_bind (m := Builtin.Tuple.tupleExact _) (wpAny_newObj_type (wpAny_pure (wpAny_pure ⟨_, rfl, wpAny_pure h⟩)) htake))
    | exact wpAny_bind (wpAny_bind (m := Builtin.Tuple.tupleExact _) (wpAny_newObj_type (wpAny_pure ⟨_, rfl, wpAny_pure h⟩) htake))
end
section
variable {X : Cx} {ga : Nat → Option Addr} {cf : Cf} {b : Mk} {x : PySem.Expr} {ca : Ex} {pos : Pos}
/-- t[::-1] of a tuple -/
theorem pe_revT {te : TE} {k : Nat} {p1 p2 p3 : Pos} (he : PE X x te) : PE X (.Subscript x (.Slice none none (some (.UnaryOp .USub (.Constant (.int 1) k p1) p2)) p3) pos)
    (fun σ H Q => te σ H fun v H1 => ∃ a xs, v = .ref a ∧ SqT X.K H1 a xs ∧ ∀ p, H1 p = none → Q (.ref p) (upd H1 p (.tup xs.reverse))) := by
  refine ⟨fun pins s σ H Q I h => ?_⟩
  refine Subscript_ (thn (he.run pins s σ H _ I h) fun v s1 ⟨v1, H1, I1, r1, q1⟩ => ?_)
  obtain ⟨a, xs, ex, hx, q⟩ := q1
  subst ex
  cases r1
  have hst : PO X (some (.UnaryOp .USub (.Constant (.int 1) k p1) p2)) (tPart (tUn (rU fun i => .int (-i)) (tC (.int 1)))) := po_some (pe_un un_neg pe_int)
  refine wpAny_Slice (thn (po_none.run pins s1 σ H1 (fun o H2 => o = none ∧ H2 = H1) I1 ⟨rfl, rfl⟩) fun vl s2 ⟨l, H2, I2, pl, el, e2⟩ => ?_)
  subst el e2
  refine thn (po_none.run pins s2 σ H2 (fun o H3 => o = none ∧ H3 = H2) I2 ⟨rfl, rfl⟩) fun vu s3 ⟨u, H3, I3, pu, eu, e3⟩ => ?_
  subst eu e3
  refine thn (hst.run pins s3 σ H3 (fun o H4 => o = some (-1) ∧ H4 = H3) I3 ⟨1, rfl, -1, rfl, rfl, rfl⟩) fun vs s4 ⟨o, H4, I4, ps, eo, e4⟩ => ?_
  subst eo e4
  cases pl
  cases pu
  have I5 : L2.Inv X pins σ H4 { s4 with heap := s4.heap.push { cls := .type "slice", data := .fields #[.none, .none, vs] } } := I4.kept (t' := s4.toks) fun b ob q => Heap.get?_push_of_some _ q
  obtain ⟨its, r, ht, hz⟩ := I5.tuple hx
  have hlen := r.length
  refine tail_any (ops := [.ref a, .ref s4.heap.objs.size]) ht.typeIs PyProof.Rows.slot_tuple_getitem.lookup ?_ (by with_unfolding_all rfl)
  refine tuple_rev ht (Heap.IsSliceOf.new _ _ _ vs) ps ?_ (by rw [List.size_toArray]; omega)
  refine ⟨.ref _, _, I5.laid (t' := s4.toks) (o := .tup xs.reverse) (fun b ob q => Heap.get?_push_of_some _ q) (Nat.le_refl _) ?_, rfl, q _ (I5.hok.fresh (Nat.le_refl _))⟩
  exact ⟨by rw [List.length_reverse]; exact hz, _, r.reverse, IsTup.new _ _⟩
theorem sd_rev {k : Nat} {p1 p2 p3 : Pos} (h : PE X x (tE X.K ga cf b ca)) : PE X (.Subscript x (.Slice none none (some (.UnaryOp .USub (.Constant (.int 1) k p1) p2)) p3) pos) (tE X.K ga cf b (.rev ca)) := by
  refine ((pe_revL h).either (pe_revT h)).weak fun σ H Q q => ?_
  obtain ⟨σd, E, μ, r, E', q, hs, e, k⟩ := q
  simp only [ev] at e
  split at e
  · cases e
  · rename_i r1 E1 e1
    obtain ⟨r', e3, e4⟩ := Option.map_eq_some_iff.mp e
    cases e4
    unfold revop at e3
    split at e3
    · cases e3
      refine .inr ⟨σd, E, μ, _, E', q, hs, e1, fun v H1 μ1 x1 q1 h1 => ?_⟩
      cases h1 with
      | tup hq rs => exact ⟨_, _, rfl, hq, fun p hp => (k.back x1 q1).tup q1 rs.reverse hp⟩
    · obtain ⟨ds, e5, e6⟩ := Option.map_eq_some_iff.mp e3
      cases e6
      refine .inl ⟨σd, E, μ, _, E', q, hs, e1, fun v H1 μ1 x1 q1 h1 => ?_⟩
      obtain ⟨a, xs, rfl, ha, rs⟩ := asL_ok q1 h1 e5
      exact ⟨a, xs, rfl, .inl ha, fun p hp => (k.back x1 q1).lst q1 rs.reverse hp⟩
/-! a thing is frozen -/
def tFz (t : TE) : TE := fun σ H Q => t σ H fun v H1 => Q v H1 ∨ ∃ d u, v = .ref d ∧ H1 d = some u ∧ Mut (some u) ∧ ∀ od, Q v (upd H1 d (.frz od u))
theorem pe_fz {t : TE} (h : PE X x t) : PE X x (tFz t) := by
  refine ⟨fun pins s σ H Q I hw => ?_⟩
  refine thn (h.run pins s σ H _ I hw) fun v s1 ⟨y, H1, I1, r, q⟩ => ?_
  rcases q with q | ⟨d, u, rfl, hd, mu, q⟩
  · exact ⟨y, H1, I1, r, q⟩
  · obtain ⟨od, I2⟩ := I1.lock hd mu
    exact ⟨_, _, I2, r, q od⟩
theorem fz_ext {K : PySem.W.Frag} {H H1 : Hp} {μ μ1 : List Addr} {E : Eh} {b : Mk} {a : Addr} {u w : HO} (x : Ext K H μ H1 μ1) (q : Rp K ga b μ1 E H1) (h0 : H a = none) (ha : H1 a = some u) (hu : ¬ Fixd u) (hn : a ∉ μ1) :
    Ext K H μ (upd H1 a w) μ1 ∧ Rp K ga b μ1 E (upd H1 a w) ∧ ∀ {ds : List D} {vs : List L2.V}, RpVs K ga H1 μ1 ds vs → RpVs K ga (upd H1 a w) μ1 ds vs := by
  have hfix : ∀ c t xs, Fix K H1 c t xs → Fix K (upd H1 a w) c t xs := fix_keep fun c o e ho => by
    rw [upd_ne (fun z => by rw [z, ha] at e; cases e; exact hu ho)]
    exact e
  have hv : ∀ {ds : List D} {vs : List L2.V}, RpVs K ga H1 μ1 ds vs → RpVs K ga (upd H1 a w) μ1 ds vs := fun h => RpVs.mono' hfix (fun _ _ e => e) h
  refine ⟨⟨x.pre, fun c o e hc => ?_, fun c t xs h => hfix c t xs (x.tup c t xs h)⟩, ⟨q.len, q.nd, fun n o c e1 e2 => ?_, q.low, q.bl⟩, hv⟩
  · rw [upd_ne (fun z => by rw [z, h0] at e; cases e)]
    exact x.oth c o e hc
  · have hc : c ≠ a := fun z => hn (by rw [← z]; exact List.mem_of_getElem? e2)
    have := q.ob n o c e1 e2
    cases o with
    | lst ys => obtain ⟨zs, h, r⟩ := this; exact ⟨zs, by rw [upd_ne hc]; exact h, hv r⟩
    | dct ys => obtain ⟨zs, h, r⟩ := this; exact ⟨zs, by rw [upd_ne hc]; exact h, hv r⟩
theorem frz_read {K : PySem.W.Frag} {σ : L2.St} {H : Hp} {Q : VK} (q : tE K ga cf b (.frz ca) σ H Q) : tFz (tE K ga cf b ca) σ H Q := by
  obtain ⟨σd, E, μ, r, E', q, hs, e, k⟩ := q
  simp only [ev] at e
  split at e
  · cases e
  · rename_i r1 E1 e1
    cases e
    refine ⟨σd, E, μ, _, _, q, hs, e1, fun v H1 μ1 x1 q1 h1 => ?_⟩
    cases r1 with
    | val d => exact .inl (k v H1 μ1 x1 q1 h1)
    | new o =>
      obtain ⟨a, rfl, ho, hn, h0⟩ := h1
      refine .inr ?_
      cases o with
      | lst ys =>
        obtain ⟨zs, hz, rz⟩ := ho
        refine ⟨a, _, rfl, hz, trivial, fun od => ?_⟩
        obtain ⟨x2, q2, hv⟩ := fz_ext (w := .frz od (.lst zs)) x1 q1 h0 hz id hn
        exact k _ _ μ1 x2 q2 (RpV.lst ⟨od, upd_same⟩ (hv rz))
      | dct ys =>
        obtain ⟨zs, hz, rz⟩ := ho
        refine ⟨a, _, rfl, hz, trivial, fun od => ?_⟩
        obtain ⟨x2, q2, hv⟩ := fz_ext (w := .frz od (.dK ((ys.map (·.1)).zip zs))) x1 q1 h0 hz id hn
        exact k _ _ μ1 x2 q2 (RpV.dct ⟨od, upd_same⟩ (by simp) (hv rz))
theorem sd_frz (h : PE X x (tE X.K ga cf b ca)) : PE X x (tE X.K ga cf b (.frz ca)) := (pe_fz h).weak fun σ H Q q => frz_read q
def fzD (D : Ends) : Ends := { D with nx := fun σ' H' => D.nx σ' H' ∨ ∃ d u, H' d = some u ∧ Mut (some u) ∧ ∀ od, D.nx σ' (upd H' d (.frz od u)) }
theorem ps_fz {st : Stmt} {t : TS} (h : PS X st t) : PS X st (fun D σ H => t (fzD D) σ H) := by
  refine ⟨fun pins s σ H D I hw => ?_⟩
  refine thn (h.run pins s σ H _ I hw) fun f s1 q => ?_
  cases f with
  | next =>
    obtain ⟨σ', H', I2, q⟩ := q
    rcases q with q | ⟨d, u, hd, mu, q⟩
    · exact ⟨σ', H', I2, q⟩
    · obtain ⟨od, I3⟩ := I2.lock hd mu
      exact ⟨σ', _, I3, q od⟩
  | brk => exact q
  | cont => exact q
  | ret v => exact q
end
end Ev
end EvRev
section EvDef
namespace Ev
open PySem PySem.Spec PyProof.Rows L2

/-! ## a def's promise, where no repr is under way -/
abbrev Pr := List V → Hp → VK → Prop
structure FnG (P : Program) (w : World) (K : PySem.W.Frag) (mg : Str → Option Value) (base : Heap) (k : Nat) (f : Addr) (fd : FuncData) (ps : List Str) (sp : Pr) : Prop where
  len : ∀ vs H Q, sp vs H Q → vs.length = ps.length
  run : ∀ (A : Around) (outer : List Env) (s : Shared) (H : Hp) (args : Args) (us : List Value) (vs : List V) (Q : VK), Room k A → A.guards = some [] → Env0 P w K mg base A outer s H →
    BindsTo s fd args (ps.zip us) → Vals vs us → sp vs H Q → codeAny (model P w) A (.call (.ref f) args) (CR CX0 outer P w H s Q E0) s
section
variable {X : Cx} {k : Nat} {f : Addr} {fd : FuncData} {ps : List Str} {sp : Pr}
theorem FnG.called (F : FnG X.prog X.w X.K X.mg X.base k f fd ps sp) (hr : Room k X.A) (hg : X.A.guards = some []) (hb : Binds X.K fd ps []) : CallR X (.ref f) sp := by
  intro pins s σ H vs us Q I r h
  have hl : us.length = ps.length := by
    rw [← r.length]
    exact F.len _ _ _ h
  have hb' := hb s us I.kIn (by rw [List.append_nil]; exact hl)
  rw [List.append_nil] at hb'
  have run := F.run X.A X.stack s H ⟨us, []⟩ us vs Q hr hg I.env0 hb' r h
  refine wpAny_call (codeAny_mono run fun res s' hq => ?_)
  match res, hq with
  | .error _, hq => exact hq.elim
  | .ok (.ret _), hq => exact I.after hq
  | .ok .next, hq => exact hq.elim
  | .ok .brk, hq => exact hq.elim
  | .ok .cont, hq => exact hq.elim
theorem pe_def {n : Str} {p pos : Pos} {es : List PySem.Expr} {t : TA} (hc : CallR X (.ref f) sp) (hg : Gl X n) (hm : X.mg n = some (.ref f)) (hk : PySem.W.keepIn X.K (.ref f) = true) (ha : PA X es t) (hp : es.all plain = true) (hne : es ≠ []) (hdb : (n == ("__debug__" : Str)) = false) :
    PE X (.Call (.Name n p) es [] pos) (fun σ H Q => t σ H fun vs H1 => sp vs H1 Q) := by
  refine ⟨fun pins s σ H Q I h => wpAny_Call_Name_kw (ld_glob I hg hm ?_ hdb)⟩
  cases es with
  | nil => exact absurd rfl hne
  | cons e es =>
    rw [List.all_cons, Bool.and_eq_true] at hp
    refine PySem.W.callWith_K (h₀ := X.base) I.ok.mod.kin hk ?_ (star_cons hp.1) (star_none hp.2)
    exact thn (ha.run pos pins s σ H _ I h) fun us s1 ⟨vs, H1, I1, r, q⟩ => ⟨I1.kIn, hc pins s1 σ H1 vs us Q I1 r q⟩
theorem pe_def0 {n : Str} {p pos : Pos} (hc : CallR X (.ref f) sp) (hg : Gl X n) (hm : X.mg n = some (.ref f)) (hk : PySem.W.keepIn X.K (.ref f) = true) (hdb : (n == ("__debug__" : Str)) = false) :
    PE X (.Call (.Name n p) [] [] pos) (fun σ H Q => sp [] H Q) :=
  ⟨fun pins s σ H Q I h => wpAny_Call_Name_kw (ld_glob I hg hm (PySem.W.callWith_K0 I.kIn hk (hc pins s σ H [] [] Q I .nil h)) hdb)⟩
end
/-- what the evaluator says of a def -/
def spF (K : PySem.W.Frag) (ga : Nat → Option Addr) (np : Nat) (f : List D → Eh → Option (Rv × Eh)) : Pr := fun vs H Q =>
  vs.length = np ∧ ∃ b μ E ds r E', Rp K ga b μ E H ∧ RpVs K ga H μ ds vs ∧ f ds E = some (r, E') ∧ ∀ v H' μ', Ext K H μ H' μ' → Rp K ga b μ' E' H' → RpR K ga H H' μ' r v → Q v H'
section
variable {X : Cx} {ga : Nat → Option Addr} {cf : Cf} {b : Mk} {pos : Pos} {f : Addr} {np j : Nat}
theorem sd_call {n : Str} {p : Pos} {es : List PySem.Expr} {cs : Exs} (hc : CallR X (.ref f) (spF X.K ga np (cf j))) (hg : Gl X n) (hm : X.mg n = some (.ref f)) (hk : PySem.W.keepIn X.K (.ref f) = true) (ha : PA X es (tEs X.K ga cf b cs))
    (hp : es.all plain = true) (hdb : (n == ("__debug__" : Str)) = false) (hcs : es = [] → cs = .nil) (hnp : ∀ ds E r, cf j ds E = some r → ds.length = np) : PE X (.Call (.Name n p) es [] pos) (tE X.K ga cf b (.call j cs)) := by
  by_cases hne : es = []
  · obtain rfl := hcs hne
    subst hne
    refine (pe_def0 hc hg hm hk hdb).weak fun σ H Q q => ?_
    obtain ⟨σd, E, μ, r, E', q, hs, e, k⟩ := q
    simp only [ev, evs] at e
    exact ⟨hnp _ _ _ e, b, μ, E, [], r, E', q, .nil, e, k⟩
  · refine (pe_def hc hg hm hk ha hp hne hdb).weak fun σ H Q q => ?_
    obtain ⟨σd, E, μ, r, E', q, hs, e, k⟩ := q
    simp only [ev] at e
    split at e
    · cases e
    · rename_i ds E1 e1
      refine ⟨σd, E, μ, ds, E1, q, hs, e1, fun vs H1 μ1 x1 q1 rs => ⟨by rw [← rs.length]; exact hnp _ _ _ e, b, μ1, E1, ds, r, E', q1, rs, e, ?_⟩⟩
      exact k.back x1 q1
end
end Ev
end EvDef
section EvTgt
namespace Ev
open PySem PySem.Spec PyProof.Rows L2

section
variable {prog : Program} {w : World} {A : Around} {E : Value → Shared → Prop} {s : Shared}
theorem shiftS {I : Addr} {fp wr : List Addr} {G : Array GenState → Array GenState → Prop} {n : Nat} {P : Nat → Value → Prop} {St : Nat → Shared → Prop} (W : WalksS prog w A I fp wr G n P St) (k : Nat) (hk : k ≤ n) :
    WalksS prog w A I fp wr G (n - k) (fun i => P (k + i)) (fun i => St (k + i)) where
  sub := W.sub
  grefl := W.grefl
  gtrans := W.gtrans
  frame := fun i => W.frame (k + i)
  item := fun i s Q E hi st hQ => W.item (k + i) s Q E (by omega) st hQ
  done := fun s Q E st hQ => W.done s Q E (by rw [← show k + (n - k) = n by omega]; exact st) hQ
  self := fun i => W.self (k + i)
theorem items_list {items acc : Array Value} {k : Nat} (hk : k ≤ items.size) (h : ItemsOf (fun i v => items[k + i]? = some v) acc (items.size - k)) : acc.toList = items.toList.drop k := by
  apply List.ext_getElem?
  intro i
  rw [List.getElem?_drop]
  by_cases hi : i < acc.size
  · have e : acc[i]? = some acc[i] := Array.getElem?_eq_getElem hi
    have := h.2 i _ e
    rw [Array.getElem?_toList, Array.getElem?_toList, this, e]
  · rw [List.getElem?_eq_none (by rw [Array.length_toList]; omega), List.getElem?_eq_none (by rw [Array.length_toList]; have := h.1; omega)]
/-- a, b, *c = t: what is handed out -/
theorem unpack_star {t : Addr} {items : Array Value} {k : Nat} {Q : List Value → Shared → Prop} (hh : A.handled = none) (ht : IsTup s.heap t items) (hk : k ≤ items.size) (hz : items.size ≤ sizeLine)
    (hQ : ∀ (h' : Heap) (tk : Nat), (∀ b o, s.heap.get? b = some o → h'.get? b = some o) →
      Q (items.toList.take k ++ [.ref h'.objs.size]) { s with heap := h'.push { cls := .type "list", data := .seq (items.toList.drop k).toArray }, toks := tk }) :
    wpAny (model prog w) A (unpackItems (.ref t) (k + 1) (some k)) Q E s := by
  have hlt : t ≠ s.heap.objs.size := by
    obtain ⟨o, ho, _⟩ := ht
    exact Nat.ne_of_lt (Heap.lt_size ho)
  unfold unpackItems notIterableAtAll
  refine wpAny_bind (wpAny_bind (wpAny_specialOf ht.typeIs slot_tuple_iter.lookup (wpAny_pure ?_)))
  simp only [Bool.false_eq_true, if_false]
  refine wpAny_bind (wpAny_holding (iter_tuple ht ?_))
  have it0 : IsTupIter (s.heap.push { cls := Value.type "tuple_iterator", data := Data.fields #[Value.ref t, Value.int 0 0] }) s.heap.objs.size t 0 := ⟨_, Heap.get?_push_size _ rfl, rfl, rfl⟩
  refine wpAny_bind (wpAny_holding (draw_tuple hlt k 0 _ _ it0 (ht.push _) (by omega) fun h1 hit1 hs1 => ?_))
  rw [List.drop_zero, if_neg (by rw [List.length_take, Array.length_toList]; omega)]
  have ht1 : IsTup h1 t items := (ht.push _).extBut hs1.extBut hlt
  have W := shiftS (Walks.tuple (prog := prog) (w := w) (A := A.in1) hh s.heap.objs.size t hlt items).toS k hk
  have hT : ∀ (i : Nat) (s' : Shared), (fun i (s' : Shared) => s'.heap.IsTupleIter s.heap.objs.size t (k + i) ∧ s'.heap.IsTuple t items) i s' → s'.TypeIs (.ref s.heap.objs.size) "tuple_iterator" := fun i s' h => by
    obtain ⟨⟨o, ho, hc, _⟩, _⟩ := h
    exact ⟨o, ho, hc⟩
  have lt1 : ∀ b o, s.heap.get? b = some o → h1.get? b = some o := fun b o e => hs1.extBut b o (Nat.ne_of_lt (Heap.lt_size e)) (Heap.get?_push_of_some _ e)
  have hst : h1.IsTupleIter s.heap.objs.size t (k + 0) ∧ h1.IsTuple t items := by
    refine ⟨?_, ht1⟩
    obtain ⟨o, ho, hc, hd⟩ := hit1
    rw [Nat.zero_add] at hd
    exact ⟨o, ho, hc, hd⟩
  have szI : s.heap.objs.size < h1.objs.size := by
    obtain ⟨o, ho, _⟩ := hit1
    exact Heap.lt_size ho
  have szT : t < h1.objs.size := by
    obtain ⟨o, ho, _⟩ := ht1
    exact Heap.lt_size ho
  refine wpAny_bind (wpAny_holding (wpAny_collect_iter (.inr (.inr (.inr rfl))) W hT hst ?_ ?_ ?_ (by omega)))
  · intro b hb
    rcases List.mem_cons.mp hb with rfl | hb
    · exact szI
    · rw [List.mem_singleton.mp hb]; exact szT
  · exact List.mem_cons_self
  · intro s' acc hm hacc
    have el := items_list hk hacc
    rw [el]
    have e0 : k + 1 - 1 - k = 0 := by omega
    simp only [e0, Nat.not_lt_zero, if_false, Nat.sub_zero]
    simp only [List.take_length, List.drop_length, List.append_nil]
    refine wpAny_bind (wpAny_newObj_type (wpAny_pure ?_) ?_)
    · obtain ⟨hh', g', d', t', o'⟩ := s'
      have e1 : g' = s.gens := hm.gens
      have e2 : d' = s.drawn := hm.drawn
      have e3 : o' = s.os := hm.os
      subst e1 e2 e3
      refine hQ hh' t' fun b o e => hm.heap b o ?_ (lt1 b o e)
      rw [List.mem_singleton]
      exact Nat.ne_of_lt (Heap.lt_size e)
    · show (items.toList.drop k).toArray.size ≤ sizeLine
      rw [List.size_toArray, List.length_drop, Array.length_toList]
      omega
end

mutual
def Tg.slots : Tg → List Nat
  | .nm i => [i]
  | .tp ts => ts.slots
  | .star is j => is ++ [j]
  | .starF is j => is ++ [j]
def Tgs.slots : Tgs → List Nat
  | .nil => []
  | .cons t r => t.slots ++ r.slots
end
/-- the same but at some slots -/
def But (l : List Nat) (σ σ' : L2.St) : Prop := σ'.length = σ.length ∧ ∀ i, i ∉ l → σ'[i]? = σ[i]?
theorem But.refl (l : List Nat) (σ : L2.St) : But l σ σ := ⟨rfl, fun _ _ => rfl⟩
theorem But.set {l : List Nat} {σ : L2.St} {i : Nat} {v : Option L2.V} (h : i ∈ l) : But l σ (σ.set i v) := ⟨List.length_set, fun j hj => List.getElem?_set_ne fun (e : i = j) => hj (e ▸ h)⟩
theorem But.trans {l l1 l2 : List Nat} {σ σ1 σ2 : L2.St} (a : But l1 σ σ1) (c : But l2 σ1 σ2) (h1 : ∀ i ∈ l1, i ∈ l) (h2 : ∀ i ∈ l2, i ∈ l) : But l σ σ2 :=
  ⟨c.1.trans a.1, fun i hi => (c.2 i fun z => hi (h2 i z)).trans (a.2 i fun z => hi (h1 i z))⟩
theorem But.mono {l l1 : List Nat} {σ σ1 : L2.St} (a : But l1 σ σ1) (h1 : ∀ i ∈ l1, i ∈ l) : But l σ σ1 := ⟨a.1, fun i hi => a.2 i fun z => hi (h1 i z)⟩
section
variable (K : PySem.W.Frag) (ga : Nat → Option Addr) (b : Mk)
def tG (t : Tg) : TG := fun v σ H Q => ∃ σd E μ d σd' E', Rp K ga b μ E H ∧ RpS K ga H μ σd σ ∧ RpV K ga H μ d v ∧ asgT t d σd E = some (σd', E') ∧ ∀ σ' H' μ', Ext K H μ H' μ' → Rp K ga b μ' E' H' → RpS K ga H' μ' σd' σ' → But t.slots σ σ' → Q σ' H'
def tGs (ts : Tgs) : TGs := fun vs σ H Q => ∃ σd E μ ds σd' E', Rp K ga b μ E H ∧ RpS K ga H μ σd σ ∧ RpVs K ga H μ ds vs ∧ asgTs ts ds σd E = some (σd', E') ∧ ∀ σ' H' μ', Ext K H μ H' μ' → Rp K ga b μ' E' H' → RpS K ga H' μ' σd' σ' → But ts.slots σ σ' → Q σ' H'
end
theorem _root_.L2.PG.weak {X : Cx} {e : PySem.Expr} {t t' : TG} (h : PG X e t) (i : ∀ v σ H Q, t' v σ H Q → t v σ H Q) : PG X e t' := ⟨fun pins s σ H v u Q I r q => h.run pins s σ H v u Q I r (i v σ H Q q)⟩
theorem _root_.L2.PGs.weak {X : Cx} {e : List PySem.Expr} {t t' : TGs} (h : PGs X e t) (i : ∀ v σ H Q, t' v σ H Q → t v σ H Q) : PGs X e t' := ⟨fun pins s σ H v u Q I r q => h.run pins s σ H v u Q I r (i v σ H Q q)⟩
theorem RpS.set {K : PySem.W.Frag} {ga : Nat → Option Addr} {H : Hp} {μ : List Addr} {σd : Sd} {σ : L2.St} {i : Nat} {d : D} {v : L2.V} (h : RpS K ga H μ σd σ) (r : RpV K ga H μ d v) : RpS K ga H μ (σd.set i (some d)) (σ.set i (some v)) := by
  refine ⟨by rw [List.length_set, List.length_set]; exact h.len, fun j e he => ?_⟩
  by_cases hj : i = j
  · subst hj
    by_cases hl : i < σd.length
    · rw [List.getElem?_set_self hl] at he
      cases he
      exact ⟨v, List.getElem?_set_self (by rw [h.len]; exact hl), r⟩
    · rw [List.getElem?_eq_none (by rw [List.length_set]; omega)] at he
      cases he
  · rw [List.getElem?_set_ne hj] at he ⊢
    exact h.get j e he
def setV (σ : L2.St) : List Nat → List L2.V → L2.St
  | i :: r, v :: s => setV (σ.set i (some v)) r s
  | _, _ => σ
theorem RpS.setAll {K : PySem.W.Frag} {ga : Nat → Option Addr} {H : Hp} {μ : List Addr} : ∀ {is : List Nat} {ds : List D} {vs : List L2.V} {σd : Sd} {σ : L2.St}, RpS K ga H μ σd σ → RpVs K ga H μ ds vs → RpS K ga H μ (setAll σd is ds) (setV σ is vs)
  | [], _, _, _, _, h, _ => by unfold Ev.setAll setV; exact h
  | _ :: _, _, _, _, _, h, .nil => by unfold Ev.setAll setV; exact h
  | i :: is, _, _, _, _, h, .cons r t => by unfold Ev.setAll setV; exact RpS.setAll (h.set r) t
theorem setV_but {l : List Nat} : ∀ {is : List Nat} {vs : List L2.V} {σ : L2.St}, (∀ i ∈ is, i ∈ l) → But l σ (setV σ is vs)
  | [], _, _, _ => by unfold setV; exact But.refl _ _
  | _ :: _, [], _, _ => by unfold setV; exact But.refl _ _
  | i :: is, v :: vs, σ, h => by
    unfold setV
    exact (But.set (h i List.mem_cons_self)).trans (setV_but fun j hj => h j (List.mem_cons_of_mem _ hj)) (fun _ h => h) fun _ h => h
theorem setV_app {j : Nat} {v : L2.V} : ∀ {is : List Nat} {vs : List L2.V} {σ : L2.St}, is.length = vs.length → setV σ (is ++ [j]) (vs ++ [v]) = (setV σ is vs).set j (some v)
  | [], [], _, _ => rfl
  | [], _ :: _, _, h => by simp at h
  | _ :: _, [], _, h => by simp at h
  | i :: is, w :: vs, σ, h => by
    simp only [List.cons_append, setV]
    exact setV_app (by simpa using h)
theorem setAll_take : ∀ {is : List Nat} {ds : List D} {σ : Sd}, setAll σ is (ds.take is.length) = setAll σ is ds
  | [], _, _ => by simp [setAll]
  | _ :: _, [], _ => by simp [setAll]
  | i :: is, d :: ds, σ => by
    simp only [List.length_cons, List.take_succ_cons, setAll]
    exact setAll_take
/-- names, the last one starred -/
def isStar (ok : Nat → PySem.Expr → Bool) : List Nat → Nat → List PySem.Expr → Bool
  | [], j, l => match l with
    | [.Starred e _] => ok j e
    | _ => false
  | i :: is, j, l => match l with
    | .Name x p :: l => ok i (.Name x p) && isStar ok is j l
    | _ => false
section
variable {X : Cx} {ga : Nat → Option Addr} {b : Mk} {pos : Pos}
theorem g_nm {i : Nat} {x : Str} (h : PG X (.Name x pos) (gName i)) : PG X (.Name x pos) (tG X.K ga b (.nm i)) := by
  refine h.weak fun v σ H Q q => ?_
  obtain ⟨σd, E, μ, d, σd', E', q, hs, r, e, k⟩ := q
  simp only [asgT] at e
  cases e
  exact k _ H μ (Ext.refl _ _ _) q (hs.set r) (But.set List.mem_cons_self)
theorem g_nil : PGs X [] (tGs X.K ga b .nil) := by
  refine pgs_nil.weak fun v σ H Q q => ?_
  obtain ⟨σd, E, μ, d, σd', E', q, hs, r, e, k⟩ := q
  simp only [asgTs] at e
  split at e
  · cases e
    cases r
    exact ⟨rfl, k _ H μ (Ext.refl _ _ _) q hs (But.refl _ _)⟩
  · cases e
theorem g_cons {x : PySem.Expr} {l : List PySem.Expr} {t : Tg} {ts : Tgs} (h1 : PG X x (tG X.K ga b t)) (h2 : PGs X l (tGs X.K ga b ts)) (hp : plain x = true) : PGs X (x :: l) (tGs X.K ga b (.cons t ts)) := by
  have hs : (assignEach (x :: l) X.env).map (·.2) = assign x X.env :: (assignEach l X.env).map (·.2) := by
    cases x <;> first | rfl | cases hp
  refine (pgs_cons h1 h2 hs).weak fun v σ H Q q => ?_
  obtain ⟨σd, E, μ, d, σd', E', q, hs, r, e, k⟩ := q
  simp only [asgTs] at e
  split at e
  · rename_i d1 ds
    split at e
    · rename_i σ1 E1 e1
      cases r with
      | cons r1 r2 =>
        refine ⟨_, _, rfl, σd, E, μ, d1, σ1, E1, q, hs, r1, e1, fun σ' H' μ' x' q' hs' b1 => ?_⟩
        exact ⟨σ1, E1, μ', ds, σd', E', q', hs', r2.mono x', e, fun σ2 H2 μ2 x2 q2 hs2 b2 => k σ2 H2 μ2 (x'.trans q' x2) q2 hs2 (b1.trans b2 (fun i hi => List.mem_append_left _ hi) fun i hi => List.mem_append_right _ hi)⟩
    · cases e
  · cases e
theorem plain_each {env : Env} : ∀ {l : List PySem.Expr}, l.all plain = true → (assignEach l env).findIdx? (·.1) = none ∧ (assignEach l env).length = l.length
  | [], _ => ⟨rfl, rfl⟩
  | e :: l, h => by
    rw [List.all_cons, Bool.and_eq_true] at h
    obtain ⟨h1, h2⟩ := plain_each (env := env) h.2
    have he : assignEach (e :: l) env = (false, assign e env) :: assignEach l env := by
      have h0 := h.1
      cases e <;> first | rfl | cases h0
    rw [he]
    refine ⟨?_, by rw [List.length_cons, List.length_cons, h2]⟩
    rw [List.findIdx?_cons, h1]
    rfl
theorem g_tp {l : List PySem.Expr} {k : Nat} {ts : Tgs} (hc : X.calm = true) (h : PGs X l (tGs X.K ga b ts)) (hp : l.all plain = true) (hl : ∀ ds σ E r, asgTs ts ds σ E = some r → ds.length = l.length) : PG X (.Tuple l k pos) (tG X.K ga b (.tp ts)) := by
  obtain ⟨h1, h2⟩ := plain_each (env := X.env) hp
  refine (pg_tup (n := l.length) hc h h2 h1).weak fun v σ H Q q => ?_
  obtain ⟨σd, E, μ, d, σd', E', q, hs, r, e, kk⟩ := q
  simp only [asgT] at e
  split at e
  · rename_i ds
    cases r with
    | tup hq rs =>
      refine ⟨_, _, rfl, hq, by rw [← rs.length]; exact hl _ _ _ _ e, ?_⟩
      exact ⟨σd, E, μ, ds, σd', E', q, hs, rs, e, kk⟩
  · cases e
theorem star_run {ok : Nat → PySem.Expr → Bool} (hok : ∀ i e, ok i e = true → PG X e (gName i)) : ∀ {is : List Nat} {j : Nat} {l : List PySem.Expr}, isStar ok is j l = true →
    (assignEach l X.env).findIdx? (·.1) = some is.length ∧ (assignEach l X.env).length = is.length + 1 ∧
    ∀ (pins : List (Addr × Obj)) (s : Shared) (σ : L2.St) (H : Hp) (vs : List V) (us : List Value) (Q : L2.St → Hp → Prop), L2.Inv X pins σ H s → Vals vs us → vs.length = is.length + 1 → Q (setV σ (is ++ [j]) vs) H →
      wpAny (model X.prog X.w) X.A (assignInOrder ((assignEach l X.env).map (·.2)) us) (fun _ s' => ∃ σ' H', L2.Inv X pins σ' H' s' ∧ Q σ' H') X.xe s
  | [], j, l, h => by
    unfold isStar at h
    split at h
    · rename_i e p
      refine ⟨rfl, rfl, fun pins s σ H vs us Q I r hl q => ?_⟩
      cases r with
      | nil => simp at hl
      | cons r rr =>
        rename_i v u vs us
        obtain rfl : vs = [] := by
          cases vs with
          | nil => rfl
          | cons _ _ => simp at hl
        cases rr
        refine assignInOrder_cons (thn ((hok j e h).run pins s σ H v u _ I r q) fun _ s1 ⟨σ1, H1, I1, q1⟩ => ?_)
        exact assignInOrder_nil ⟨σ1, H1, I1, q1⟩
    · cases h
  | i :: is, j, l, h => by
    unfold isStar at h
    split at h
    · rename_i x p l
      rw [Bool.and_eq_true] at h
      obtain ⟨h1, h2, h3⟩ := star_run hok h.2
      refine ⟨?_, ?_, fun pins s σ H vs us Q I r hl q => ?_⟩
      · show ((false, assign (.Name x p) X.env) :: assignEach l X.env).findIdx? (·.1) = _
        rw [List.findIdx?_cons, h1]
        rfl
      · show ((false, assign (.Name x p) X.env) :: assignEach l X.env).length = _
        rw [List.length_cons, h2, List.length_cons]
      · cases r with
        | nil => simp at hl
        | cons r rr =>
          rename_i v u vs us
          refine assignInOrder_cons (thn ((hok i _ h.1).run pins s σ H v u (fun σ' H' => σ' = σ.set i (some v) ∧ H' = H) I r ⟨rfl, rfl⟩) fun _ s1 ⟨σ1, H1, I1, e1, e2⟩ => ?_)
          subst e1 e2
          exact h3 pins s1 _ _ vs us Q I1 rr (by simpa using hl) q
    · cases h
theorem g_star {ok : Nat → PySem.Expr → Bool} {is : List Nat} {j k : Nat} {l : List PySem.Expr} (hc : X.calm = true) (hok : ∀ i e, ok i e = true → PG X e (gName i)) (h : isStar ok is j l = true) : PG X (.Tuple l k pos) (tG X.K ga b (.star is j)) := by
  obtain ⟨h1, h2, h3⟩ := star_run hok h
  refine ⟨fun pins s σ H v u Q I r q => ?_⟩
  obtain ⟨σd, E, μ, d, σd', E', q, hs, rd, e, kk⟩ := q
  simp only [asgT] at e
  split at e
  · rename_i ds
    split at e
    · rename_i hl
      cases e
      cases rd with
      | tup hq rs =>
        rename_i a xs
        cases r
        obtain ⟨its, rv, ht, hz⟩ := I.tuple hq
        have el : its.length = ds.length := by rw [← rv.length, ← rs.length]
        rw [assign_Tuple]
        refine wpAny_bind (wpAny_standAt ?_)
        unfold unpack
        rw [h2, h1]
        refine wpAny_bind (wpAny_holding (unpack_star (I.ok.hd hc) ht (by rw [List.size_toArray]; omega) (by rw [List.size_toArray]; have := rv.length; omega) fun h' tk hk => ?_))
        have I1 : L2.Inv X pins σ H { s with heap := h', toks := tk } := I.kept (t' := tk) hk
        have hf : H h'.objs.size = none := I1.hok.fresh (Nat.le_refl _)
        have dl : (xs.drop is.length).length ≤ sizeLine := by rw [List.length_drop]; have := rv.length; omega
        have I2 : L2.Inv X pins σ (upd H h'.objs.size (.lst (xs.drop is.length))) { s with heap := h'.push { cls := .type "list", data := .seq (its.toArray.toList.drop is.length).toArray }, toks := tk } := by
          refine I1.laid (t' := tk) (fun b u e => Heap.get?_push_of_some _ e) (Nat.le_refl _) ?_
          exact ⟨dl, its.drop is.length, 0, rv.drop _, Heap.get?_push_size _ rfl⟩
        have tl : (xs.take is.length).length = is.length := by rw [List.length_take, ← rs.length]; omega
        refine h3 pins _ σ _ (xs.take is.length ++ [.ref h'.objs.size]) _ Q I2 ?_ (by rw [List.length_append, tl]; rfl) ?_
        · exact (rv.take _).append (.cons rfl .nil)
        · rw [setV_app tl.symm]
          have q1 := q.fresh (u := .lst (xs.drop is.length)) hf
          have x1 : Ext X.K H μ (upd H h'.objs.size (.lst (xs.drop is.length))) μ := Ext.fresh q hf
          have rr : RpR X.K ga H (upd H h'.objs.size (.lst (xs.drop is.length))) μ (.new (.lst (ds.drop is.length))) (.ref h'.objs.size) := ⟨_, rfl, ⟨_, upd_same, (rs.drop _).fresh hf⟩, q.notin hf, hf⟩
          obtain ⟨μ2, y1, up, q2, rv2⟩ := reg_ok x1 q1 rr
          refine kk _ _ μ2 y1 q2 (RpS.set ?_ rv2) ((setV_but (fun i hi => List.mem_append_left _ hi)).trans (But.set (List.mem_append_right _ List.mem_cons_self)) (fun _ h => h) fun _ h => h)
          have := RpS.setAll (is := is) (hs.mono y1) ((rs.take is.length).mono y1)
          rw [setAll_take] at this
          exact this
    · cases e
  · cases e
theorem g_starF {ok : Nat → PySem.Expr → Bool} {is : List Nat} {j k : Nat} {l : List PySem.Expr} (hc : X.calm = true) (hok : ∀ i e, ok i e = true → PG X e (gName i)) (h : isStar ok is j l = true) : PG X (.Tuple l k pos) (tG X.K ga b (.starF is j)) := by
  obtain ⟨h1, h2, h3⟩ := star_run hok h
  refine ⟨fun pins s σ H v u Q I r q => ?_⟩
  obtain ⟨σd, E, μ, d, σd', E', q, hs, rd, e, kk⟩ := q
  simp only [asgT] at e
  split at e
  · rename_i ds
    split at e
    · rename_i hl
      cases e
      cases rd with
      | tup hq rs =>
        rename_i a xs
        cases r
        obtain ⟨its, rv, ht, hz⟩ := I.tuple hq
        have el : its.length = ds.length := by rw [← rv.length, ← rs.length]
        rw [assign_Tuple]
        refine wpAny_bind (wpAny_standAt ?_)
        unfold unpack
        rw [h2, h1]
        refine wpAny_bind (wpAny_holding (unpack_star (I.ok.hd hc) ht (by rw [List.size_toArray]; omega) (by rw [List.size_toArray]; have := rv.length; omega) fun h' tk hk => ?_))
        have I1 : L2.Inv X pins σ H { s with heap := h', toks := tk } := I.kept (t' := tk) hk
        have hf : H h'.objs.size = none := I1.hok.fresh (Nat.le_refl _)
        have dl : (xs.drop is.length).length ≤ sizeLine := by rw [List.length_drop]; have := rv.length; omega
        have I2 : L2.Inv X pins σ (upd H h'.objs.size (.lst (xs.drop is.length))) { s with heap := h'.push { cls := .type "list", data := .seq (its.toArray.toList.drop is.length).toArray }, toks := tk } := by
          refine I1.laid (t' := tk) (fun b u e => Heap.get?_push_of_some _ e) (Nat.le_refl _) ?_
          exact ⟨dl, its.drop is.length, 0, rv.drop _, Heap.get?_push_size _ rfl⟩
        have tl : (xs.take is.length).length = is.length := by rw [List.length_take, ← rs.length]; omega
        obtain ⟨od, I3⟩ := I2.lock upd_same trivial
        rw [upd_upd] at I3
        refine h3 pins _ σ _ (xs.take is.length ++ [.ref h'.objs.size]) _ Q I3 ?_ (by rw [List.length_append, tl]; rfl) ?_
        · exact (rv.take _).append (.cons rfl .nil)
        · rw [setV_app tl.symm]
          have q1 := q.fresh (u := .frz od (.lst (xs.drop is.length))) hf
          have x1 : Ext X.K H μ (upd H h'.objs.size (.frz od (.lst (xs.drop is.length)))) μ := Ext.fresh q hf
          have rv2 : RpV X.K ga (upd H h'.objs.size (.frz od (.lst (xs.drop is.length)))) μ (.lst (ds.drop is.length)) (.ref h'.objs.size) := RpV.lst ⟨od, upd_same⟩ ((rs.drop _).fresh hf)
          refine kk _ _ μ x1 q1 (RpS.set ?_ rv2) ((setV_but (fun i hi => List.mem_append_left _ hi)).trans (But.set (List.mem_append_right _ List.mem_cons_self)) (fun _ h => h) fun _ h => h)
          have := RpS.setAll (is := is) (hs.mono x1) ((rs.take is.length).mono x1)
          rw [setAll_take] at this
          exact this
    · cases e
  · cases e
end
end Ev
end EvTgt
section EvIter
namespace Ev
open PySem PySem.Spec PyProof.Rows L2

/-! ## what is walked -/
/-- what stays of a heap that is looked at from H0: objects, tuples, what is younger than H0 -/
structure ExtF (K : PySem.W.Frag) (H0 H : Hp) (μ : List Addr) (H' : Hp) (μ' : List Addr) : Prop where
  pre : ∃ l, μ' = μ ++ l
  oth : ∀ a o, H0 a = none → H a = some o → a ∉ μ → H' a = some o
  tup : ∀ a t xs, Fix K H a t xs → Fix K H' a t xs
theorem ExtF.at {K : PySem.W.Frag} {H0 H H' : Hp} {μ μ' : List Addr} (x : ExtF K H0 H μ H' μ') : ∀ (n : Nat) (a : Addr), μ[n]? = some a → μ'[n]? = some a := fun n a e => by
  obtain ⟨l, rfl⟩ := x.pre
  rw [List.getElem?_append_left (by rw [List.getElem?_eq_some_iff] at e; exact e.1)]
  exact e
theorem Ext.f {K : PySem.W.Frag} {H0 H H' : Hp} {μ μ' : List Addr} (x : Ext K H μ H' μ') : ExtF K H0 H μ H' μ' := ⟨let ⟨l, e, _⟩ := x.pre; ⟨l, e⟩, fun a o _ h hn => x.oth a o h hn, x.tup⟩
/-- the walk J gives the things ds, as long as its source stands -/
def ItOk (K : PySem.W.Frag) (ga : Nat → Option Addr) (b : Mk) (J : L2.It) (ds : List D) (src : Option (Nat × List D)) (H0 H1 : Hp) (μ1 : List Addr) : Prop :=
  ∀ (H : Hp) (μ : List Addr) (E : Eh), ExtF K H0 H1 μ1 H μ → Rp K ga b μ E H → chk src E = true → ∀ i : Nat,
    (∀ d, ds[i]? = some d → J.go i H ∧ ∀ x H', J.yld i H x H' → Ext K H μ H' μ ∧ Rp K ga b μ E H' ∧ RpV K ga H' μ d x) ∧ (ds.length ≤ i → J.stop i H)
section
variable (K : PySem.W.Frag) (ga : Nat → Option Addr) (cf : Cf) (b : Mk)
def tI (it : It) : TI := fun σ H R => ∃ σd E μ ds src E', Rp K ga b μ E H ∧ RpS K ga H μ σd σ ∧ evi cf b.b it σd E = some (ds, src, E') ∧ ∀ J H' μ', Ext K H μ H' μ' → Rp K ga b μ' E' H' → ItOk K ga b J ds src H H' μ' → R J H'
end
theorem _root_.L2.PI.weak {X : Cx} {tg e : PySem.Expr} {t t' : TI} (h : PI X tg e t) (i : ∀ σ H R, t' σ H R → t σ H R) : PI X tg e t' := ⟨fun pins s σ H R I q => h.run pins s σ H R I (i σ H R q)⟩
theorem _root_.L2.PI.either {X : Cx} {tg e : PySem.Expr} {t t' : TI} (h : PI X tg e t) (h' : PI X tg e t') : PI X tg e (fun σ H R => t σ H R ∨ t' σ H R) := ⟨fun pins s σ H R I q => q.elim (h.run pins s σ H R I) (h'.run pins s σ H R I)⟩
section
variable {K : PySem.W.Frag} {ga : Nat → Option Addr} {b : Mk} {H H0 H1 : Hp} {μ μ1 : List Addr} {E E1 : Eh}
/-- a list or tuple that is walked stands as long as the look says so -/
theorem src_stands {r : Rv} {v : L2.V} {ds : List D} {n : Option Nat} (q1 : Rp K ga b μ1 E1 H1) (h : RpR K ga H0 H1 μ1 r v) (e : asS E1 r = some (ds, n)) :
    ∃ a, v = .ref a ∧ ((∀ es, r ≠ .val (.tup es)) ∧ (∀ (H : Hp) (μ : List Addr) (E : Eh), ExtF K H0 H1 μ1 H μ → Rp K ga b μ E H → chk (n.map fun n => (n, ds)) E = true → ∃ xs, SqL K H a xs ∧ RpVs K ga H μ ds xs) ∨
      r = .val (.tup ds) ∧ ∀ (H : Hp) (μ : List Addr), ExtF K H0 H1 μ1 H μ → ∃ xs, SqT K H a xs ∧ RpVs K ga H μ ds xs) := by
  cases r with
  | val d => cases d with
    | ref m =>
      cases h with
      | ref hm =>
        rename_i a
        have stands : ∀ (H : Hp) (μ : List Addr) (E : Eh), ExtF K H0 H1 μ1 H μ → Rp K ga b μ E H → chk (some (m, ds)) E = true → ∃ xs, SqL K H a xs ∧ RpVs K ga H μ ds xs := fun H μ E x q hk => by
          unfold chk at hk
          simp only at hk
          split at hk
          · rename_i ys en
            have := (D.eqbs_iff _ _).mp hk
            subst this
            obtain ⟨xs, hx, rs⟩ := q.ob m _ _ en (x.at m a hm)
            exact ⟨xs, SqL.of hx, rs⟩
          · cases hk
        have e : (match E1[m]? with | some (.lst xs) => some (xs, some m) | _ => none) = some (ds, n) := e
        split at e
        · cases e
          exact ⟨a, rfl, .inl ⟨fun _ z => (by cases z), stands⟩⟩
        · cases e
    | scr ns =>
      cases e
      cases h with
      | scr hz => exact ⟨_, rfl, .inl ⟨fun _ z => (by cases z), fun H μ E x q _ => ⟨_, FzL.sq (x.tup _ .lst _ hz), rp_ints ns⟩⟩⟩
    | lst es =>
      cases e
      cases h with
      | lst hz rs => exact ⟨_, rfl, .inl ⟨fun _ z => (by cases z), fun H μ E x q _ => ⟨_, .inl (.inr (x.tup _ .frz _ hz)), RpVs.mono' x.tup x.at rs⟩⟩⟩
    | tup es =>
      cases e
      cases h with
      | tup hq rs => exact ⟨_, rfl, .inr ⟨rfl, fun H μ x => ⟨_, x.tup _ .tup _ hq, RpVs.mono' x.tup x.at rs⟩⟩⟩
    | _ => cases e
  | new o => cases o with
    | lst ys =>
      cases e
      obtain ⟨a, rfl, ⟨xs, hx, r⟩, hn, h0⟩ := h
      exact ⟨a, rfl, .inl ⟨fun _ z => (by cases z), fun H μ E x q _ => ⟨xs, SqL.of (x.oth _ _ h0 hx hn), RpVs.mono' x.tup x.at r⟩⟩⟩
    | _ => cases e
theorem itl_ok {a : Addr} {ds : List D} {src : Option (Nat × List D)} (h : ∀ (H : Hp) (μ : List Addr) (E : Eh), ExtF K H0 H1 μ1 H μ → Rp K ga b μ E H → chk src E = true → ∃ xs, SqL K H a xs ∧ RpVs K ga H μ ds xs) : ItOk K ga b (Itl K a) ds src H0 H1 μ1 := by
  intro H μ E x q hk i
  obtain ⟨xs, hq, rs⟩ := h H μ E x q hk
  refine ⟨fun d hd => ?_, fun hl => ⟨xs, hq, by rw [← rs.length]; exact hl⟩⟩
  obtain ⟨v, hv, rv⟩ := rs.get hd
  refine ⟨⟨xs, v, hq, hv⟩, fun y H' hy => ?_⟩
  obtain ⟨e1, e2⟩ := hy
  rw [e1]
  have e3 := e2 xs hq
  rw [hv] at e3
  cases e3
  exact ⟨Ext.refl _ _ _, q, rv⟩
theorem itt_ok {a : Addr} {ds : List D} {src : Option (Nat × List D)} (h : ∀ (H : Hp) (μ : List Addr), ExtF K H0 H1 μ1 H μ → ∃ xs, SqT K H a xs ∧ RpVs K ga H μ ds xs) : ItOk K ga b (Itt K a) ds src H0 H1 μ1 := by
  intro H μ E x q hk i
  obtain ⟨xs, hq, rs⟩ := h H μ x
  refine ⟨fun d hd => ?_, fun hl => ⟨xs, hq, by rw [← rs.length]; exact hl⟩⟩
  obtain ⟨v, hv, rv⟩ := rs.get hd
  refine ⟨⟨xs, v, hq, hv⟩, fun y H' hy => ?_⟩
  obtain ⟨e1, e2⟩ := hy
  rw [e1]
  have e3 := e2 xs hq
  rw [hv] at e3
  cases e3
  exact ⟨Ext.refl _ _ _, q, rv⟩
theorem enum_get : ∀ (k : Nat) (ds : List D) (i : Nat) (d : D), (enumD k ds)[i]? = some d → ∃ d', ds[i]? = some d' ∧ d = .tup [.int (k + i : Nat), d']
  | _, [], _, _, h => by simp [enumD] at h
  | k, e :: r, 0, d, h => by
    simp [enumD] at h
    exact ⟨e, rfl, h.symm⟩
  | k, e :: r, i + 1, d, h => by
    simp only [enumD, List.getElem?_cons_succ] at h
    obtain ⟨d', h1, h2⟩ := enum_get (k + 1) r i d h
    exact ⟨d', by simpa using h1, by rw [h2, show k + 1 + i = k + (i + 1) by omega]⟩
theorem enum_len : ∀ (k : Nat) (ds : List D), (enumD k ds).length = ds.length
  | _, [] => rfl
  | k, _ :: r => by simp only [enumD, List.length_cons, enum_len (k + 1) r]
theorem ite_ok {a : Addr} {ds : List D} {src : Option (Nat × List D)} (h : ∀ (H : Hp) (μ : List Addr) (E : Eh), ExtF K H0 H1 μ1 H μ → Rp K ga b μ E H → chk src E = true → ∃ xs, SqL K H a xs ∧ RpVs K ga H μ ds xs) : ItOk K ga b (Ite K a) (enumD 0 ds) src H0 H1 μ1 := by
  intro H μ E x q hk i
  obtain ⟨xs, hq, rs⟩ := h H μ E x q hk
  refine ⟨fun d hd => ?_, fun hl => ⟨xs, hq, by rw [← rs.length]; rw [enum_len] at hl; exact hl⟩⟩
  obtain ⟨d', hd', rfl⟩ := enum_get 0 ds i d hd
  obtain ⟨v, hv, rv⟩ := rs.get hd'
  refine ⟨⟨xs, v, hq, hv⟩, fun y H' hy => ?_⟩
  obtain ⟨T, w, rfl, hT, rfl, e2⟩ := hy
  have e3 := e2 xs hq
  rw [hv] at e3
  cases e3
  refine ⟨Ext.fresh q hT, q.fresh hT, .tup (SqT.of upd_same) ?_⟩
  rw [Nat.zero_add]
  exact .cons (.int _) (.cons (rv.fresh hT) .nil)
theorem range_get : ∀ (n : Nat) (lo : Int) (i : Nat) (d : D), (rangeD lo n)[i]? = some d → i < n ∧ d = .int (lo + i)
  | 0, _, _, _, h => by simp [rangeD] at h
  | n + 1, lo, 0, d, h => by
    simp [rangeD] at h
    exact ⟨by omega, by rw [← h]; simp⟩
  | n + 1, lo, i + 1, d, h => by
    simp only [rangeD, List.getElem?_cons_succ] at h
    obtain ⟨h1, h2⟩ := range_get n (lo + 1) i d h
    refine ⟨by omega, ?_⟩
    rw [h2]
    have : lo + 1 + (i : Int) = lo + ((i + 1 : Nat) : Int) := by omega
    rw [this]
theorem range_len : ∀ (n : Nat) (lo : Int), (rangeD lo n).length = n
  | 0, _ => rfl
  | n + 1, lo => by simp only [rangeD, List.length_cons, range_len n]
theorem itr_ok {lo : Int} {n : Nat} : ItOk K ga b (Itr lo n) (rangeD lo n) none H0 H1 μ1 := by
  intro H μ E x q hk i
  refine ⟨fun d hd => ?_, fun hl => by rw [range_len] at hl; exact hl⟩
  obtain ⟨h1, rfl⟩ := range_get n lo i d hd
  refine ⟨h1, fun y H' hy => ?_⟩
  obtain ⟨rfl, rfl⟩ := hy
  exact ⟨Ext.refl _ _ _, q, .int _⟩
theorem its_ok {z : Str} : ItOk K ga b (Its z) (z.cps.toList.map fun c => .str (sign c)) none H0 H1 μ1 := by
  intro H μ E x q hk i
  refine ⟨fun d hd => ?_, fun hl => by rw [List.length_map, Array.length_toList] at hl; exact hl⟩
  rw [List.getElem?_map, Array.getElem?_toList] at hd
  obtain ⟨c, hc, rfl⟩ := Option.map_eq_some_iff.mp hd
  refine ⟨(Array.getElem?_eq_some_iff.mp hc).1, fun y H' hy => ?_⟩
  obtain ⟨rfl, c', hc', rfl⟩ := hy
  rw [hc] at hc'
  cases hc'
  exact ⟨Ext.refl _ _ _, q, .str _⟩
theorem itk_ok {d : Addr} {o : Obj} {ks : List Key} {xs : List L2.V} (h : H1 d = some (.frz o (.dK (ks.zip xs)))) (hl : ks.length = xs.length) : ItOk K ga b (Itk d o (ks.zip xs)) (ks.map keyD) none H0 H1 μ1 := by
  intro H μ E x q hk i
  have hz : H d = some (.frz o (.dK (ks.zip xs))) := x.tup d (.dco o ks) xs h
  have hzl : (ks.zip xs).length = ks.length := by rw [List.length_zip, ← hl, Nat.min_self]
  refine ⟨fun e he => ?_, fun h2 => ⟨hz, by rw [hzl]; rw [List.length_map] at h2; exact h2⟩⟩
  rw [List.getElem?_map] at he
  obtain ⟨k, ek, rfl⟩ := Option.map_eq_some_iff.mp he
  have hi : i < ks.length := (List.getElem?_eq_some_iff.mp ek).1
  refine ⟨⟨hz, by rw [hzl]; exact hi⟩, fun y H' hy => ?_⟩
  obtain ⟨rfl, k', v, e1, rfl⟩ := hy
  have e2 : (ks.zip xs)[i]? = some (k, xs[i]'(by omega)) := by
    rw [List.getElem?_zip_eq_some]
    exact ⟨ek, List.getElem?_eq_getElem (by omega)⟩
  rw [e2] at e1
  cases e1
  refine ⟨Ext.refl _ _ _, q, ?_⟩
  cases k with
  | inl i => exact .int i
  | inr x => exact .str x
end
def Exs.len : Exs → Nat
  | .nil => 0
  | .cons _ r => r.len + 1
theorem evs_len {cf : Cf} {b : Mk} : ∀ {cs : Exs} {σ : Sd} {E E' : Eh} {ds : List D}, evs cf b.b cs σ E = some (ds, E') → ds.length = cs.len
  | .nil, _, _, _, _, h => by
    simp only [evs] at h
    cases h
    rfl
  | .cons e r, _, _, _, _, h => by
    simp only [evs] at h
    split at h
    · cases h
    · split at h
      · cases h
      · rename_i e2
        cases h
        simp only [List.length_cons, Exs.len, evs_len e2]
section
variable {X : Cx} {ga : Nat → Option Addr} {cf : Cf} {b : Mk} {x y tg : PySem.Expr} {ca : Ex} {pos p : Pos}
theorem i_seq (h : PE X x (tE X.K ga cf b ca)) : PI X tg x (tI X.K ga cf b (.seq ca)) := by
  refine ((((pi_list h).either (pi_tup h)).either (pi_str h)).either (pi_keys h)).weak fun σ H R q => ?_
  obtain ⟨σd, E, μ, ds, src, E', q, hs, e, k⟩ := q
  simp only [evi] at e
  split at e
  · cases e
  · rename_i r E1 e1
    split at e
    · rename_i xs n es
      cases e
      by_cases ht : ∃ es', r = .val (.tup es')
      · refine .inl (.inl (.inr ⟨σd, E, μ, r, E', q, hs, e1, fun v H1 μ1 x1 q1 h1 => ?_⟩))
        obtain ⟨a, rfl, h2⟩ := src_stands q1 h1 es
        rcases h2 with ⟨h2, _⟩ | ⟨h2, h3⟩
        · obtain ⟨es', he⟩ := ht
          exact absurd he (h2 es')
        · obtain ⟨xs', hx, _⟩ := h3 H1 μ1 (Ext.refl _ _ _).f
          exact ⟨a, rfl, ⟨xs', hx⟩, k _ H1 μ1 x1 q1 (itt_ok h3)⟩
      · refine .inl (.inl (.inl ⟨σd, E, μ, r, E', q, hs, e1, fun v H1 μ1 x1 q1 h1 => ?_⟩))
        obtain ⟨a, xs', rfl, rs, hq⟩ := asS_ok q1 h1 es
        obtain ⟨a', ea, h2⟩ := src_stands q1 h1 es
        cases ea
        rcases h2 with ⟨_, h3⟩ | ⟨h2, _⟩
        · rcases hq with ⟨hq, _⟩ | ⟨_, hq⟩
          · exact ⟨a, rfl, ⟨xs', hq⟩, k _ H1 μ1 x1 q1 (itl_ok h3)⟩
          · exact absurd ⟨_, hq⟩ ht
        · exact absurd ⟨_, h2⟩ ht
    · split at e
      · split at e
        · cases e
          refine .inl (.inr ⟨σd, E, μ, _, E', q, hs, e1, fun v H1 μ1 x1 q1 h1 => ?_⟩)
          cases h1
          exact ⟨_, rfl, k _ H1 μ1 x1 q1 its_ok⟩
        · cases e
      · cases e
        refine .inr ⟨σd, E, μ, _, E', q, hs, e1, fun v H1 μ1 x1 q1 h1 => ?_⟩
        cases h1 with
        | dct hz hl rs =>
          obtain ⟨o, hz⟩ := hz
          exact ⟨_, o, rfl, .inl ⟨_, hz, k _ H1 μ1 x1 q1 (itk_ok hz (by rw [hl, rs.length]))⟩⟩
      · cases e
theorem i_range1 (hg : Gl X "range") (hm : X.mg "range" = none) (h : PA X [x] (tEs X.K ga cf b (.cons ca .nil))) (hp : plain x = true) : PI X tg (.Call (.Name "range" p) [x] [] pos) (tI X.K ga cf b (.range (.cons ca .nil))) := by
  refine (pi_range1 hg hm h (star_cons hp)).weak fun σ H R q => ?_
  obtain ⟨σd, E, μ, ds, src, E', q, hs, e, k⟩ := q
  simp only [evi] at e
  split at e
  · rename_i j E1 e1
    split at e
    · rename_i hz
      cases e
      refine ⟨σd, E, μ, _, E', q, hs, e1, fun vs H1 μ1 x1 q1 rs => ?_⟩
      cases rs with
      | cons r1 r2 =>
        cases r2
        cases r1
        exact ⟨j, rfl, hz.1, hz.2, k _ H1 μ1 x1 q1 itr_ok⟩
    · cases e
  · rename_i i j E1 e1
    exact absurd (evs_len e1) (by simp [Exs.len])
  · cases e
theorem i_range2 {cb : Ex} (hg : Gl X "range") (hm : X.mg "range" = none) (h : PA X [x, y] (tEs X.K ga cf b (.cons ca (.cons cb .nil)))) (hp : plain x = true) (hp2 : plain y = true) : PI X tg (.Call (.Name "range" p) [x, y] [] pos) (tI X.K ga cf b (.range (.cons ca (.cons cb .nil)))) := by
  have s2 : starEach [y] X.env = [(false, eval y X.env)] := star_cons hp2
  refine (pi_range2 hg hm h (by rw [star_cons hp, s2]) s2).weak fun σ H R q => ?_
  obtain ⟨σd, E, μ, ds, src, E', q, hs, e, k⟩ := q
  simp only [evi] at e
  split at e
  · rename_i j E1 e1
    exact absurd (evs_len e1) (by simp [Exs.len])
  · rename_i i j E1 e1
    split at e
    · rename_i hz
      cases e
      refine ⟨σd, E, μ, _, E', q, hs, e1, fun vs H1 μ1 x1 q1 rs => ?_⟩
      cases rs with
      | cons r1 r2 =>
        cases r2 with
        | cons r2 r3 =>
          cases r3
          cases r1
          cases r2
          exact ⟨i, j, rfl, hz, k _ H1 μ1 x1 q1 itr_ok⟩
    · cases e
  · cases e
theorem i_enum {elts : List PySem.Expr} {kk : Nat} {tpos : Pos} (hg : Gl X "enumerate") (hm : X.mg "enumerate" = none) (h : PA X [x] (tEr X.K ga cf b (.cons ca .nil))) (hp : plain x = true) :
    PI X (.Tuple elts kk tpos) (.Call (.Name "enumerate" p) [x] [] pos) (tI X.K ga cf b (.enum ca)) := by
  refine (pi_enum hg hm h (star_cons hp)).weak fun σ H R q => ?_
  obtain ⟨σd, E, μ, ds, src, E', q, hs, e, k⟩ := q
  simp only [evi] at e
  split at e
  · cases e
  · rename_i r E1 e1
    split at e
    · cases e
    · rename_i hnt
      split at e
      · rename_i xs n es
        cases e
        refine ⟨σd, E, μ, [r], E', q, hs, by simp only [evr, e1], fun vs H1 μ1 x1 q1 rs => ?_⟩
        cases rs with
        | cons h1 ht =>
          cases ht
          obtain ⟨a, xs', rfl, rs, hq⟩ := asS_ok q1 h1 es
          obtain ⟨a', ea, h2⟩ := src_stands q1 h1 es
          cases ea
          rcases hq with ⟨hq, _⟩ | ⟨_, hq⟩
          · rcases h2 with ⟨_, h3⟩ | ⟨h2, _⟩
            · exact ⟨a, xs', rfl, hq, k _ H1 μ1 x1 q1 (ite_ok h3)⟩
            · exact absurd h2 (hnt _)
          · exact absurd hq (hnt _)
      · cases e
end
end Ev
end EvIter
section EvComp
namespace Ev
open PySem PySem.Spec PyProof.Rows L2

section
variable {K : PySem.W.Frag} {ga : Nat → Option Addr} {b : Mk} {H H0 H1 : Hp} {μ μ0 μ1 : List Addr} {E E1 : Eh}
/-- a list beside the objects is changed -/
theorem Rp.side {D : Addr} {xs ys : List L2.V} (q : Rp K ga b μ E H) (hD : D ∉ μ) (hl : H D = some (.lst xs)) : Rp K ga b μ E (upd H D (.lst ys)) := by
  have hv : ∀ {ds : List Ev.D} {vs : List L2.V}, RpVs K ga H μ ds vs → RpVs K ga (upd H D (.lst ys)) μ ds vs := fun h => h.onto hl id
  refine ⟨q.len, q.nd, fun n o a e1 e2 => ?_, q.low, q.bl⟩
  have hn : a ≠ D := fun z => hD (z ▸ List.mem_of_getElem? e2)
  have := q.ob n o a e1 e2
  cases o with
  | lst xs => obtain ⟨zs, h, r⟩ := this; exact ⟨zs, by rw [upd_ne hn]; exact h, hv r⟩
  | dct xs => obtain ⟨zs, h, r⟩ := this; exact ⟨zs, by rw [upd_ne hn]; exact h, hv r⟩
/-- as Ext, but what is at A may turn -/
structure ExtB (K : PySem.W.Frag) (A : Addr) (H : Hp) (μ : List Addr) (H' : Hp) (μ' : List Addr) : Prop where
  pre : ∃ l, μ' = μ ++ l ∧ ∀ a ∈ l, H a = none
  oth : ∀ a o, a ≠ A → H a = some o → a ∉ μ → H' a = some o
  tup : ∀ a t xs, Fix K H a t xs → Fix K H' a t xs
theorem ExtB.at {A : Addr} (x : ExtB K A H μ H1 μ1) : ∀ (n : Nat) (a : Addr), μ[n]? = some a → μ1[n]? = some a := fun n a e => by
  obtain ⟨l, rfl, _⟩ := x.pre
  rw [List.getElem?_append_left (by rw [List.getElem?_eq_some_iff] at e; exact e.1)]
  exact e
theorem Ext.toB {A : Addr} (x : Ext K H μ H1 μ1) : ExtB K A H μ H1 μ1 := ⟨x.pre, fun a o _ => x.oth a o, x.tup⟩
theorem ExtB.all {A : Addr} (x : ExtB K A H μ H1 μ1) (h : H A = none) : Ext K H μ H1 μ1 := ⟨x.pre, fun a o e => x.oth a o (ne_of_none e h) e, x.tup⟩
theorem ExtB.f {A : Addr} (x : ExtB K A H μ H1 μ1) (h : ∀ o, H A = some o → H0 A ≠ none) : ExtF K H0 H μ H1 μ1 :=
  ⟨let ⟨l, e, _⟩ := x.pre; ⟨l, e⟩, fun a o h0 e => x.oth a o (fun z => h o (z ▸ e) (z ▸ h0)) e, x.tup⟩
theorem ExtB.more {A : Addr} {b1 : Mk} {E' : Eh} {H2 : Hp} {μ2 : List Addr} {u : HO} (x : ExtB K A H μ H1 μ1) (q : Rp K ga b1 μ1 E' H1) (hA : H1 A = some u) (y : Ext K H1 μ1 H2 μ2) : ExtB K A H μ H2 μ2 := by
  have z1 := x.pre
  have z2 := y.pre
  obtain ⟨l1, e1, n1⟩ := z1
  obtain ⟨l2, e2, n2⟩ := z2
  refine ⟨⟨l1 ++ l2, by rw [e2, e1, List.append_assoc], fun a ha => ?_⟩, fun a o hne h hn => ?_, fun a t xs h => y.tup a t xs (x.tup a t xs h)⟩
  · rcases List.mem_append.mp ha with ha | ha
    · exact n1 a ha
    · have h1 := n2 a ha
      have hne : a ≠ A := fun z => by rw [z, hA] at h1; cases h1
      cases e : H a with
      | none => rfl
      | some o =>
        by_cases hm : a ∈ μ
        · exact absurd (e1 ▸ List.mem_append_left l1 hm) (q.notin h1)
        · rw [x.oth a o hne e hm] at h1; cases h1
  · refine y.oth a o (x.oth a o hne h hn) fun hm => ?_
    rw [e1] at hm
    rcases List.mem_append.mp hm with hm | hm
    · exact hn hm
    · rw [n1 a hm] at h; cases h
theorem ExtB.side {A : Addr} {xs ys : List L2.V} (x : ExtB K A H1 μ1 H μ) (hl : H A = some (.lst xs)) : ExtB K A H1 μ1 (upd H A (.lst ys)) μ := by
  refine ⟨x.pre, fun a o hne h hn => by rw [upd_ne hne]; exact x.oth a o hne h hn, fun a t zs h => fix_keep (fun c w e hw => ?_) a t zs (x.tup a t zs h)⟩
  have hc : c ≠ A := fun z => by
    rw [z, hl] at e
    cases e
    exact hw
  rw [upd_ne hc]
  exact e
theorem Ext.notin {a : Addr} {o : HO} (x : Ext K H μ H1 μ1) (h : H a = some o) (hn : a ∉ μ) : a ∉ μ1 := fun hm => by
  have z := x.pre
  obtain ⟨l, rfl, n⟩ := z
  rcases List.mem_append.mp hm with hm | hm
  · exact hn hm
  · rw [n a hm] at h; cases h
theorem Ext.none {a : Addr} {b' : Mk} {E' : Eh} (x : Ext K H μ H1 μ1) (q : Rp K ga b' μ1 E' H1) (h : H1 a = none) : H a = none := by
  cases e : H a with
  | none => rfl
  | some u =>
    by_cases hm : a ∈ μ
    · have z := x.pre
      obtain ⟨l, e1, _⟩ := z
      exact absurd (e1 ▸ List.mem_append_left l hm) (q.notin h)
    · rw [x.oth a u e hm] at h; cases h
theorem wipe_get {σ : L2.St} {i : Nat} : ∀ {vs : List Nat}, (wipe σ vs)[i]? = if i ∈ vs then (σ[i]?).map (fun _ => none) else σ[i]?
  | [] => by simp [wipe]
  | v :: vs => by
    unfold wipe
    by_cases hi : v = i
    · subst hi
      by_cases hl : v < σ.length
      · rw [List.getElem?_set_self (by rw [wipe_length]; exact hl), if_pos List.mem_cons_self, List.getElem?_eq_getElem hl]
        rfl
      · rw [List.getElem?_eq_none (by rw [List.length_set, wipe_length]; omega), if_pos List.mem_cons_self, List.getElem?_eq_none (by omega)]
        rfl
    · rw [List.getElem?_set_ne hi, wipe_get]
      by_cases hm : i ∈ vs
      · rw [if_pos hm, if_pos (List.mem_cons_of_mem _ hm)]
      · rw [if_neg hm, if_neg (by simp only [List.mem_cons, not_or]; exact ⟨fun e => hi e.symm, hm⟩)]
theorem wipe_but {l vs : List Nat} {σ σ2 : L2.St} (h : But l (wipe σ vs) σ2) (hl : ∀ i ∈ l, i ∈ vs) : wipe σ2 vs = wipe σ vs := by
  apply List.ext_getElem?
  intro i
  rw [wipe_get, wipe_get]
  have h2 := h.2 i
  by_cases hm : i ∈ vs
  · rw [if_pos hm, if_pos hm]
    have hlen : σ2.length = σ.length := by rw [h.1, wipe_length]
    by_cases hi : i < σ.length
    · rw [List.getElem?_eq_getElem hi, List.getElem?_eq_getElem (by rw [hlen]; exact hi)]
      rfl
    · rw [List.getElem?_eq_none (by omega), List.getElem?_eq_none (by omega)]
  · rw [if_neg hm, if_neg hm, h2 fun z => hm (hl i z), wipe_get, if_neg hm]
theorem wipeD_len (σ : Sd) : ∀ vs : List Nat, (wipeD σ vs).length = σ.length
  | [] => rfl
  | v :: vs => by unfold wipeD; rw [List.length_set, wipeD_len σ vs]
theorem wipeD_some {σ : Sd} {i : Nat} {x : Ev.D} : ∀ {vs : List Nat}, (wipeD σ vs)[i]? = some (some x) → σ[i]? = some (some x) ∧ i ∉ vs
  | [], h => ⟨h, by simp⟩
  | v :: vs, h => by
    unfold wipeD at h
    by_cases hi : v = i
    · subst hi
      by_cases hv : v < (wipeD σ vs).length
      · rw [List.getElem?_set_self hv] at h; cases h
      · rw [List.getElem?_eq_none (by rw [List.length_set]; omega)] at h; cases h
    · rw [List.getElem?_set_ne hi] at h
      obtain ⟨h1, h2⟩ := wipeD_some h
      exact ⟨h1, by simp only [List.mem_cons, not_or]; exact ⟨fun e => hi e.symm, h2⟩⟩
theorem RpS.wipe {σd : Sd} {σ : L2.St} (h : RpS K ga H μ σd σ) (vs : List Nat) : RpS K ga H μ (wipeD σd vs) (L2.wipe σ vs) := by
  refine ⟨by rw [wipe_length, wipeD_len]; exact h.len, fun i d e => ?_⟩
  obtain ⟨e1, e2⟩ := wipeD_some e
  obtain ⟨v, h1, h2⟩ := h.get i d e1
  exact ⟨v, by rw [wipe_get, if_neg e2]; exact h1, h2⟩
end
section
variable (K : PySem.W.Frag) (ga : Nat → Option Addr) (cf : Cf) (b : Mk)
/-- a comprehension's test, or none -/
def tCo (c : Exo) : TT := fun σ H Q => ∃ σd E μ t E', Rp K ga b μ E H ∧ RpS K ga H μ σd σ ∧ evc cf b.b c σd E = some (t, E') ∧ ∀ H' μ', Ext K H μ H' μ' → Rp K ga b μ' E' H' → Q t H'
/-- what stands between two turns: D holds what is made so far -/
def Lw (tg : D → Sd → Eh → Option (Sd × Eh)) (ts : Sd → Eh → Option (Bool × Eh)) (el : Sd → Eh → Option (Ev.D × Eh)) (src : Option (Nat × List Ev.D)) (σd : Sd) (ds xs : List Ev.D) (E2 : Eh) (H1 : Hp) (μ1 : List Addr) (A : Addr) (i m : Nat) (H : Hp) : Prop :=
  ∃ μ E acc av, ExtB K A H1 μ1 H μ ∧ Rp K ga b μ E H ∧ A ∉ μ ∧ H A = some (.lst av) ∧ RpVs K ga H μ acc av ∧ lcL tg ts el (chk src) σd (ds.drop i) acc E = some (xs, E2) ∧ i + m = ds.length
def Lend (xs : List Ev.D) (E2 : Eh) (H1 : Hp) (μ1 : List Addr) (A : Addr) (H : Hp) : Prop := ∃ μ av, ExtB K A H1 μ1 H μ ∧ Rp K ga b μ E2 H ∧ A ∉ μ ∧ H A = some (.lst av) ∧ RpVs K ga H μ xs av
end
section
variable {K : PySem.W.Frag} {ga : Nat → Option Addr} {cf : Cf} {b : Mk} {H1 : Hp} {μ1 : List Addr}
theorem RpS.monoB {A : Addr} {H : Hp} {μ : List Addr} {σd : Sd} {σ : L2.St} (r : RpS K ga H1 μ1 σd σ) (x : ExtB K A H1 μ1 H μ) : RpS K ga H μ σd σ :=
  ⟨r.len, fun i d e => let ⟨v, h1, h2⟩ := r.get i d e; ⟨v, h1, RpV.mono' x.tup x.at h2⟩⟩
theorem lc_turns {H0 : Hp} {J : L2.It} {ds xs : List Ev.D} {src : Option (Nat × List Ev.D)} {σd : Sd} {σ : L2.St} {E2 : Eh} {A : Addr} {tg : Tg} {c : Exo} {elt : Ex} {vs : List Nat} (hJ : ItOk K ga b J ds src H0 H1 μ1) (h0 : ∀ o, H1 A = some o → H0 A ≠ none) (hs : RpS K ga H1 μ1 σd (wipe σ vs)) (hv : ∀ i ∈ tg.slots, i ∈ vs)
    {Fin : Hp → Prop} (hF : ∀ H, Lend K ga b xs E2 H1 μ1 A H → Fin H) :
    ∀ i m H, Lw K ga b (asgT tg) (fun σ E => evc cf b.b c σ E) (fun σ E => (ev cf b.b elt σ E).map fun p => reg p.1 p.2) src σd ds xs E2 H1 μ1 A i m H →
      (J.stop i H ∧ Fin H) ∨ (J.go i H ∧ ∃ Nx : Hp → Prop, (∀ H', Nx H' → ∃ m', m' < m ∧ Lw K ga b (asgT tg) (fun σ E => evc cf b.b c σ E) (fun σ E => (ev cf b.b elt σ E).map fun p => reg p.1 p.2) src σd ds xs E2 H1 μ1 A (i + 1) m' H') ∧
        ∀ x H', J.yld i H x H' → tG K ga b tg x (wipe σ vs) H' fun σ2 H2 => wipe σ2 vs = wipe σ vs ∧ tCo K ga cf b c σ2 H2 fun t H3 =>
          if t = true then tE K ga cf b elt σ2 H3 fun y H4 => ∃ acc, H4 A = some (.lst acc) ∧ acc.length < sizeLine ∧ Nx (upd H4 A (.lst (acc ++ [y]))) else Nx H3) := by
  intro i m H hW
  obtain ⟨μ, E, acc, av, x, q, hA, hl, rs, e, em⟩ := hW
  by_cases hi : i < ds.length
  · have hd : ds.drop i = ds[i] :: ds.drop (i + 1) := List.drop_eq_getElem_cons hi
    rw [hd] at e
    simp only [lcL] at e
    split at e
    · rename_i hk
      obtain ⟨hgo, hy⟩ := (hJ H μ E (x.f h0) q hk i).1 ds[i] (List.getElem?_eq_getElem hi)
      split at e
      · cases e
      · rename_i σ1 Ea ea
        split at e
        · cases e
        · -- the test says no
          rename_i Eb eb
          refine .inr ⟨hgo, fun H' => Lw K ga b (asgT tg) (fun σ E => evc cf b.b c σ E) (fun σ E => (ev cf b.b elt σ E).map fun p => reg p.1 p.2) src σd ds xs E2 H1 μ1 A (i + 1) (m - 1) H', fun H' h => ⟨m - 1, by omega, h⟩, fun y H' yy => ?_⟩
          obtain ⟨xa, qa, ra⟩ := hy y H' yy
          have xA := x.more q hl xa
          have lA := xa.oth _ _ hl hA
          refine ⟨σd, E, μ, ds[i], σ1, Ea, qa, hs.monoB xA, ra, ea, fun σ2 H2 μ2 xb qb hs2 bt => ⟨wipe_but bt hv, ?_⟩⟩
          have xB := xA.more qa lA xb
          have lB := xb.oth _ _ lA hA
          have nB := xb.notin lA hA
          refine ⟨σ1, Ea, μ2, false, Eb, qb, hs2, eb, fun H3 μ3 xc qc => ?_⟩
          refine iteF ?_
          have xC := xB.more qb lB xc
          exact ⟨μ3, Eb, acc, av, xC, qc, xc.notin lB nB, xc.oth _ _ lB nB, RpVs.mono' xc.tup xc.at (RpVs.mono' xb.tup xb.at (RpVs.mono' xa.tup xa.at rs)), e, by omega⟩
        · rename_i Eb eb
          split at e
          · cases e
          · rename_i y0 Ec ec
            split at e
            · rename_i hz
              obtain ⟨⟨r0, Er⟩, er, ereg⟩ := Option.map_eq_some_iff.mp ec
              refine .inr ⟨hgo, fun H' => Lw K ga b (asgT tg) (fun σ E => evc cf b.b c σ E) (fun σ E => (ev cf b.b elt σ E).map fun p => reg p.1 p.2) src σd ds xs E2 H1 μ1 A (i + 1) (m - 1) H', fun H' h => ⟨m - 1, by omega, h⟩, fun y H' yy => ?_⟩
              obtain ⟨xa, qa, ra⟩ := hy y H' yy
              have xA := x.more q hl xa
              have lA := xa.oth _ _ hl hA
              refine ⟨σd, E, μ, ds[i], σ1, Ea, qa, hs.monoB xA, ra, ea, fun σ2 H2 μ2 xb qb hs2 bt => ⟨wipe_but bt hv, ?_⟩⟩
              have xB := xA.more qa lA xb
              have lB := xb.oth _ _ lA hA
              have nB := xb.notin lA hA
              refine ⟨σ1, Ea, μ2, true, Eb, qb, hs2, eb, fun H3 μ3 xc qc => ?_⟩
              refine iteT ?_
              have xC := xB.more qb lB xc
              have lC := xc.oth _ _ lB nB
              have nC := xc.notin lB nB
              refine ⟨σ1, Eb, μ3, r0, Er, qc, hs2.mono xc, er, fun v H4 μ4 xd qd hr => ?_⟩
              obtain ⟨μ5, y5, up5, q5, rv5⟩ := reg_ok xd qd hr
              have e5 : (reg r0 Er).1 = y0 := congrArg Prod.fst ereg
              have e6 : (reg r0 Er).2 = Ec := congrArg Prod.snd ereg
              rw [e5] at rv5
              rw [e6] at q5
              have lD := y5.oth _ _ lC nC
              have nD := y5.notin lC nC
              have xD := xC.more qc lC y5
              have rsD : RpVs K ga H4 μ5 acc av := RpVs.mono' y5.tup y5.at (RpVs.mono' xc.tup xc.at (RpVs.mono' xb.tup xb.at (RpVs.mono' xa.tup xa.at rs)))
              refine ⟨av, lD, by rw [← rs.length]; exact hz, ?_⟩
              refine ⟨μ5, Ec, acc ++ [y0], av ++ [v], xD.side lD, q5.side nD lD, nD, upd_same, ?_, e, by omega⟩
              exact (rsD.append (.cons rv5 .nil)).onto lD id
            · cases e
    · cases e
  · have hd : ds.drop i = [] := List.drop_eq_nil_of_le (by omega)
    rw [hd] at e
    simp only [lcL] at e
    split at e
    · rename_i hk
      cases e
      exact .inl ⟨(hJ H μ _ (x.f h0) q hk i).2 (by omega), hF H ⟨μ, av, x, q, hA, hl, rs⟩⟩
    · cases e
end
section
variable {X : Cx} {ga : Nat → Option Addr} {cf : Cf} {b : Mk} {x y tg iter : PySem.Expr} {pos : Pos}
/-- the reading of a comprehension -/
theorem lc_read {it : It} {t : Tg} {c : Exo} {elt : Ex} {own : List (Str × Nat)} (hv : ∀ i ∈ t.slots, i ∈ own.map (·.2)) (σ : L2.St) (H : Hp) (Q : VK) (q : tE X.K ga cf b (.lc elt t it c own) σ H Q) :
    tLc (tI X.K ga cf b it) (tG X.K ga b t) (tCo X.K ga cf b c) (tE X.K ga cf b elt) (own.map (·.2)) σ H Q := by
  obtain ⟨σd, E, μ, r, E', q, hs, e, k⟩ := q
  simp only [ev] at e
  split at e
  · cases e
  · rename_i ds src E1 e1
    split at e
    · rename_i xs E2 e2
      cases e
      refine ⟨σd, E, μ, ds, src, E1, q, hs, e1, fun J H1 μ1 x1 q1 hJ => ?_⟩
      intro A hA
      have hno : ∀ o, H1 A = some o → H A ≠ none := fun o h => by rw [hA] at h; cases h
      refine ⟨Lw X.K ga b (asgT t) (fun σ E => evc cf b.b c σ E) (fun σ E => (ev cf b.b elt σ E).map fun p => reg p.1 p.2) src (wipeD σd (own.map (·.2))) ds xs E' H1 μ1 A, ⟨ds.length, μ1, E1, [], [], (Ext.fresh q1 hA).toB, q1.fresh hA, q1.notin hA, upd_same, .nil, by rw [List.drop_zero]; exact e2, by omega⟩, ?_⟩
      refine lc_turns hJ hno ((hs.mono x1).wipe _) hv fun H' hE => ?_
      obtain ⟨μ', av, xB, q', hn, hl, rs⟩ := hE
      have xx := xB.all hA
      exact k _ H' μ' (x1.trans q1 xx) q' ⟨A, rfl, ⟨av, hl, rs⟩, hn, x1.none q1 hA⟩
    · cases e
theorem evc_none : (fun (_ : Sd) (E : Eh) => some (true, E)) = fun σ E => evc cf b.b .none σ E := by
  funext σ E
  simp only [evc]
theorem ExtB.then {K : PySem.W.Frag} {A : Addr} {H H1 H2 : Hp} {μ μ1 μ2 : List Addr} {b1 : Mk} {E' : Eh} {u : HO} (x : ExtB K A H μ H1 μ1) (q : Rp K ga b1 μ1 E' H1) (hA : H1 A = some u) (y : ExtB K A H1 μ1 H2 μ2) : ExtB K A H μ H2 μ2 := by
  have z1 := x.pre
  have z2 := y.pre
  obtain ⟨l1, e1, n1⟩ := z1
  obtain ⟨l2, e2, n2⟩ := z2
  refine ⟨⟨l1 ++ l2, by rw [e2, e1, List.append_assoc], fun a ha => ?_⟩, fun a o hne h hn => ?_, fun a t xs h => y.tup a t xs (x.tup a t xs h)⟩
  · rcases List.mem_append.mp ha with ha | ha
    · exact n1 a ha
    · have h1 := n2 a ha
      have hne : a ≠ A := fun z => by rw [z, hA] at h1; cases h1
      cases e : H a with
      | none => rfl
      | some o =>
        by_cases hm : a ∈ μ
        · exact absurd (e1 ▸ List.mem_append_left l1 hm) (q.notin h1)
        · rw [x.oth a o hne e hm] at h1; cases h1
  · refine y.oth a o hne (x.oth a o hne h hn) fun hm => ?_
    rw [e1] at hm
    rcases List.mem_append.mp hm with hm | hm
    · exact hn hm
    · rw [n1 a hm] at h; cases h
theorem lc2_read {it it1 : It} {t t1 : Tg} {elt : Ex} {own : List (Str × Nat)} {own1 : List Nat} (hv : ∀ i ∈ t.slots, i ∈ own.map (·.2)) (hv1 : ∀ i ∈ t1.slots, i ∈ own1) (σ : L2.St) (H : Hp) (Q : VK) (q : tE X.K ga cf b (.lc2 elt t it t1 it1 own own1) σ H Q) :
    tLc2 (tI X.K ga cf b it) (tG X.K ga b t) (tCo X.K ga cf b .none) (tI X.K ga cf b it1) (tG X.K ga b t1) (tCo X.K ga cf b .none) (tE X.K ga cf b elt) (own.map (·.2)) own1 σ H Q := by
  obtain ⟨σd, E, μ, r, E', q, hs, e, k⟩ := q
  simp only [ev] at e
  split at e
  · cases e
  · rename_i ds src E1 e1
    split at e
    · rename_i xs E2 e2
      cases e
      refine ⟨σd, E, μ, ds, src, E1, q, hs, e1, fun J H1 μ1 x1 q1 hJ => ?_⟩
      intro A hA
      have hno : ∀ o, H1 A = some o → H A ≠ none := fun o h => by rw [hA] at h; cases h
      refine ⟨fun i m H => ∃ μ E acc av, ExtB X.K A H1 μ1 H μ ∧ Rp X.K ga b μ E H ∧ A ∉ μ ∧ H A = some (.lst av) ∧ RpVs X.K ga H μ acc av ∧ lc2L (asgT t) (innerL (asgT t1) (fun σ E => evi cf b.b it1 σ E) (fun σ E => (ev cf b.b elt σ E).map fun p => reg p.1 p.2) own1) (chk src) (wipeD σd (own.map (·.2))) (ds.drop i) acc E = some (xs, E') ∧ i + m = ds.length,
        ⟨ds.length, μ1, E1, [], [], (Ext.fresh q1 hA).toB, q1.fresh hA, q1.notin hA, upd_same, .nil, by rw [List.drop_zero]; exact e2, by omega⟩, ?_⟩
      intro i m H2 hW
      obtain ⟨μ2, Ew, acc, av, xw, qw, hAw, hlw, rsw, ew, em⟩ := hW
      by_cases hi : i < ds.length
      · have hd : ds.drop i = ds[i] :: ds.drop (i + 1) := List.drop_eq_getElem_cons hi
        rw [hd] at ew
        simp only [lc2L] at ew
        split at ew
        · rename_i hk
          obtain ⟨hgo, hy⟩ := (hJ H2 μ2 Ew (xw.f hno) qw hk i).1 ds[i] (List.getElem?_eq_getElem hi)
          split at ew
          · cases ew
          · rename_i σ1 Ea ea
            split at ew
            · cases ew
            · rename_i acc2 Eb eb
              refine .inr ⟨hgo, fun H' => ∃ μ E acc av, ExtB X.K A H1 μ1 H' μ ∧ Rp X.K ga b μ E H' ∧ A ∉ μ ∧ H' A = some (.lst av) ∧ RpVs X.K ga H' μ acc av ∧ lc2L (asgT t) (innerL (asgT t1) (fun σ E => evi cf b.b it1 σ E) (fun σ E => (ev cf b.b elt σ E).map fun p => reg p.1 p.2) own1) (chk src) (wipeD σd (own.map (·.2))) (ds.drop (i + 1)) acc E = some (xs, E') ∧ i + 1 + (m - 1) = ds.length, fun H' h => ⟨m - 1, by omega, h⟩, fun y H' yy => ?_⟩
              obtain ⟨xa, qa, ra⟩ := hy y H' yy
              have xA := xw.more qw hlw xa
              have lA := xa.oth _ _ hlw hAw
              refine ⟨_, Ew, μ2, ds[i], σ1, Ea, qa, (((hs.mono x1).wipe (own.map (·.2))).monoB xw).mono xa, ra, ea, fun σ2 H3 μ3 xb qb hs2 bt => ⟨wipe_but bt hv, ?_⟩⟩
              have xB := xA.more qa lA xb
              have lB := xb.oth _ _ lA hAw
              have nB := xb.notin lA hAw
              refine ⟨σ1, Ea, μ3, true, Ea, qb, hs2, by simp only [evc], fun H4 μ4 xc qc => ?_⟩
              refine iteT ?_
              have xC := xB.more qb lB xc
              have lC := xc.oth _ _ lB nB
              have nC := xc.notin lB nB
              unfold innerL at eb
              rw [evc_none (cf := cf) (b := b)] at eb
              split at eb
              · cases eb
              · rename_i ds1 src1 Ei ei
                refine ⟨σ1, Ea, μ4, ds1, src1, Ei, qc, hs2.mono xc, ei, fun J1 H5 μ5 xd qd hJ1 => ?_⟩
                have xD := xC.more qc lC xd
                have lD := xd.oth _ _ lC nC
                have nD := xd.notin lC nC
                refine ⟨Lw X.K ga b (asgT t1) (fun σ E => evc cf b.b .none σ E) (fun σ E => (ev cf b.b elt σ E).map fun p => reg p.1 p.2) src1 (wipeD σ1 own1) ds1 acc2 Eb H5 μ5 A, ⟨ds1.length, μ5, Ei, acc, av, (Ext.refl _ _ _).toB, qd, nD, lD, ?_, by rw [List.drop_zero]; exact eb, by omega⟩, ?_⟩
                · exact RpVs.mono' xd.tup xd.at (RpVs.mono' xc.tup xc.at (RpVs.mono' xb.tup xb.at (RpVs.mono' xa.tup xa.at rsw)))
                · refine lc_turns hJ1 (fun o _ => by rw [lC]; exact fun z => by cases z) (((hs2.mono xc).mono xd).wipe own1) hv1 fun H6 hE => ?_
                  obtain ⟨μ6, av6, xe, qe, ne, le, re⟩ := hE
                  exact ⟨μ6, Eb, acc2, av6, xD.then qd lD xe, qe, ne, le, re, ew, by omega⟩
        · cases ew
      · have hd : ds.drop i = [] := List.drop_eq_nil_of_le (by omega)
        rw [hd] at ew
        simp only [lc2L] at ew
        split at ew
        · rename_i hk
          cases ew
          refine .inl ⟨(hJ H2 μ2 _ (xw.f hno) qw hk i).2 (by omega), ?_⟩
          have xx := xw.all hA
          exact k _ H2 μ2 (x1.trans q1 xx) qw ⟨A, rfl, ⟨av, hlw, rsw⟩, hAw, x1.none q1 hA⟩
        · cases ew
    · cases e
end
end Ev
end EvComp
section EvStm
namespace Ev
open PySem PySem.Spec PyProof.Rows L2

/-! ## displayed dicts -/
section
variable {K : PySem.W.Frag} {ga : Nat → Option Addr} {cf : Cf} {b : Mk}
def trs (K : PySem.W.Frag) (ga : Nat → Option Addr) (cf : Cf) (b : Mk) : Exs → Exs → List (TE × TE)
  | .cons k ks, vs => match vs with
    | .cons v vs => (tE K ga cf b k, tE K ga cf b v) :: trs K ga cf b ks vs
    | .nil => []
  | .nil, _ => []
theorem pairs_read : ∀ {ks vs : Exs} {σ : L2.St} {σd : Sd} {H : Hp} {μ : List Addr} {E E' : Eh} {kvs : List (Key × D)} {Q : List (V × V) → Hp → Prop}, Rp K ga b μ E H → RpS K ga H μ σd σ → evp cf b.b ks vs σd E = some (kvs, E') →
    (∀ H' μ' xs, Ext K H μ H' μ' → Rp K ga b μ' E' H' → RpVs K ga H' μ' (kvs.map (·.2)) xs → Q (((kvs.map (·.1)).zip xs).map fun p => (kV p.1, p.2)) H') → tPairs (trs K ga cf b ks vs) σ H Q
  | .nil, .nil, σ, σd, H, μ, E, E', kvs, Q, q, hs, e, k => by
    simp only [evp] at e
    cases e
    exact k H μ [] (Ext.refl _ _ _) q .nil
  | .nil, .cons _ _, _, _, _, _, _, _, _, _, _, _, e, _ => by simp only [evp] at e; cases e
  | .cons _ _, .nil, _, _, _, _, _, _, _, _, _, _, e, _ => by simp only [evp] at e; cases e
  | .cons c ks, .cons v vs, σ, σd, H, μ, E, E', kvs, Q, q, hs, e, k => by
    simp only [evp] at e
    split at e
    · rename_i x
      split at e
      · cases e
      · rename_i r E1 e1
        split at e
        · cases e
        · rename_i kvs2 E2 e2
          cases e
          refine ⟨σd, E, μ, .val (.str x), E, q, hs, rfl, fun w0 H0 μ0 x0 q0 h0 => ?_⟩
          cases h0
          refine ⟨σd, E, μ0, r, E1, q0, hs.mono x0, e1, fun w1 H1 μ1 x1 q1 h1 => ?_⟩
          obtain ⟨μ2, y1, up, q2, rv⟩ := reg_ok x1 q1 h1
          refine pairs_read q2 ((hs.mono x0).mono y1) e2 fun H3 μ3 xs x3 q3 rs => ?_
          exact k H3 μ3 (w1 :: xs) ((x0.trans q0 y1).trans q2 x3) q3 (.cons (rv.mono x3) rs)
    · cases e
def trx (K : PySem.W.Frag) (ga : Nat → Option Addr) (cf : Cf) (b : Mk) : Exs → List (TE × TE)
  | .nil => []
  | .cons k r => match r with
    | .nil => []
    | .cons v r2 => (tE K ga cf b k, tE K ga cf b v) :: trx K ga cf b r2
theorem pairs_readX : ∀ {es : Exs} {σ : L2.St} {σd : Sd} {H : Hp} {μ : List Addr} {E E' : Eh} {kvs : List (Key × D)} {Q : List (V × V) → Hp → Prop}, Rp K ga b μ E H → RpS K ga H μ σd σ → evx cf b.b es σd E = some (kvs, E') →
    (∀ H' μ' xs, Ext K H μ H' μ' → Rp K ga b μ' E' H' → RpVs K ga H' μ' (kvs.map (·.2)) xs → Q (((kvs.map (·.1)).zip xs).map fun p => (kV p.1, p.2)) H') → tPairs (trx K ga cf b es) σ H Q
  | .nil, σ, σd, H, μ, E, E', kvs, Q, q, hs, e, k => by
    simp only [evx] at e
    cases e
    exact k H μ [] (Ext.refl _ _ _) q .nil
  | .cons _ .nil, _, _, _, _, _, _, _, _, _, _, e, _ => by simp only [evx] at e; cases e
  | .cons c (.cons v r2), σ, σd, H, μ, E, E', kvs, Q, q, hs, e, k => by
    simp only [evx] at e
    split at e
    · rename_i kd E0 e0
      split at e
      · rename_i key ek
        split at e
        · cases e
        · rename_i r E1 e1
          split at e
          · cases e
          · rename_i kvs2 E2 e2
            cases e
            refine ⟨σd, E, μ, .val kd, E0, q, hs, e0, fun w0 H0 μ0 x0 q0 h0 => ?_⟩
            refine ⟨σd, E0, μ0, r, E1, q0, hs.mono x0, e1, fun w1 H1 μ1 x1 q1 h1 => ?_⟩
            obtain ⟨μ2, y1, up, q2, rv⟩ := reg_ok x1 q1 h1
            refine pairs_readX q2 ((hs.mono x0).mono y1) e2 fun H3 μ3 xs x3 q3 rs => ?_
            have hk := key_ok h0 ek
            subst hk
            exact k H3 μ3 (w1 :: xs) ((x0.trans q0 y1).trans q2 x3) q3 (.cons (rv.mono x3) rs)
      · cases e
    · cases e
theorem merge_ok {H : Hp} {μ : List Addr} : ∀ {kvs : List (Key × D)} {xs : List L2.V} {acc : List (Key × D)} {ys : List L2.V}, RpVs K ga H μ (kvs.map (·.2)) xs → RpVs K ga H μ (acc.map (·.2)) ys →
    ∃ zs, mergeK ((acc.map (·.1)).zip ys) ((kvs.map (·.1)).zip xs) = (((kvs.foldl (fun m p => put m p.1 p.2) acc).map (·.1)).zip zs) ∧ RpVs K ga H μ ((kvs.foldl (fun m p => put m p.1 p.2) acc).map (·.2)) zs
  | [], _, acc, ys, _, h => ⟨ys, rfl, h⟩
  | (k, d) :: r, _, acc, ys, .cons (v := v) rv rs, h => by
    obtain ⟨zs, e1, e2⟩ := put_ok (k := k) rv h
    obtain ⟨us, e3, e4⟩ := merge_ok rs e2
    refine ⟨us, ?_, e4⟩
    rw [List.foldl_cons, ← e3, ← e1]
    rfl
end
section
variable {X : Cx} {ga : Nat → Option Addr} {cf : Cf} {b : Mk} {pos : Pos}
theorem sd_dct {keys : List (Option PySem.Expr)} {values : List PySem.Expr} {ks vs : Exs} (h : PPs X pos keys values (trs X.K ga cf b ks vs)) (hall : keys.all (·.isSome) = true) (hl : keys.length = values.length) (h0 : keys ≠ []) (h15 : keys.length ≤ 15) :
    PE X (.Dict keys values pos) (tE X.K ga cf b (.dct ks vs)) := by
  refine (pe_disp h hall hl h0 h15).weak fun σ H Q q => ?_
  obtain ⟨σd, E, μ, r, E', q, hs, e, k⟩ := q
  simp only [ev] at e
  split at e
  · rename_i kvs E1 e1
    split at e
    · rename_i hz
      cases e
      intro p hp
      refine pairs_read (q.fresh hp) (hs.mono (Ext.fresh q hp)) e1 fun H' μ' xs x' q' rs => ?_
      have hn : p ∉ μ := q.notin hp
      have hp' := x'.oth p _ upd_same hn
      have hn' := x'.notin upd_same hn
      have hlen : (kvs.map (·.1)).length = xs.length := by rw [← rs.length, List.length_map, List.length_map]
      refine ⟨hp', (kvs.map (·.1)).zip xs, rfl, by rw [List.length_zip, List.length_map, ← rs.length, List.length_map, Nat.min_self]; exact hz, ?_⟩
      obtain ⟨zs, e2, e3⟩ := merge_ok (acc := []) rs .nil
      have hm : mergeK [] ((kvs.map (·.1)).zip xs) = ((kvs.foldl (fun m p => put m p.1 p.2) []).map (·.1)).zip zs := e2
      rw [hm]
      have x2 : Ext X.K H μ (upd H' p (.dK (((kvs.foldl (fun m p => put m p.1 p.2) []).map (·.1)).zip zs))) μ' := by
        refine ⟨?_, fun a o h hh => ?_, fun a t ys h => ?_⟩
        · have z := x'.pre
          obtain ⟨l, e, n⟩ := z
          refine ⟨l, e, fun a ha => ?_⟩
          have := n a ha
          by_cases hpa : a = p
          · rw [hpa]; exact hp
          · rw [upd_ne hpa] at this; exact this
        · have hpa : a ≠ p := ne_of_none h hp
          rw [upd_ne hpa]
          exact x'.oth a o (by rw [upd_ne hpa]; exact h) hh
        · refine fix_keep (fun c w e hw => ?_) a t ys (x'.tup a t ys (fix_fresh hp a t ys h))
          have hc : c ≠ p := fun z => by
            rw [z, hp'] at e
            cases e
            exact hw
          rw [upd_ne hc]
          exact e
      have hv : ∀ {ds : List D} {us : List L2.V}, RpVs X.K ga H' μ' ds us → RpVs X.K ga (upd H' p (.dK (((kvs.foldl (fun m p => put m p.1 p.2) []).map (·.1)).zip zs))) μ' ds us := fun h => h.onto hp' id
      refine k _ _ μ' x2 ⟨q'.len, q'.nd, fun n o a f1 f2 => ?_, q'.low, q'.bl⟩ ⟨p, rfl, ⟨zs, upd_same, hv e3⟩, hn', hp⟩
      have hpa : a ≠ p := fun z => hn' (z ▸ List.mem_of_getElem? f2)
      have := q'.ob n o a f1 f2
      cases o with
      | lst xs => obtain ⟨ys, h, r⟩ := this; exact ⟨ys, by rw [upd_ne hpa]; exact h, hv r⟩
      | dct xs => obtain ⟨ys, h, r⟩ := this; exact ⟨ys, by rw [upd_ne hpa]; exact h, hv r⟩
    · cases e
  · cases e
theorem sd_dcx {keys : List (Option PySem.Expr)} {values : List PySem.Expr} {es : Exs} (h : PPs X pos keys values (trx X.K ga cf b es)) (hall : keys.all (·.isSome) = true) (hl : keys.length = values.length) (h0 : keys ≠ []) (h15 : keys.length ≤ 15) :
    PE X (.Dict keys values pos) (tE X.K ga cf b (.dcx es)) := by
  refine (pe_disp h hall hl h0 h15).weak fun σ H Q q => ?_
  obtain ⟨σd, E, μ, r, E', q, hs, e, k⟩ := q
  simp only [ev] at e
  split at e
  · rename_i kvs E1 e1
    split at e
    · rename_i hz
      cases e
      intro p hp
      refine pairs_readX (q.fresh hp) (hs.mono (Ext.fresh q hp)) e1 fun H' μ' xs x' q' rs => ?_
      have hn : p ∉ μ := q.notin hp
      have hp' := x'.oth p _ upd_same hn
      have hn' := x'.notin upd_same hn
      have hlen : (kvs.map (·.1)).length = xs.length := by rw [← rs.length, List.length_map, List.length_map]
      refine ⟨hp', (kvs.map (·.1)).zip xs, rfl, by rw [List.length_zip, List.length_map, ← rs.length, List.length_map, Nat.min_self]; exact hz, ?_⟩
      obtain ⟨zs, e2, e3⟩ := merge_ok (acc := []) rs .nil
      have hm : mergeK [] ((kvs.map (·.1)).zip xs) = ((kvs.foldl (fun m p => put m p.1 p.2) []).map (·.1)).zip zs := e2
      rw [hm]
      have x2 : Ext X.K H μ (upd H' p (.dK (((kvs.foldl (fun m p => put m p.1 p.2) []).map (·.1)).zip zs))) μ' := by
        refine ⟨?_, fun a o h hh => ?_, fun a t ys h => ?_⟩
        · have z := x'.pre
          obtain ⟨l, e, n⟩ := z
          refine ⟨l, e, fun a ha => ?_⟩
          have := n a ha
          by_cases hpa : a = p
          · rw [hpa]; exact hp
          · rw [upd_ne hpa] at this; exact this
        · have hpa : a ≠ p := ne_of_none h hp
          rw [upd_ne hpa]
          exact x'.oth a o (by rw [upd_ne hpa]; exact h) hh
        · refine fix_keep (fun c w e hw => ?_) a t ys (x'.tup a t ys (fix_fresh hp a t ys h))
          have hc : c ≠ p := fun z => by
            rw [z, hp'] at e
            cases e
            exact hw
          rw [upd_ne hc]
          exact e
      have hv : ∀ {ds : List D} {us : List L2.V}, RpVs X.K ga H' μ' ds us → RpVs X.K ga (upd H' p (.dK (((kvs.foldl (fun m p => put m p.1 p.2) []).map (·.1)).zip zs))) μ' ds us := fun h => h.onto hp' id
      refine k _ _ μ' x2 ⟨q'.len, q'.nd, fun n o a f1 f2 => ?_, q'.low, q'.bl⟩ ⟨p, rfl, ⟨zs, upd_same, hv e3⟩, hn', hp⟩
      have hpa : a ≠ p := fun z => hn' (z ▸ List.mem_of_getElem? f2)
      have := q'.ob n o a f1 f2
      cases o with
      | lst xs => obtain ⟨ys, h, r⟩ := this; exact ⟨ys, by rw [upd_ne hpa]; exact h, hv r⟩
      | dct xs => obtain ⟨ys, h, r⟩ := this; exact ⟨ys, by rw [upd_ne hpa]; exact h, hv r⟩
    · cases e
  · cases e
theorem s_dct0 : PE X (.Dict [] [] pos) (tE X.K ga cf b (.dct .nil .nil)) := by
  refine pe_dnewK.weak fun σ H Q q => ?_
  obtain ⟨σd, E, μ, r, E', q, hs, e, k⟩ := q
  simp only [ev, evp] at e
  cases e
  intro p hp
  exact k _ _ μ (Ext.fresh q hp) (q.fresh hp) ⟨p, rfl, ⟨[], upd_same, .nil⟩, q.notin hp, hp⟩
end

/-! ## statements -/
section
variable (K : PySem.W.Frag) (ga : Nat → Option Addr) (cf : Cf) (wf : Nat) (b : Mk)
def FlK (D : Ends) (H : Hp) (μ : List Addr) (E' : Eh) : Fl → Prop
  | .nx σd' => ∀ σ' H' μ', Ext K H μ H' μ' → Rp K ga b μ' E' H' → RpS K ga H' μ' σd' σ' → D.nx σ' H'
  | .bk σd' => ∀ σ' H' μ', Ext K H μ H' μ' → Rp K ga b μ' E' H' → RpS K ga H' μ' σd' σ' → D.bk σ' H'
  | .ct σd' => ∀ σ' H' μ', Ext K H μ H' μ' → Rp K ga b μ' E' H' → RpS K ga H' μ' σd' σ' → D.ct σ' H'
  | .rt r => ∀ v H' μ', Ext K H μ H' μ' → Rp K ga b μ' E' H' → RpR K ga H H' μ' r v → D.rt v H'
def tS (s : Stm) : TS := fun D σ H => ∃ σd E μ fl E', Rp K ga b μ E H ∧ RpS K ga H μ σd σ ∧ ex cf wf b.b s σd E = some (fl, E') ∧ FlK K ga b D H μ E' fl
def tSs (s : Stms) : TS := fun D σ H => ∃ σd E μ fl E', Rp K ga b μ E H ∧ RpS K ga H μ σd σ ∧ exs cf wf b.b s σd E = some (fl, E') ∧ FlK K ga b D H μ E' fl
end
theorem _root_.L2.PS.weak {X : Cx} {e : Stmt} {t t' : TS} (h : PS X e t) (i : ∀ D σ H, t' D σ H → t D σ H) : PS X e t' := ⟨fun pins s σ H D I q => h.run pins s σ H D I (i D σ H q)⟩
theorem _root_.L2.PSs.weak {X : Cx} {e : List Stmt} {t t' : TS} (h : PSs X e t) (i : ∀ D σ H, t' D σ H → t D σ H) : PSs X e t' := ⟨fun pins s σ H D I q => h.run pins s σ H D I (i D σ H q)⟩
section
variable {K : PySem.W.Frag} {ga : Nat → Option Addr} {b : Mk} {H H1 : Hp} {μ μ1 : List Addr} {E1 E' : Eh} {D : Ends} {fl : Fl}
theorem FlK.back (k : FlK K ga b D H μ E' fl) (x : Ext K H μ H1 μ1) (q : Rp K ga b μ1 E1 H1) : FlK K ga b D H1 μ1 E' fl := by
  cases fl with
  | nx _ => exact fun σ' H' μ' x' q' hs => k σ' H' μ' (x.trans q x') q' hs
  | bk _ => exact fun σ' H' μ' x' q' hs => k σ' H' μ' (x.trans q x') q' hs
  | ct _ => exact fun σ' H' μ' x' q' hs => k σ' H' μ' (x.trans q x') q' hs
  | rt _ => exact fun v H' μ' x' q' hr => k v H' μ' (x.trans q x') q' (hr.elder x q)
end
section
variable {X : Cx} {ga : Nat → Option Addr} {cf : Cf} {wf : Nat} {b : Mk} {x y : PySem.Expr} {ca cb : Ex} {pos : Pos} {st : Stmt} {rest : List Stmt}
theorem ss_nil : PSs X [] (tSs X.K ga cf wf b .nil) := pss_nil.weak fun D σ H q => by
  obtain ⟨σd, E, μ, fl, E', q, hs, e, k⟩ := q
  simp only [exs] at e
  cases e
  exact k σ H μ (Ext.refl _ _ _) q hs
theorem ss_cons {c : Stm} {r : Stms} (h1 : PS X st (tS X.K ga cf wf b c)) (h2 : PSs X rest (tSs X.K ga cf wf b r)) : PSs X (st :: rest) (tSs X.K ga cf wf b (.cons c r)) := by
  refine (pss_cons h1 h2).weak fun D σ H q => ?_
  obtain ⟨σd, E, μ, fl, E', q, hs, e, k⟩ := q
  simp only [exs] at e
  split at e
  · rename_i σ1 E1 e1
    refine ⟨σd, E, μ, .nx σ1, E1, q, hs, e1, fun σ' H' μ' x' q' hs' => ?_⟩
    exact ⟨σ1, E1, μ', fl, E', q', hs', e, k.back x' q'⟩
  · rename_i hn
    refine ⟨σd, E, μ, fl, E', q, hs, e, ?_⟩
    cases fl with
    | nx σ1 => exact absurd e (hn σ1 E')
    | bk _ => exact k
    | ct _ => exact k
    | rt _ => exact k
theorem ss_asg {tg : PySem.Expr} {t : Tg} (he : PE X x (tE X.K ga cf b ca)) (hg : PG X tg (tG X.K ga b t)) (hs : swapsWithSole [tg] x pos.line X.env = pure false) (hw : swappedStores [tg] x X.env = pure none) (h1 : (assignEach [tg] X.env).map (·.2) = [assign tg X.env]) :
    PS X (.Assign [tg] x pos) (tS X.K ga cf wf b (.asg t ca)) := by
  refine (ps_asg he hg hs hw h1).weak fun D σ H q => ?_
  obtain ⟨σd, E, μ, fl, E', q, hs, e, k⟩ := q
  simp only [ex] at e
  split at e
  · cases e
  · rename_i r E1 e1
    obtain ⟨⟨σ2, E2⟩, e2, e3⟩ := Option.map_eq_some_iff.mp e
    cases e3
    refine ⟨σd, E, μ, r, E1, q, hs, e1, fun v H1 μ1 x1 q1 h1 => ?_⟩
    obtain ⟨μ2, y1, up, q2, rv⟩ := reg_ok x1 q1 h1
    exact ⟨σd, _, μ2, _, σ2, _, q2, hs.mono y1, rv, e2, fun σ' H' μ' x' q' hs' _ => k σ' H' μ' (y1.trans q2 x') q' hs'⟩
theorem ss_expr (he : PE X x (tE X.K ga cf b ca)) (hs : swapsWith x none pos.line X.env = pure false) : PS X (.Expr x pos) (tS X.K ga cf wf b (.expr ca)) := by
  refine (ps_expr he hs).weak fun D σ H q => ?_
  obtain ⟨σd, E, μ, fl, E', q, hs, e, k⟩ := q
  simp only [ex] at e
  split at e
  · cases e
  · rename_i r E1 e1
    cases e
    exact ⟨σd, E, μ, r, E', q, hs, e1, fun v H1 μ1 x1 q1 h1 => k σ H1 μ1 x1 q1 (hs.mono x1)⟩
theorem ss_ret (he : PE X x (tE X.K ga cf b ca)) : PS X (.Return (some x) pos) (tS X.K ga cf wf b (.ret ca)) := by
  refine (ps_ret he).weak fun D σ H q => ?_
  obtain ⟨σd, E, μ, fl, E', q, hs, e, k⟩ := q
  simp only [ex] at e
  split at e
  · cases e
  · rename_i r E1 e1
    cases e
    exact ⟨σd, E, μ, r, E', q, hs, e1, k⟩
theorem ss_if {t : PySem.Expr} {ct : Ex} {l1 l2 : List Stmt} {c1 c2 : Stms} (ht : PT X t (tT X.K ga cf b ct)) (h1 : PSs X l1 (tSs X.K ga cf wf b c1)) (h2 : PSs X l2 (tSs X.K ga cf wf b c2)) : PS X (.If t l1 l2 pos) (tS X.K ga cf wf b (.ife ct c1 c2)) := by
  refine (ps_if ht h1 h2).weak fun D σ H q => ?_
  obtain ⟨σd, E, μ, fl, E', q, hs, e, k⟩ := q
  simp only [ex] at e
  split at e
  · cases e
  · rename_i E1 e1
    exact ⟨σd, E, μ, _, _, q, hs, e1, fun H1 μ1 x1 q1 => iteT ⟨σd, E1, μ1, fl, E', q1, hs.mono x1, e, k.back x1 q1⟩⟩
  · rename_i E1 e1
    exact ⟨σd, E, μ, _, _, q, hs, e1, fun H1 μ1 x1 q1 => iteF ⟨σd, E1, μ1, fl, E', q1, hs.mono x1, e, k.back x1 q1⟩⟩
theorem ss_pass : PS X (.Pass pos) (tS X.K ga cf wf b .pass) := ps_pass.weak fun D σ H q => by
  obtain ⟨σd, E, μ, fl, E', q, hs, e, k⟩ := q
  simp only [ex] at e
  cases e
  exact k σ H μ (Ext.refl _ _ _) q hs
theorem ss_brk : PS X (.Break pos) (tS X.K ga cf wf b .brk) := ps_break.weak fun D σ H q => by
  obtain ⟨σd, E, μ, fl, E', q, hs, e, k⟩ := q
  simp only [ex] at e
  cases e
  exact k σ H μ (Ext.refl _ _ _) q hs
theorem ss_cont : PS X (.Continue pos) (tS X.K ga cf wf b .cont) := ps_continue.weak fun D σ H q => by
  obtain ⟨σd, E, μ, fl, E', q, hs, e, k⟩ := q
  simp only [ex] at e
  cases e
  exact k σ H μ (Ext.refl _ _ _) q hs
/-- o[i] = e -/
theorem ss_sto {kr : Nat} (hr : Room kr X.A) {o i : PySem.Expr} {co ci : Ex} {p : Pos} (he : PE X x (tE X.K ga cf b ca)) (ho : PE X o (tE X.K ga cf b co)) (hi : PE X i (tE X.K ga cf b ci))
    (ha : ∀ v, assign (.Subscript o i p) X.env v = (do
      let ov ← holding [v] (eval o X.env)
      let iv ← holding [v, ov] (eval i X.env)
      standAt p
      holding [v, ov, iv] (setItem ov iv v)
      release [v, ov, iv] []))
    (hs : swapsWithSole [.Subscript o i p] x pos.line X.env = pure false) : PS X (.Assign [.Subscript o i p] x pos) (tS X.K ga cf wf b (.sto co ci ca)) := by
  refine (ps_asg he (pg_sub ho hi (stoop_ok (ga := ga) (b := b) (hu_of hr)) ha) hs rfl rfl).weak fun D σ H q => ?_
  obtain ⟨σd, E, μ, fl, E', q, hs, e, k⟩ := q
  simp only [ex] at e
  split at e
  · cases e
  · rename_i r E1 e1
    split at e
    · cases e
    · rename_i ro E2 e2
      split at e
      · cases e
      · rename_i ri E3 e3
        obtain ⟨E4, e4, e5⟩ := Option.map_eq_some_iff.mp e
        cases e5
        refine ⟨σd, E, μ, r, E1, q, hs, e1, fun v H1 μ1 x1 q1 h1 => ?_⟩
        obtain ⟨μ2, y1, up, q2, rv⟩ := reg_ok x1 q1 h1
        refine ⟨σd, _, μ2, ro, E2, q2, hs.mono y1, e2, fun w H3 μ3 x3 q3 h3 => ⟨σd, E2, μ3, ri, E3, q3, (hs.mono y1).mono x3, e3, fun u H4 μ4 x4 q4 h4 => ?_⟩⟩
        refine ⟨H1, H3, μ4, E3, ro, ri, _, E', q4, h3.mono x4, h4, (rv.mono x3).mono x4, e4, fun H5 x5 q5 => ?_⟩
        have xx := ((y1.trans q2 x3).trans q3 x4).trans q4 x5
        exact k σ H5 μ4 xx q5 (hs.mono xx)
/-- for -/
theorem ss_for (hp : PassesOwn (model X.prog X.w) X.A X.env X.xe) (hc : X.calm = true) {tg it : PySem.Expr} {t : Tg} {ci : It} {body : List Stmt} {cbd : Stms} (hi : PI X tg it (tI X.K ga cf b ci)) (hg : PG X tg (tG X.K ga b t)) (hb : PSs X body (tSs X.K ga cf wf b cbd)) (hs : ∀ x, foldedSetIterable it X.env x = pure x) :
    PS X (.For tg it body [] pos) (tS X.K ga cf wf b (.loop t ci cbd)) := by
  refine (ps_for hp hc hi hg hb hs).weak fun D σ H q => ?_
  obtain ⟨σd, E, μ, fl, E', q, hs, e, k⟩ := q
  simp only [ex] at e
  split at e
  · cases e
  · rename_i ds src E1 e1
    refine ⟨σd, E, μ, ds, src, E1, q, hs, e1, fun J H1 μ1 x1 q1 hJ => ?_⟩
    refine ⟨fun i m σ2 H2 => ∃ σe E2 μ2, Ext X.K H1 μ1 H2 μ2 ∧ Rp X.K ga b μ2 E2 H2 ∧ RpS X.K ga H2 μ2 σe σ2 ∧ forL (asgT t) (fun σ E => exs cf wf b.b cbd σ E) (chk src) (ds.drop i) σe E2 = some (fl, E') ∧ i + m = ds.length,
      ⟨ds.length, σd, E1, μ1, Ext.refl _ _ _, q1, hs.mono x1, by rw [List.drop_zero]; exact e, by omega⟩, ?_⟩
    intro i m σ2 H2 hW
    obtain ⟨σe, E2, μ2, x2, q2, hs2, e2, em⟩ := hW
    by_cases hi : i < ds.length
    · have hd : ds.drop i = ds[i] :: ds.drop (i + 1) := List.drop_eq_getElem_cons hi
      rw [hd] at e2
      simp only [forL] at e2
      split at e2
      · rename_i hk
        obtain ⟨hgo, hy⟩ := (hJ H2 μ2 E2 x2.f q2 hk i).1 ds[i] (List.getElem?_eq_getElem hi)
        refine .inr ⟨hgo, fun σ' H' => ∃ σe E2 μ2, Ext X.K H1 μ1 H' μ2 ∧ Rp X.K ga b μ2 E2 H' ∧ RpS X.K ga H' μ2 σe σ' ∧ forL (asgT t) (fun σ E => exs cf wf b.b cbd σ E) (chk src) (ds.drop (i + 1)) σe E2 = some (fl, E') ∧ i + 1 + (m - 1) = ds.length, fun σ' H' h => ⟨m - 1, by omega, h⟩, fun v H' yy => ?_⟩
        obtain ⟨xa, qa, ra⟩ := hy v H' yy
        split at e2
        · cases e2
        · rename_i σ1 Ea ea
          refine ⟨σe, E2, μ2, ds[i], σ1, Ea, qa, hs2.mono xa, ra, ea, fun σ3 H3 μ3 xb qb hs3 _ => ?_⟩
          have xx := (x2.trans q2 xa).trans qa xb
          split at e2
          · rename_i σ4 Eb eb
            exact ⟨σ1, Ea, μ3, .nx σ4, Eb, qb, hs3, eb, fun σ5 H5 μ5 xc qc hs5 => ⟨σ4, Eb, μ5, xx.trans qb xc, qc, hs5, e2, by omega⟩⟩
          · rename_i σ4 Eb eb
            exact ⟨σ1, Ea, μ3, .ct σ4, Eb, qb, hs3, eb, fun σ5 H5 μ5 xc qc hs5 => ⟨σ4, Eb, μ5, xx.trans qb xc, qc, hs5, e2, by omega⟩⟩
          · rename_i σ4 Eb eb
            cases e2
            exact ⟨σ1, Ea, μ3, .bk σ4, _, qb, hs3, eb, fun σ5 H5 μ5 xc qc hs5 => k σ5 H5 μ5 ((x1.trans q1 xx).trans qb xc) qc hs5⟩
          · rename_i v4 Eb eb
            cases e2
            exact ⟨σ1, Ea, μ3, .rt v4, _, qb, hs3, eb, fun w H5 μ5 xc qc hr => k w H5 μ5 ((x1.trans q1 xx).trans qb xc) qc (hr.elder (x1.trans q1 xx) qb)⟩
          · cases e2
      · cases e2
    · have hd : ds.drop i = [] := List.drop_eq_nil_of_le (by omega)
      rw [hd] at e2
      simp only [forL] at e2
      split at e2
      · rename_i hk
        cases e2
        exact .inl ⟨(hJ H2 μ2 _ x2.f q2 hk i).2 (by omega), k σ2 H2 μ2 (x1.trans q1 x2) q2 hs2⟩
      · cases e2
/-- while -/
theorem ss_while (hp : PassesOwn (model X.prog X.w) X.A X.env X.xe) {t : PySem.Expr} {ct : Ex} {body : List Stmt} {cbd : Stms} (ht : PT X t (tT X.K ga cf b ct)) (hb : PSs X body (tSs X.K ga cf wf b cbd)) :
    PS X (.While t body [] pos) (tS X.K ga cf wf b (.whl ct cbd)) := by
  refine (ps_while hp ht hb).weak fun D σ H q => ?_
  obtain ⟨σd, E, μ, fl, E', q, hs, e, k⟩ := q
  simp only [ex] at e
  refine ⟨fun m σ2 H2 => ∃ σe E2 μ2, Ext X.K H μ H2 μ2 ∧ Rp X.K ga b μ2 E2 H2 ∧ RpS X.K ga H2 μ2 σe σ2 ∧ whileL (fun σ E => ts cf b.b ct σ E) (fun σ E => exs cf wf b.b cbd σ E) m σe E2 = some (fl, E'), ⟨wf, σd, E, μ, Ext.refl _ _ _, q, hs, e⟩, ?_⟩
  intro m σ2 H2 hW
  obtain ⟨σe, E2, μ2, x2, q2, hs2, e2⟩ := hW
  cases m with
  | zero => simp only [whileL] at e2; cases e2
  | succ m =>
    simp only [whileL] at e2
    split at e2
    · cases e2
    · rename_i Ea ea
      cases e2
      refine ⟨σe, E2, μ2, false, _, q2, hs2, ea, fun H3 μ3 xa qa => iteF ?_⟩
      exact k σ2 H3 μ3 (x2.trans q2 xa) qa (hs2.mono xa)
    · rename_i Ea ea
      refine ⟨σe, E2, μ2, true, Ea, q2, hs2, ea, fun H3 μ3 xa qa => iteT ?_⟩
      refine ⟨fun σ' H' => ∃ σe E2 μ2, Ext X.K H μ H' μ2 ∧ Rp X.K ga b μ2 E2 H' ∧ RpS X.K ga H' μ2 σe σ' ∧ whileL (fun σ E => ts cf b.b ct σ E) (fun σ E => exs cf wf b.b cbd σ E) m σe E2 = some (fl, E'), fun σ' H' h => ⟨m, by omega, h⟩, ?_⟩
      have xx := x2.trans q2 xa
      split at e2
      · rename_i σ4 Eb eb
        exact ⟨σe, Ea, μ3, .nx σ4, Eb, qa, hs2.mono xa, eb, fun σ5 H5 μ5 xc qc hs5 => ⟨σ4, Eb, μ5, xx.trans qa xc, qc, hs5, e2⟩⟩
      · rename_i σ4 Eb eb
        exact ⟨σe, Ea, μ3, .ct σ4, Eb, qa, hs2.mono xa, eb, fun σ5 H5 μ5 xc qc hs5 => ⟨σ4, Eb, μ5, xx.trans qa xc, qc, hs5, e2⟩⟩
      · rename_i σ4 Eb eb
        cases e2
        exact ⟨σe, Ea, μ3, .bk σ4, _, qa, hs2.mono xa, eb, fun σ5 H5 μ5 xc qc hs5 => k σ5 H5 μ5 (xx.trans qa xc) qc hs5⟩
      · rename_i v4 Eb eb
        cases e2
        exact ⟨σe, Ea, μ3, .rt v4, _, qa, hs2.mono xa, eb, fun w H5 μ5 xc qc hr => k w H5 μ5 (xx.trans qa xc) qc (hr.elder xx qa)⟩
      · cases e2
end
end Ev
end EvStm
section EvTx
/-! sets of texts: what they hold, as a list without doubles -/
namespace Tx
open PySem PySem.Spec PyProof.Rows L2
open Ev (more once)
def txOf (e : Int × Value) : Str := match e.2 with
  | .str x _ => x
  | _ => Str.empty
def Good (w : World) (e : Int × Value) : Prop := ∃ x tk, e.2 = Value.str x tk ∧ e.1 = hashStr w x
/-- at a lies the set of the texts L -/
def SetS (w : World) (h : Heap) (a : Addr) (L : List Str) : Prop :=
  ∃ o es ep t, h.get? a = some o ∧ o.ExactSet ∧ o.data = .set es ep t ∧ (∀ e ∈ es.toList, Good w e) ∧ (es.toList.map txOf).Perm L ∧ L.Nodup ∧
    es.size < scanBound ∧ t.fits es.size = true ∧ Ris t.place.toList ∧ (w.params.followText "set-order" = true ∨ t.led = true)
section
variable {P : Program} {w : World} {h h' : Heap} {a : Addr} {L : List Str}
theorem SetS.keep (R : SetS w h a L) (k : ∀ o, h.get? a = some o → h'.get? a = some o) : SetS w h' a L :=
  let ⟨o, es, ep, t, ho, r⟩ := R; ⟨o, es, ep, t, k o ho, r⟩
theorem SetS.typ {s : Shared} (R : SetS w s.heap a L) : s.TypeIs (.ref a) "set" := let ⟨o, _, _, _, ho, hx, _⟩ := R; ⟨o, ho, hx.1⟩
theorem good_els {l : List (Int × Value)} (g : ∀ e ∈ l, Good w e) : ElemsOf (PySem.strKind P w) l := fun e he => by
  obtain ⟨x, tk, e1, e2⟩ := g e he
  refine ⟨⟨x, ?_, e2⟩, ?_⟩
  · rw [e1]; exact strKind_is _ _ _ _
  · rw [e1]; rfl
theorem good_key {e : Int × Value} (g : Good w e) (x : Str) : (PySem.strKind P w).is x e.2 = true ↔ txOf e = x := by
  obtain ⟨y, tk, e1, _⟩ := g
  unfold txOf; rw [e1]
  exact ⟨fun q => (PySem.strKind P w).inj (Value.str y tk) y x (strKind_is _ _ _ _) q, fun q => by subst q; exact strKind_is _ _ _ _⟩
theorem SetS.setOf (R : SetS w h a L) : h.SetOf (PySem.strKind P w) a (fun x => decide (x ∈ L)) L.length := by
  obtain ⟨o, es, ep, t, ho, hx, hd, g, pm, nd, hb, hf, _⟩ := R
  refine ⟨o, es, ep, t, ho, hx, hd, good_els g, fun x => ?_, hb, hf, ?_⟩
  · rw [decide_eq_true_eq, ← pm.mem_iff, List.mem_map]
    exact ⟨fun ⟨e, he, q⟩ => ⟨e, he, (good_key (P := P) (g e he) x).2 q⟩, fun ⟨e, he, q⟩ => ⟨e, he, (good_key (P := P) (g e he) x).1 q⟩⟩
  · rw [← pm.length_eq, List.length_map, Array.length_toList]
end
section
variable {P : Program} {w : World} {A : Around} {E : Value → Shared → Prop} {s : Shared} {a : Addr} {L : List Str}
/-- the end of an adding, whatever is said of the texts -/
theorem add_end {f : Bool → Sem Unit} (hf0 : ∀ (c : Bool) (s1 : Shared) (Z : Unit → Shared → Prop), Z () s1 → wpAny (model P w) A (f c) Z E s1) {o : Obj} {es : Array (Int × Value)} {ep : Nat} {t : SetTable} (ho : s.heap.get? a = some o) (hx : o.ExactSet) (hd : o.data = .set es ep t)
    {fs : Array (Int × Value)} {u : SetTable} {M : List Str} (g : ∀ e ∈ fs.toList, Good w e) (pm : (fs.toList.map txOf).Perm M) (nd : M.Nodup) (hb : fs.size < scanBound) (hf : u.fits fs.size = true) (hr : Ris u.place.toList) (hl : w.params.followText "set-order" = true ∨ u.led = true) {c : Bool} {Z : Option Bool → Shared → Prop}
    (k : ∀ h', Heap.SameBut a s.heap h' → SetS w h' a M → Z (some true) { s with heap := h' }) :
    wpAny (model P w) A (do
        storeSet a fs u
        if (!c && u.tooFull) = true then do
            f (relayAll u fs (SetTable.grown fs.size)).2.2
            storeSet a (relayAll u fs (SetTable.grown fs.size)).1 (relayAll u fs (SetTable.grown fs.size)).2.1
            pure (some true)
          else pure (some true)) Z E s := by
  refine wpAny_bind (wpAny_storeSet_of ho hd ?_ (fits_of_scanBound hb))
  have o1 := store_at (es' := fs) (t' := u) ho hd
  have b1 := Heap.SameBut.update s.heap a (Obj.putSet fs u)
  split
  · have p2 := relayAll_perm u fs (SetTable.grown fs.size)
    have f2 := relayAll_fits u fs (SetTable.grown fs.size)
    have r2 := relayAll_ris u fs (SetTable.grown fs.size)
    have l2 := relayAll_led u fs (SetTable.grown fs.size)
    generalize relayAll u fs (SetTable.grown fs.size) = Y at p2 f2 r2 l2 ⊢
    obtain ⟨gs, v, gv⟩ := Y
    dsimp only at p2 f2 r2 l2 ⊢
    have z2 : gs.size = fs.size := by rw [← Array.length_toList, p2.length_eq, Array.length_toList]
    have b2 : gs.size < scanBound := by omega
    refine wpAny_bind (hf0 _ _ _ ?_)
    refine wpAny_bind (wpAny_storeSet_of o1 rfl ?_ (fits_of_scanBound b2))
    have o2 := store_at (es' := gs) (t' := v) o1 rfl
    exact wpAny_pure (k _ (b1.trans (Heap.SameBut.update _ a _)) ⟨_, gs, _, v, o2, hx, rfl, fun e he => g e (p2.mem_iff.mp he), (p2.map txOf).trans pm, nd, b2, f2, r2, hl.imp id fun q => by rw [l2]; exact q⟩)
  · exact wpAny_pure (k _ b1 ⟨_, fs, _, u, o1, hx, rfl, g, pm, nd, hb, hf, hr, hl⟩)
theorem add_txt {x : Str} {tk : Tok} {Q : Bool → Shared → Prop} (R : SetS w s.heap a L) (room : L.length + 1 < scanBound)
    (k : ∀ h', Heap.SameBut a s.heap h' → SetS w h' a (more L x) → Q (!decide (x ∈ L)) { s with heap := h' }) :
    wpAny (model P w) A (setAddHashed a (.str x tk) (hashStr w x)) Q E s := by
  obtain ⟨o, es, ep, t, ho, hx, hd, g, pm, nd, hb, hf, hr, hl⟩ := R
  have kx : (PySem.strKind P w).is x (.str x tk) = true := strKind_is _ _ _ _
  have sc : (Value.str x tk).scannable = true := rfl
  have el : ElemsOf (PySem.strKind P w) es.toList := good_els g
  have key : ∀ y : Str, y ∈ L ↔ ∃ e ∈ es.toList, (PySem.strKind P w).is y e.2 = true := fun y => by
    rw [← pm.mem_iff, List.mem_map]
    exact ⟨fun ⟨e, he, q⟩ => ⟨e, he, (good_key (P := P) (g e he) y).2 q⟩, fun ⟨e, he, q⟩ => ⟨e, he, (good_key (P := P) (g e he) y).1 q⟩⟩
  have en : es.size = L.length := by rw [← pm.length_eq, List.length_map, Array.length_toList]
  show wpAny _ _ (setAddHashed a (.str x tk) ((PySem.strKind P w).hash x)) _ _ _
  unfold setAddHashed setAddHashedIn
  refine wpAny_holding (wpAny_bind (wpAny_setState_of ho hd hf ?_))
  dsimp only
  rw [byScan_of sc hb el]; simp only [↓reduceIte]
  unfold setAddByScan
  refine wpAny_bind ?_; refine wpAny_bind (wpAny_rule ?_)
  refine wpAny_bind (wpAny_setScan_of kx ho hd hf el ?_)
  cases fi : List.findIdx? (fun e => (PySem.strKind P w).is x e.2) es.toList with
  | some j =>
    dsimp only
    obtain ⟨hj, pj, _⟩ := List.findIdx?_eq_some_iff_getElem.mp fi
    have hm : x ∈ L := (key x).2 ⟨es.toList[j], List.getElem_mem hj, pj⟩
    refine wpAny_pure (wpAny_pure ?_)
    have q := k s.heap (Heap.SameBut.refl a s.heap) (by unfold more; rw [if_pos hm]; exact ⟨o, es, ep, t, ho, hx, hd, g, pm, nd, hb, hf, hr, hl⟩)
    rw [decide_eq_true hm] at q
    exact q
  | none =>
    dsimp only
    have hm : x ∉ L := fun z => by
      obtain ⟨e, he, q⟩ := (key x).1 z
      have c := List.findIdx?_eq_none_iff.mp fi e he
      rw [q] at c; cases c
    have gw : ∀ (c : Bool) {s1 : Shared} {Z : Unit → Shared → Prop}, Z () s1 → wpAny (model P w) A (match c with | true => rule "set.scan.the-table-gave-way" | false => pure ()) Z E s1 :=
      fun c s1 Z q => by cases c <;> first | exact wpAny_pure q | exact wpAny_rule q
    have p1 := layNew_perm t es ((PySem.strKind P w).hash x) (.str x tk)
    have f1 := layNew_fits t es ((PySem.strKind P w).hash x) (.str x tk)
    have r1 := layNew_ris t es ((PySem.strKind P w).hash x) (.str x tk) hr
    have l1 := layNew_led t es ((PySem.strKind P w).hash x) (.str x tk)
    generalize layNew t es ((PySem.strKind P w).hash x) (.str x tk) = Y at p1 f1 r1 l1 ⊢
    obtain ⟨fs, u, c, gv⟩ := Y
    dsimp only at p1 f1 r1 l1 ⊢
    rw [Array.toList_push] at p1
    have g1 : ∀ e ∈ fs.toList, Good w e := fun e he => by
      rcases List.mem_append.mp (p1.mem_iff.mp he) with z | z
      · exact g e z
      · rw [List.mem_singleton.mp z]; exact ⟨x, tk, rfl, rfl⟩
    have q1 : (fs.toList.map txOf).Perm (L ++ [x]) := by
      have := p1.map txOf
      rw [List.map_append] at this
      exact this.trans (pm.append_right _)
    have n1 : (L ++ [x]).Nodup := List.nodup_append.mpr ⟨nd, by simp, fun y hy z hz => by rw [List.mem_singleton.mp hz]; intro q; rw [q] at hy; exact hm hy⟩
    have z1 : fs.size = L.length + 1 := by rw [← Array.length_toList, p1.length_eq, List.length_append, Array.length_toList, en]; rfl
    have b1 : fs.size < scanBound := by omega
    have ld : w.params.followText "set-order" = true ∨ u.led = true := hl.imp id fun q => by rw [l1]; exact q
    have fin : ∀ h', Heap.SameBut a s.heap h' → SetS w h' a (L ++ [x]) → Q true { s with heap := h' } := fun h' sb r => by
      have q := k h' sb (by unfold more; rw [if_neg hm]; exact r)
      rw [decide_eq_false hm] at q
      exact q
    refine wpAny_bind (gw _ ?_)
    split
    · refine wpAny_bind ?_
      rw [hashByValue_scannable 8 sc]
      refine wpAny_pure ?_
      refine add_end ?_ ho hx hd g1 q1 n1 b1 ?_ ?_ ?_ ?_
      · intro c s1 Z q; cases c <;> first | exact wpAny_pure q | exact wpAny_rule q
      · first | (split <;> first | exact f1 | exact SetTable.fits_plain_off f1) | exact f1
      · first | (split <;> exact r1) | exact r1
      · first | (split <;> exact ld) | exact ld
      · intro h' sb r; dsimp only; exact wpAny_pure (fin h' sb r)
    · refine wpAny_bind (wpAny_pure ?_)
      simp only [↓reduceIte]
      refine add_end ?_ ho hx hd g1 q1 n1 b1 f1 r1 ld ?_
      · intro c s1 Z q; cases c <;> first | exact wpAny_pure q | exact wpAny_rule q
      · intro h' sb r; dsimp only; exact wpAny_pure (fin h' sb r)
end
end Tx
end EvTx
section EvTx2
namespace Tx
open PySem PySem.Spec PyProof.Rows L2
open Ev (more once)
theorem mem_more {L : List Str} {x y : Str} : y ∈ more L x ↔ y ∈ L ∨ y = x := by
  unfold more
  split
  · rename_i h
    exact ⟨.inl, fun q => q.elim id fun e => e ▸ h⟩
  · rw [List.mem_append, List.mem_singleton]
theorem nd_more {L : List Str} {x : Str} (h : L.Nodup) : (more L x).Nodup := by
  unfold more
  split
  · exact h
  · rename_i n
    exact List.nodup_append.mpr ⟨h, by simp, fun y hy z hz => by rw [List.mem_singleton.mp hz]; intro q; rw [q] at hy; exact n hy⟩
theorem len_more (L : List Str) (x : Str) : (more L x).length ≤ L.length + 1 := by
  unfold more
  split
  · exact Nat.le_succ _
  · rw [List.length_append]; exact Nat.le_refl _
theorem fold_mem : ∀ (xs L : List Str) (y : Str), y ∈ xs.foldl more L ↔ y ∈ L ∨ y ∈ xs
  | [], L, y => by simp
  | x :: xs, L, y => by rw [List.foldl_cons, fold_mem xs, mem_more, List.mem_cons]; exact or_assoc
theorem fold_nd : ∀ (xs L : List Str), L.Nodup → (xs.foldl more L).Nodup
  | [], _, h => h
  | _ :: xs, _, h => fold_nd xs _ (nd_more h)
theorem fold_len : ∀ (xs L : List Str), (xs.foldl more L).length ≤ L.length + xs.length
  | [], L => Nat.le_refl _
  | x :: xs, L => by have a := fold_len xs (more L x); have b := len_more L x; simp only [List.foldl_cons, List.length_cons]; omega
theorem mem_once {xs : List Str} {y : Str} : y ∈ once xs ↔ y ∈ xs := by unfold once; rw [fold_mem]; simp
theorem once_nd (xs : List Str) : (once xs).Nodup := fold_nd xs [] List.nodup_nil
theorem once_len (xs : List Str) : (once xs).length ≤ xs.length := by have := fold_len xs []; unfold once; simpa using this
section
variable {P : Program} {w : World} {A : Around} {E : Value → Shared → Prop} {s : Shared}
/-- a new set -/
abbrev nu (w : World) : Obj := { cls := .type "set", dict := none, data := .set #[] 0 (.fresh 0 0 (!w.params.followText "set-order")) }
theorem SetS.fresh {h : Heap} {a : Addr} (ho : h.get? a = some { cls := .type "set", dict := none, data := .set #[] 0 (.fresh 0 0 (!w.params.followText "set-order")) }) : SetS w h a [] :=
  ⟨_, #[], 0, _, ho, ⟨rfl, rfl, rfl⟩, rfl, fun e he => by simp at he, by simp, List.nodup_nil, by decide, by rfl, List.Pairwise.nil, by
    show _ ∨ (!w.params.followText "set-order") = true
    cases w.params.followText "set-order" <;> simp⟩
theorem fold_loop {I : Addr} {fp wr : List Addr} {G : Array GenState → Array GenState → Prop} {n : Nat} {Pv : Nat → Value → Prop} {St : Nat → Shared → Prop} {R : Result → Shared → Prop} (W : WalksS P w A.in1 I fp wr G n Pv St) (S : Addr) (hS : S ∉ fp) (xs : List Str) (hn : n = xs.length) (hf : xs.length < 4000)
    (hv : ∀ i v, Pv i v → ∃ x t, xs[i]? = some x ∧ v = .str x t) (h0 : Heap) (z0 : h0.get? S = none) (w0 : ∀ b ∈ wr, h0.get? b = none) :
    ∀ (k i : Nat) (s : Shared), n - i = k → i ≤ n → St i s → (∀ b o, h0.get? b = some o → s.heap.get? b = some o) → SetS w s.heap S (once (xs.take i)) →
      (∀ s', Moved (S :: wr) G s s' → SetS w s'.heap S (once xs) → (∀ b o, h0.get? b = some o → s'.heap.get? b = some o) → R (.ok (.ret .none)) s') →
      codeAny (model P w) A (.builtin "set.update.loop" ⟨[.ref S, .ref I], []⟩) R s := by
  have hSw : S ∉ wr := fun h => hS (W.sub _ h)
  have up : ∀ b ∈ wr, b ∈ S :: wr := fun b hb => List.mem_cons_of_mem _ hb
  have still : ∀ {s s' : Shared}, Moved wr G s s' → (∀ b o, h0.get? b = some o → s.heap.get? b = some o) → ∀ b o, h0.get? b = some o → s'.heap.get? b = some o := fun m q b o e => m.heap b o (fun hb => by rw [w0 b hb] at e; cases e) (q b o e)
  intro k
  induction k with
  | zero =>
    intro i s hk hi hst q T hR
    obtain rfl : i = n := by omega
    refine codeAny_builtin F.entry_set_update_loop ?_
    rw [Around.under_plainId F.plain_set_update_loop _]; show wpAny _ A.in1 (pyNext (.ref I) >>= _) _ _ s
    refine wpAny_bind (W.done s _ _ hst fun s' m => ?_)
    show wpAny _ A.in1 (ret Value.none) _ _ s'
    rw [hn, List.take_length] at T
    exact wpAny_pure (hR s' (m.mono up) (T.keep fun o e => m.heap S o hSw e) (still m q))
  | succ k ih =>
    intro i s hk hi hst q T hR
    have lt : i < n := by omega
    refine codeAny_builtin F.entry_set_update_loop ?_
    rw [Around.under_plainId F.plain_set_update_loop _]; show wpAny _ A.in1 (pyNext (.ref I) >>= _) _ _ s
    refine wpAny_bind (W.item i s _ _ lt hst fun v s' hP st' m => ?_)
    obtain ⟨x, t, hx, rfl⟩ := hv i v hP
    have q1 := still m q
    have T1 : SetS w s'.heap S (once (xs.take i)) := T.keep fun o e => m.heap S o hSw e
    show wpAny _ A.in1 (holding [Value.str x t] (setAdd S (.str x t)) >>= _) _ _ s'
    refine wpAny_bind (wpAny_holding ?_)
    unfold setAdd; refine wpAny_holding ?_
    refine wpAny_bind ((PySem.strKind P w).pyHash (k := x) (strKind_is _ _ _ _) ?_)
    have l1 := once_len (xs.take i)
    rw [List.length_take] at l1
    refine add_txt (s := { s' with toks := s'.toks + 1 }) T1 (by show _ < 4096; omega) fun h' sb T2 => ?_
    have e2 : more (once (xs.take i)) x = once (xs.take (i + 1)) := by
      rw [List.take_add_one, hx]
      unfold once
      rw [List.foldl_append]; rfl
    rw [e2] at T2
    have q2 : ∀ b o, h0.get? b = some o → h'.get? b = some o := fun b o e => (sb.2 b (fun z => by rw [z, z0] at e; cases e)).trans (q1 b o e)
    refine wpAny_pure ⟨plainId_quiet F.plain_set_update_loop _, ih (i + 1) _ (by omega) lt (W.frame _ s' _ _ st' (Nat.le_succ _) fun b hb o e => ?_) q2 T2 fun s'' m2 T3 q3 => ?_⟩
    · rw [sb.2 b (fun h : b = S => hS (by rw [← h]; exact hb))]; exact e
    · exact hR s'' (Moved.trans W.gtrans ((m.mono up).then_heap (Nat.le_succ _) fun b o hb e => by rw [sb.2 b (fun h : b = S => hb (by rw [h]; exact List.mem_cons_self))]; exact e) m2) T3 q3
theorem txts_at : ∀ {us : List Value} {xs : List Str}, StrsAre us xs → ∀ (i : Nat) (v : Value), us[i]? = some v → ∃ x t, xs[i]? = some x ∧ v = .str x t
  | _, _, .nil, i, v, h => by simp at h
  | _, _, .cons n t hr, 0, v, h => by simp at h; exact ⟨n, t, rfl, h.symm⟩
  | _, _, .cons n t hr, i + 1, v, h => by
    simp only [List.getElem?_cons_succ] at h ⊢
    exact txts_at hr i v h
set_option maxRecDepth 100000 in
set_option maxHeartbeats 3200000 in
theorem set_of_list {l : Addr} {items : Array Value} (xs : List Str) {Q : Value → Shared → Prop} (hh : A.handled = none) (hl : s.heap.IsList l items) (hi : StrsAre items.toList xs) (hf : xs.length < 4000)
    (k : ∀ (h' : Heap) (tk : Nat), SetS w h' s.heap.objs.size (once xs) → (∀ b o, s.heap.get? b = some o → h'.get? b = some o) → Q (.ref s.heap.objs.size) { s with heap := h', toks := tk }) :
    wpAny (model P w) A (call (.type "set") [.ref l]) Q E s := by
  have sz : items.size = xs.length := by rw [← StrsAre.len_eq hi, Array.length_toList]
  obtain ⟨c, tl, hmro⟩ := F.called_set.mro
  have hmade := F.called_set.made
  have hsub := F.called_set.sub
  refine wpAny_call (codeAny_of_tree ?_); show wpAny _ _ (callAny (.type "set") _) _ _ _
  refine wpAny_pure ⟨Code.quiet_builtin _ (by decide +kernel), codeAny_builtin F.entry_type_call ?_⟩
  rw [Around.under_plain (weight_type_call_type "set" [.ref l] []) rfl]
  have h1 := F.called_set.notType
  have h2 := F.called_set.canCreate
  have hct := F.typeCall_set_1 (.ref l)
  repeat (any_goals (first | assumption | wp_step))
  refine codeAny_mono (code_set_led1 (.ref l) (E := E) (Q₁ := fun v s1 => v = .ref s.heap.objs.size ∧ s1 = { s with heap := s.heap.push (nu w) }) ⟨rfl, rfl⟩) fun r s1 hr => ?_
  match r, hr with
  | .error e, hr => exact hr
  | .ok (.ret v), hr =>
    obtain ⟨rfl, rfl⟩ := hr
    have gS : (s.heap.push (nu w)).get? s.heap.objs.size = some (nu w) := Heap.get?_push_size _ rfl
    have hT : Shared.TypeIs { s with heap := s.heap.push (nu w) } (.ref s.heap.objs.size) "set" := ⟨_, gS, rfl⟩
    have hli := F.called_set.init.lookup
    have hbi := F.called_set.init.bind (.ref s.heap.objs.size)
    repeat (any_goals (first | assumption | wp_step))
    refine codeAny_mono (codeAny_call_builtin (R := wants (fun r s2 => r = .none ∧ ∃ h' tk, s2 = { s with heap := h', toks := tk } ∧ SetS w h' s.heap.objs.size (once xs) ∧ (∀ b o, s.heap.get? b = some o → h'.get? b = some o)) E) F.called_set.init.plain F.entry_set_init (check_set_init_1 hT ?_)) fun r2 s2 hr2 => ?_
    · obtain ⟨⟨oc, od, oa, os⟩, hol, hcl, nl, hdl⟩ := hl
      simp only at hcl hdl
      subst hcl; subst hdl
      have hol' : (s.heap.push (nu w)).get? l = some { cls := .type "list", dict := od, data := .seq items nl, slots := os } := Heap.get?_push_of_some _ hol
      have hsls := F.sub_list_set
      have hslf := F.sub_list_frozenset
      have hne : (Value.type "list" == Value.type "dict") = false := by decide
      have hl1 : (s.heap.push (nu w)).IsList l items := ⟨_, hol', rfl, nl, rfl⟩
      have z1 : (s.heap.push (nu w)).objs.size = s.heap.objs.size + 1 := Heap.size_push ..
      unfold Builtin.«set.__init__» noKeywords Builtin.Frozenset.updateFrom
      generalize hPI : pyIter = PI
      wp_walk
      subst hPI
      refine wpAny_pyIter_list (s := { s with heap := s.heap.push (nu w) }) hl1 ?_
      refine wpAny_bind (wpAny_runValue ?_)
      have ls : l < s.heap.objs.size := Heap.lt_size hol
      have h3 : A.in1.in1.in1.handled = none := by simp [hh]
      have nI : l ≠ (s.heap.push (nu w)).objs.size := by rw [z1]; exact Nat.ne_of_lt (Nat.lt_succ_of_lt ls)
      have nf : s.heap.objs.size ∉ [(s.heap.push (nu w)).objs.size, l] := by
        rw [z1]; simp only [List.mem_cons, List.not_mem_nil, or_false, not_or]; exact ⟨Nat.ne_of_lt (Nat.lt_succ_self _), Nat.ne_of_gt ls⟩
      have non : ∀ b, s.heap.objs.size ≤ b → s.heap.get? b = none := fun b hb => by
        cases q : s.heap.get? b with
        | none => rfl
        | some o => exact absurd (Nat.lt_of_lt_of_le (Heap.lt_size q) hb) (Nat.lt_irrefl _)
      refine fold_loop ((Walks.list h3 _ l nI items).toS) s.heap.objs.size nf xs sz hf (fun i v hv => txts_at hi i v (by rw [Array.getElem?_toList]; exact hv)) s.heap (non _ (Nat.le_refl _)) (fun b hb => non b (by rw [List.mem_singleton.mp hb, z1]; exact Nat.le_succ _)) (items.size - 0) 0 _ (by omega) (Nat.zero_le _)
        ⟨⟨_, Heap.get?_push_size _ rfl, rfl, rfl⟩, (hl1.push _)⟩ (fun b o e => Heap.get?_push_of_some _ (Heap.get?_push_of_some _ e)) (SetS.fresh (Heap.get?_push_of_some _ gS)) ?_
      intro s' m T q
      obtain ⟨h', g', d', tk', os'⟩ := s'
      obtain rfl : g' = s.gens := m.gens
      obtain rfl : d' = s.drawn := m.drawn
      obtain rfl : os' = s.os := m.os
      show wpAny _ _ _ _ _ _
      refine wpAny_pure ?_; show wpAny _ _ (ret Value.none) _ _ _
      exact wpAny_pure ⟨rfl, h', tk', rfl, T, q⟩
    · match r2, hr2 with
      | .error e, hr2 => exact hr2
      | .ok (.ret v), hr2 =>
        obtain ⟨rfl, h', tk, rfl, T, q⟩ := hr2
        repeat (any_goals (first | assumption | wp_step))
        exact k _ _ T q
      | .ok (.next ..), hr2 => exact hr2.elim
      | .ok .brk, hr2 => exact hr2.elim
      | .ok .cont, hr2 => exact hr2.elim
  | .ok (.next ..), hr => exact hr.elim
  | .ok .brk, hr => exact hr.elim
  | .ok .cont, hr => exact hr.elim
set_option maxRecDepth 100000 in
set_option maxHeartbeats 3200000 in
theorem set_of_tuple {l : Addr} {items : Array Value} (xs : List Str) {Q : Value → Shared → Prop} (hh : A.handled = none) (hl : s.heap.IsTuple l items) (hi : StrsAre items.toList xs) (hf : xs.length < 4000)
    (k : ∀ (h' : Heap) (tk : Nat), SetS w h' s.heap.objs.size (once xs) → (∀ b o, s.heap.get? b = some o → h'.get? b = some o) → Q (.ref s.heap.objs.size) { s with heap := h', toks := tk }) :
    wpAny (model P w) A (call (.type "set") [.ref l]) Q E s := by
  have sz : items.size = xs.length := by rw [← StrsAre.len_eq hi, Array.length_toList]
  obtain ⟨c, tl, hmro⟩ := F.called_set.mro
  have hmade := F.called_set.made
  have hsub := F.called_set.sub
  refine wpAny_call (codeAny_of_tree ?_); show wpAny _ _ (callAny (.type "set") _) _ _ _
  refine wpAny_pure ⟨Code.quiet_builtin _ (by decide +kernel), codeAny_builtin F.entry_type_call ?_⟩
  rw [Around.under_plain (weight_type_call_type "set" [.ref l] []) rfl]
  have h1 := F.called_set.notType
  have h2 := F.called_set.canCreate
  have hct := F.typeCall_set_1 (.ref l)
  repeat (any_goals (first | assumption | wp_step))
  refine codeAny_mono (code_set_led1 (.ref l) (E := E) (Q₁ := fun v s1 => v = .ref s.heap.objs.size ∧ s1 = { s with heap := s.heap.push (nu w) }) ⟨rfl, rfl⟩) fun r s1 hr => ?_
  match r, hr with
  | .error e, hr => exact hr
  | .ok (.ret v), hr =>
    obtain ⟨rfl, rfl⟩ := hr
    have gS : (s.heap.push (nu w)).get? s.heap.objs.size = some (nu w) := Heap.get?_push_size _ rfl
    have hT : Shared.TypeIs { s with heap := s.heap.push (nu w) } (.ref s.heap.objs.size) "set" := ⟨_, gS, rfl⟩
    have hli := F.called_set.init.lookup
    have hbi := F.called_set.init.bind (.ref s.heap.objs.size)
    repeat (any_goals (first | assumption | wp_step))
    refine codeAny_mono (codeAny_call_builtin (R := wants (fun r s2 => r = .none ∧ ∃ h' tk, s2 = { s with heap := h', toks := tk } ∧ SetS w h' s.heap.objs.size (once xs) ∧ (∀ b o, s.heap.get? b = some o → h'.get? b = some o)) E) F.called_set.init.plain F.entry_set_init (check_set_init_1 hT ?_)) fun r2 s2 hr2 => ?_
    · obtain ⟨⟨oc, od, oa, os⟩, hol, hcl, nl, hdl⟩ := hl
      simp only at hcl hdl
      subst hcl; subst hdl
      have hol' : (s.heap.push (nu w)).get? l = some { cls := .type "tuple", dict := od, data := .seq items nl, slots := os } := Heap.get?_push_of_some _ hol
      have hsls := F.sub_tuple_set
      have hslf := F.sub_tuple_frozenset
      have hne : (Value.type "tuple" == Value.type "dict") = false := by decide
      have hl1 : (s.heap.push (nu w)).IsTuple l items := ⟨_, hol', rfl, nl, rfl⟩
      have z1 : (s.heap.push (nu w)).objs.size = s.heap.objs.size + 1 := Heap.size_push ..
      unfold Builtin.«set.__init__» noKeywords Builtin.Frozenset.updateFrom
      generalize hPI : pyIter = PI
      wp_walk
      subst hPI
      refine wpAny_pyIter_tuple (s := { s with heap := s.heap.push (nu w) }) hl1 ?_
      refine wpAny_bind (wpAny_runValue ?_)
      have ls : l < s.heap.objs.size := Heap.lt_size hol
      have h3 : A.in1.in1.in1.handled = none := by simp [hh]
      have nI : l ≠ (s.heap.push (nu w)).objs.size := by rw [z1]; exact Nat.ne_of_lt (Nat.lt_succ_of_lt ls)
      have nf : s.heap.objs.size ∉ [(s.heap.push (nu w)).objs.size, l] := by
        rw [z1]; simp only [List.mem_cons, List.not_mem_nil, or_false, not_or]; exact ⟨Nat.ne_of_lt (Nat.lt_succ_self _), Nat.ne_of_gt ls⟩
      have non : ∀ b, s.heap.objs.size ≤ b → s.heap.get? b = none := fun b hb => by
        cases q : s.heap.get? b with
        | none => rfl
        | some o => exact absurd (Nat.lt_of_lt_of_le (Heap.lt_size q) hb) (Nat.lt_irrefl _)
      refine fold_loop ((Walks.tuple h3 _ l nI items).toS) s.heap.objs.size nf xs sz hf (fun i v hv => txts_at hi i v (by rw [Array.getElem?_toList]; exact hv)) s.heap (non _ (Nat.le_refl _)) (fun b hb => non b (by rw [List.mem_singleton.mp hb, z1]; exact Nat.le_succ _)) (items.size - 0) 0 _ (by omega) (Nat.zero_le _)
        ⟨⟨_, Heap.get?_push_size _ rfl, rfl, rfl⟩, (hl1.push _)⟩ (fun b o e => Heap.get?_push_of_some _ (Heap.get?_push_of_some _ e)) (SetS.fresh (Heap.get?_push_of_some _ gS)) ?_
      intro s' m T q
      obtain ⟨h', g', d', tk', os'⟩ := s'
      obtain rfl : g' = s.gens := m.gens
      obtain rfl : d' = s.drawn := m.drawn
      obtain rfl : os' = s.os := m.os
      show wpAny _ _ _ _ _ _
      refine wpAny_pure ?_; show wpAny _ _ (ret Value.none) _ _ _
      exact wpAny_pure ⟨rfl, h', tk', rfl, T, q⟩
    · match r2, hr2 with
      | .error e, hr2 => exact hr2
      | .ok (.ret v), hr2 =>
        obtain ⟨rfl, h', tk, rfl, T, q⟩ := hr2
        repeat (any_goals (first | assumption | wp_step))
        exact k _ _ T q
      | .ok (.next ..), hr2 => exact hr2.elim
      | .ok .brk, hr2 => exact hr2.elim
      | .ok .cont, hr2 => exact hr2.elim
  | .ok (.next ..), hr => exact hr.elim
  | .ok .brk, hr => exact hr.elim
  | .ok .cont, hr => exact hr.elim
theorem strs_of_vals : ∀ (l : List Value), (∀ v ∈ l, ∃ x tk, v = Value.str x tk) → StrsAre l (l.map fun v => txOf (0, v))
  | [], _ => .nil
  | v :: l, h => by
    obtain ⟨x, tk, rfl⟩ := h v List.mem_cons_self
    exact .cons x tk (strs_of_vals l fun u hu => h u (List.mem_cons_of_mem _ hu))
theorem sorted_tx {a : Addr} {L : List Str} {Q : Value → Shared → Prop} (R : SetS w s.heap a L) (hh : A.handled = none) (h64 : L.length < 64)
    (k : ∀ s' p (out : Array Value) (c : Nat) (ys : List Str), (∀ b o, s.heap.get? b = some o → s'.heap.get? b = some o) → s'.gens = s.gens → s'.os = s.os → s.heap.objs.size ≤ p → s'.heap.get? p = some (seqObj "list" out c) → StrsAre out.toList ys → ys.Perm L → sortedS ys = true → Q (.ref p) s') :
    wpAny (model P w) A (call (.builtin "sorted") [.ref a]) Q E s := by
  obtain ⟨o, es, ep, t, ho, hx, hd, g, pm, nd, hb, hf, hr, hl⟩ := R
  refine Calls.call_function_entry kind_sorted plain_sorted entry_sorted (args_sorted1 _) ?_
  unfold Builtin.«sorted»
  refine wpAny_bind (m := checkCount "sorted" 1 1 _) (wpAny_pure ?_)
  refine wpAny_bind (collect_set (A := A.in1) hh ⟨o, ho, hx.1, hd⟩ hf hb hr hl fun s1 vs k1 hz g1 o1 p1 => ?_)
  have p2 : (vs.map fun v => txOf (0, v)).Perm L := by
    have q := p1.map fun v => txOf (0, v)
    rw [List.map_map] at q
    exact q.trans pm
  have vl : vs.length = L.length := by rw [← p2.length_eq, List.length_map]
  have hS := strs_of_vals vs fun v hv => by
    obtain ⟨e, he, q⟩ := List.mem_map.mp (p1.mem_iff.mp hv)
    obtain ⟨x, tk, e1, _⟩ := g e he
    exact ⟨x, tk, by rw [← q]; exact e1⟩
  refine wpAny_bind (wpAny_newList ?_ (by rw [vl, sizeLine_eq]; omega))
  have oL : (s1.heap.push (seqObj "list" vs.toArray 0)).get? s1.heap.objs.size = some (seqObj "list" vs.toArray 0) := Heap.get?_push_size _ rfl
  refine wpAny_bind (wpAny_holding (wpAny_call_entry slot_list_sort ⟨_, oL, rfl⟩ entry_list_sort
    (list_sort_treeK strKind_oneLt oL hS.keysOf (fun v₁ v₂ rest e => keyKind_strs (by rw [← e]; exact hS)) (by rw [vl]; exact h64) fun st' hp hs => ⟨_, rfl, ?_⟩) (args_list_sort _)))
  obtain ⟨ys, g3, g4, g5⟩ := sorted_out_str hS hp hs
  obtain ⟨c, hc⟩ := sortedHeap_at (vs := vs) (out := (arrOf st').map (·.2)) oL
  refine wpAny_pure ⟨_, rfl, k _ s1.heap.objs.size _ c ys (fun b u e => ?_) g1 o1 hz hc g3 (g4.trans p2) g5⟩
  have q := k1 b u e
  have lt := Heap.lt_size q
  show (sortedHeap (s1.heap.push (seqObj "list" vs.toArray 0)) s1.heap.objs.size vs _).get? b = some u
  rw [sortedHeap_old (Nat.ne_of_lt lt) (by rw [size_push']; exact Nat.lt_succ_of_lt lt)]
  exact Heap.get?_push_of_some _ q
end
section
variable {X : Cx}
/-- sorted(set(x)), x a list or tuple of texts -/
def tSortSet (K : PySem.W.Frag) (ta : TE) : TE := fun σ H Q => ta σ H fun x H1 => ∃ l, ∃ xs : List Str, x = .ref l ∧ (SqL K H1 l (xs.map V.str) ∨ SqT K H1 l (xs.map V.str)) ∧ xs.length < 4000 ∧ (once xs).length < 64 ∧
  ∀ (ys : List Str) (p : Addr), ys.Perm (once xs) → sortedS ys = true → H1 p = none → Q (.ref p) (upd H1 p (.lst (ys.map V.str)))
def tLenTx (K : PySem.W.Frag) (ta : TE) : TE := fun σ H Q => ta σ H fun x H1 => ∃ l, ∃ xs : List Str, x = .ref l ∧ (SqL K H1 l (xs.map V.str) ∨ SqT K H1 l (xs.map V.str)) ∧ xs.length < 4000 ∧ Q (.int (once xs).length) H1
theorem set_at {pins : List (Addr × Obj)} {σ : L2.St} {H1 : Hp} {s1 : Shared} {l : Addr} {xs : List Str} {Z : Value → Shared → Prop} (hc : X.calm = true) (I1 : Inv X pins σ H1 s1) (hq : SqL X.K H1 l (xs.map V.str) ∨ SqT X.K H1 l (xs.map V.str)) (hf : xs.length < 4000)
    (k : ∀ (h' : Heap) (tk : Nat), SetS X.w h' s1.heap.objs.size (once xs) → (∀ b o, s1.heap.get? b = some o → h'.get? b = some o) → Inv X pins σ H1 { s1 with heap := h', toks := tk } → Z (.ref s1.heap.objs.size) { s1 with heap := h', toks := tk }) :
    wpAny (model X.prog X.w) X.A (call (.type "set") [.ref l]) Z X.xe s1 := by
  rcases hq with hq | hq
  · obtain ⟨its, r, pl, hz⟩ := I1.list hq
    exact set_of_list xs (I1.ok.hd hc) pl.isList (by simpa using strsAre_of r) hf fun h' tk T q => k h' tk T q (I1.kept q)
  · obtain ⟨its, r, pl, hz⟩ := I1.tuple hq
    exact set_of_tuple xs (I1.ok.hd hc) pl (by simpa using strsAre_of r) hf fun h' tk T q => k h' tk T q (I1.kept q)
theorem pe_sortSet {a : Expr} {ta : TE} {p p2 q pos : Pos} (hc : X.calm = true) (hg : Gl X "sorted") (hm : X.mg "sorted" = none) (hg2 : Gl X "set") (hm2 : X.mg "set" = none) (hb : bootBuiltins "sorted" = some (.builtin "sorted")) (ha : PE X a ta)
    (na : starEach [a] X.env = (false, eval a X.env) :: starEach [] X.env := by rfl) : PE X (.Call (.Name "sorted" p) [.Call (.Name "set" p2) [a] [] q] [] pos) (tSortSet X.K ta) := by
  refine ⟨fun pins s σ H Q I h => ?_⟩
  refine Call_ (ld_blt I hg hm hb ?_)
  refine PyProof.Rows.callWith_builtin1 (PyProof.Rows.args_cons ?_ rfl) rfl rfl
  refine Call_ (ld_blt I hg2 hm2 boot_set ?_)
  refine PyProof.Rows.callWith_type1 (PyProof.Rows.args_cons (thn (ha.run pins s σ H _ I h) fun v s1 ⟨x, H1, I1, r1, q1⟩ => PyProof.Rows.args_nil ?_) na) na rfl
  obtain ⟨l, xs, rfl, hq, hf, h64, k⟩ := q1
  cases r1
  refine set_at hc I1 hq hf fun h' tk T kp I2 => PyProof.Rows.args_nil ?_
  refine sorted_tx T (I2.ok.hd hc) h64 fun s' p out c ys kk g o hp hat hs pm hsd => ?_
  have len : (ys.map V.str).length ≤ sizeLine := by rw [List.length_map, pm.length_eq, sizeLine_eq]; omega
  have hn : H1 p = none := I2.hok.fresh hp
  have J : Inv X pins σ (upd H1 p (.lst (ys.map V.str))) { ({ s1 with heap := h', toks := tk } : Shared) with heap := s'.heap, gens := s'.gens, drawn := s'.drawn, toks := s'.toks } :=
    I2.call (ch := []) (Un.laid kk hp hn) (I2.hok.laid kk hp ⟨len, out.toList, c, vals_of_strs hs, hat⟩) (by rw [g]; exact I2.bare) (fun _ z => nomatch z)
  have e : s' = { s1 with heap := s'.heap, gens := s'.gens, drawn := s'.drawn, toks := s'.toks } := by
    cases s'; cases s1; cases o; rfl
  rw [e]
  exact ⟨.ref p, _, J, rfl, k ys p pm hsd hn⟩
theorem pe_lenTx {a : Expr} {ta : TE} {p p2 q pos : Pos} (hc : X.calm = true) (hg : Gl X "len") (hm : X.mg "len" = none) (hg2 : Gl X "set") (hm2 : X.mg "set" = none) (ha : PE X a ta)
    (na : starEach [a] X.env = (false, eval a X.env) :: starEach [] X.env := by rfl) : PE X (.Call (.Name "len" p) [.Call (.Name "set" p2) [a] [] q] [] pos) (tLenTx X.K ta) := by
  refine ⟨fun pins s σ H Q I h => ?_⟩
  refine Call_ (ld_blt I hg hm boot_len ?_)
  refine PyProof.Rows.callWith_builtin1 (PyProof.Rows.args_cons ?_ rfl) rfl rfl
  refine Call_ (ld_blt I hg2 hm2 boot_set ?_)
  refine PyProof.Rows.callWith_type1 (PyProof.Rows.args_cons (thn (ha.run pins s σ H _ I h) fun v s1 ⟨x, H1, I1, r1, q1⟩ => PyProof.Rows.args_nil ?_) na) na rfl
  obtain ⟨l, xs, rfl, hq, hf, k⟩ := q1
  cases r1
  refine set_at hc I1 hq hf fun h' tk T kp I2 => PyProof.Rows.args_nil ?_
  obtain ⟨o, es, ep, t, ho, hx, hd, g, pm, nd, hb, hf, hr, hl⟩ := T
  have en : es.size = (once xs).length := by rw [← pm.length_eq, List.length_map, Array.length_toList]
  refine call_len_set ho hx hd hf (by rw [en]; have := once_len xs; omega) ⟨.int (once xs).length, H1, I2.tok _, ⟨_, by rw [en]⟩, k⟩
end
end Tx
end EvTx2
section EvOps6
namespace Ev
open PySem PySem.Spec PyProof.Rows L2
section
variable {K : PySem.W.Frag} {ga : Nat → Option Addr} {H H0 H1 H2 : Hp} {μ μ1 μ2 : List Addr} {b : Mk} {E : Eh} {p : Addr}
theorem Kn.dct {kvs : List (Key × D)} {xs : List L2.V} {Q : VK} (k : Kn K ga b H μ E (.new (.dct kvs)) Q) (q : Rp K ga b μ E H) (h : RpVs K ga H μ (kvs.map (·.2)) xs) (hp : H p = none) : Q (.ref p) (upd H p (.dK ((kvs.map (·.1)).zip xs))) :=
  k _ _ μ (Ext.fresh q hp) (q.fresh hp) ⟨p, rfl, ⟨xs, upd_same, h.fresh hp⟩, q.notin hp, hp⟩
theorem pairs_ok : ∀ {ds : List D} {ys : List L2.V} {kvs : List (Key × D)}, RpVs K ga H μ ds ys → ds.mapM D.asPair = some kvs →
    ∃ ps xs, ys = ps.map V.ref ∧ Paired (fun p (kv : Key × V) => SqT K H p [kV kv.1, kv.2]) ps ((kvs.map (·.1)).zip xs) ∧ RpVs K ga H μ (kvs.map (·.2)) xs
  | _, _, _, .nil, e => by
    rw [List.mapM_nil] at e
    cases e
    exact ⟨[], [], rfl, .nil, .nil⟩
  | _, _, _, .cons (d := d) r t, e => by
    rw [List.mapM_cons] at e
    obtain ⟨p, e1, e⟩ := Option.bind_eq_some_iff.mp e
    obtain ⟨ps, e2, e⟩ := Option.bind_eq_some_iff.mp e
    cases e
    obtain ⟨qs, xs, rfl, hp, rx⟩ := pairs_ok t e2
    unfold D.asPair at e1
    split at e1
    · rename_i kd vd
      obtain ⟨key, ek, rfl⟩ := Option.map_eq_some_iff.mp e1
      cases r with
      | tup hq rs =>
        cases rs with
        | cons r1 rs => cases rs with
          | cons r2 rs =>
            cases rs
            have := key_ok r1 ek
            subst this
            exact ⟨_ :: qs, _ :: xs, rfl, .cons hq hp, .cons r2 rx⟩
    · cases e1
theorem low_all {m : Nat} : ∀ {ms kvs : List (Key × D)}, D.lows m (kvs.map (·.2)) = true → D.lows m (ms.map (·.2)) = true → D.lows m ((putAll kvs ms).map (·.2)) = true
  | [], _, h, _ => h
  | p :: ms, kvs, h, g => by
    simp only [List.map_cons, D.lows, Bool.and_eq_true] at g
    exact low_all (ms := ms) (low_map h g.1) g.2
theorem keys_ok : ∀ {kvs : List (Key × D)} {ys : List Str}, kvs.mapM (fun p => keyS p.1) = some ys → kvs.map (·.1) = ys.map Sum.inr
  | [], ys, e => by
    rw [List.mapM_nil] at e
    cases e
    rfl
  | p :: r, ys, e => by
    rw [List.mapM_cons] at e
    obtain ⟨x, e1, e⟩ := Option.bind_eq_some_iff.mp e
    obtain ⟨zs, e2, e⟩ := Option.bind_eq_some_iff.mp e
    cases e
    rw [List.map_cons, List.map_cons, keys_ok e2]
    unfold keyS at e1
    split at e1
    · cases e1
    · rename_i y hy
      cases e1
      rw [hy]
end
section
variable {X : Cx} {ga : Nat → Option Addr} {b : Mk}
theorem dict_okB (hc : X.calm = true) : CallR X (.type "dict") (rCall X.K ga b dicB) := by
  intro pins s σ H xs us Q I r h
  obtain ⟨H0, μ, E, rs, r0, q, hs, e, k⟩ := h
  unfold dicB at e
  split at e
  · cases hs with
    | cons h1 ht =>
      cases ht
      split at e
      · rename_i ds el
        split at e
        · rename_i kvs ek
          cases e
          obtain ⟨a, ys, rfl, ha, ra⟩ := asL_ok q h1 el
          obtain ⟨ps, xs, rfl, hp, rx⟩ := pairs_ok ra ek
          refine call_dictP hc pins s σ H _ us Q I r ⟨a, ps, _, rfl, .inl ha, hp, fun p hn => ?_⟩
          obtain ⟨zs, e2, e3⟩ := merge_ok (acc := []) rx .nil
          have hm : mergeK [] ((kvs.map (·.1)).zip xs) = ((putAll [] kvs).map (·.1)).zip zs := e2
          rw [hm]
          exact k.dct q e3 hn
        · cases e
      · cases e
  · cases e
theorem sorted_ok2 (hc : X.calm = true) : CallR X (.builtin "sorted") (rCall X.K ga b sortB) := by
  intro pins s σ H xs us Q I r h
  obtain ⟨H0, μ, E, rs, r0, q, hs, e, k⟩ := h
  unfold sortB at e
  split at e
  · cases hs with
    | cons h1 ht =>
      cases ht
      split at e
      · rename_i ds el
        split at e
        · rename_i ys ey
          split at e
          · rename_i hz
            cases e
            obtain ⟨a, zs, rfl, ha, ra⟩ := asL_ok q h1 el
            have := strs_ok ra ey
            subst this
            refine cr_sortedS pins s σ H _ us Q I r ⟨a, ys, rfl, .inl ha, hz, fun zs p hp hsd hn => ?_⟩
            rw [sorted_is hp hsd]
            exact k.lst q (rp_strs _) hn
          · cases e
        · cases e
      · split at e
        · rename_i kvs ek
          split at e
          · rename_i ys ey
            split at e
            · rename_i hz
              cases e
              obtain ⟨a, zs, rfl, ha, ra⟩ := asK_ok q h1 ek
              refine call_sortedD hc pins s σ H _ us Q I r ⟨a, _, ys, rfl, ha, ?_, hz, fun zs p hp hsd hn => ?_⟩
              · rw [zip_fst (by rw [List.length_map, ← ra.length, List.length_map])]
                exact keys_ok ey
              · rw [sorted_is hp hsd]
                exact k.lst q (rp_strs _) hn
            · cases e
          · cases e
        · cases e
  · cases e
/-- d.update(other dict) -/
theorem mt_update : MtR X "dict.update" (fun x xs H Q => ∃ (d o : Addr) (kvs ms : List (Key × V)), x = .ref d ∧ xs = [.ref o] ∧ H d = some (.dK kvs) ∧ H o = some (.dK ms) ∧ d ≠ o ∧ kvs.length + ms.length ≤ sizeLine ∧ Q .non (upd H d (.dK (mergeK kvs ms)))) := by
  intro pins s σ H x xs v us Q I rx rs h
  obtain ⟨d, o, kvs, ms, rfl, rfl, hd, ho, hne, hz, q⟩ := h
  cases rx
  obtain ⟨u, rfl, ru⟩ := vals1 rs
  cases ru
  obtain ⟨z1, s1, vs, rel1, dd1⟩ := dk_of I.hok hd
  obtain ⟨z2, s2, ws, rel2, dd2⟩ := dk_of I.hok ho
  refine call_meetsIn PySem.F.slot_dict_update dd1.typeIs PySem.F.entry_dict_update (PySem.F.args_dict_update_2 _ _) (meets_dict_update (mixKind X.prog X.w) d o hne s2)
    ⟨vs, ws, dd1, dd2, by rw [← rel1.length, ← rel2.length]; exact hz, fun h' m1 m2 hs => ?_⟩
  have hl : (mergeK kvs ms).length ≤ sizeLine := Nat.le_trans (length_mergeK ms kvs) hz
  have he : ∃ q, h'.get? d = some q := let ⟨q, _, _, hq, _⟩ := m1; ⟨q, hq⟩
  have J := d_write (t' := s.toks) I (by rw [hd]; exact True.intro) hs he (dk_new hl s1 (KV.merge rel2 rel1) m1)
  exact ⟨.non, _, J, rfl, q⟩
theorem update_ok : MtR X "dict.update" (rMeth X.K ga b (updM b.b)) := by
  intro pins s σ H x xs v us Q I rx rs h
  obtain ⟨H0, H1, μ, E, o, rs', r, E', q, h1, h2, e, k⟩ := h
  unfold updM at e
  split at e
  · rename_i n r1
    split at e
    · rename_i kvs en
      split at e
      · rename_i ms
        split at e
        · rename_i hz
          cases e
          cases h1 with
          | ref hm =>
            rename_i a
            cases h2 with
            | cons hd ht =>
              cases ht
              obtain ⟨ys, hx, ry⟩ := q.ob n _ _ en hm
              obtain ⟨c, rfl, ⟨zs, hc, rz⟩, hnm, _⟩ := hd
              have hac : a ≠ c := fun z => hnm (z ▸ List.mem_of_getElem? hm)
              have l1 : ((kvs.map (·.1)).zip ys).length = kvs.length := by rw [List.length_zip, List.length_map, ← ry.length, List.length_map, Nat.min_self]
              have l2 : ((ms.map (·.1)).zip zs).length = ms.length := by rw [List.length_zip, List.length_map, ← rz.length, List.length_map, Nat.min_self]
              refine mt_update pins s σ H _ _ v us Q I rx rs ⟨a, c, _, _, rfl, rfl, hx, hc, hac, by rw [l1, l2]; exact hz.1, ?_⟩
              obtain ⟨us', e1, e2⟩ := merge_ok rz ry
              rw [e1]
              obtain ⟨q', x'⟩ := q.mut (o' := .dct (putAll kvs ms)) en hm (u := .dK (((putAll kvs ms).map (·.1)).zip us')) ⟨us', upd_same, e2.onto hx id⟩ fun m hm' hb =>
                low_all (q.low m hm' n _ hb en) (by have := mayPut_lowM hz.2 hm' hb; simpa only [D.low] using this)
              exact k _ _ μ x' q' RpV.non
        · cases e
      · cases e
    · cases e
  · cases e
theorem ty_dict (E : Eh) (o : Rv) (H H0 : Hp) (μ : List Addr) (v : V) (h : recv "update" E o = true) (q : Rp X.K ga b μ E H) (r : RpR X.K ga H0 H μ o v) : tyV X.K "dict" v H := by
  unfold recv at h
  rw [if_neg (by decide), if_pos rfl] at h
  split at h
  · rename_i n
    split at h
    · rename_i kvs en
      cases r with
      | ref hm =>
        obtain ⟨xs, hx, _⟩ := q.ob n _ _ en hm
        exact .inr (.inr (.inl ⟨rfl, .inl ⟨_, hx⟩⟩))
    · cases h
  · cases h
end
section
variable {X : Cx} {ga : Nat → Option Addr} {cf : Cf} {b : Mk} {x : PySem.Expr} {ca : Ex} {p p2 q pos : Pos}
theorem sd_sset (hc : X.calm = true) (hg : Gl X "sorted") (hm : X.mg "sorted" = none) (hg2 : Gl X "set") (hm2 : X.mg "set" = none) (ha : PE X x (tE X.K ga cf b ca)) (hp : plain x = true) :
    PE X (.Call (.Name "sorted" p) [.Call (.Name "set" p2) [x] [] q] [] pos) (tE X.K ga cf b (.sset ca)) := by
  refine (Tx.pe_sortSet hc hg hm hg2 hm2 (by decide +kernel) ha (star_cons hp)).weak fun σ H Q h => ?_
  obtain ⟨σd, E, μ, r, E', q, hs, e, k⟩ := h
  simp only [ev] at e
  split at e
  · cases e
  · rename_i r1 E1 e1
    split at e
    · cases e
    · rename_i xs n es
      split at e
      · cases e
      · rename_i ys ey
        split at e
        · rename_i hz
          cases e
          refine ⟨σd, E, μ, r1, E', q, hs, e1, fun v H1 μ1 x1 q1 h1 => ?_⟩
          obtain ⟨a, zs, rfl, rz, hq⟩ := asS_or q1 h1 es
          have := strs_ok rz ey
          subst this
          refine ⟨a, ys, rfl, hq, hz.1, hz.2, fun ws p hp hsd hn => ?_⟩
          rw [sorted_is hp hsd]
          exact (k.back x1 q1).lst q1 (rp_strs _) hn
        · cases e
theorem sd_lset (hc : X.calm = true) (hg : Gl X "len") (hm : X.mg "len" = none) (hg2 : Gl X "set") (hm2 : X.mg "set" = none) (ha : PE X x (tE X.K ga cf b ca)) (hp : plain x = true) :
    PE X (.Call (.Name "len" p) [.Call (.Name "set" p2) [x] [] q] [] pos) (tE X.K ga cf b (.lset ca)) := by
  refine (Tx.pe_lenTx hc hg hm hg2 hm2 ha (star_cons hp)).weak fun σ H Q h => ?_
  obtain ⟨σd, E, μ, r, E', q, hs, e, k⟩ := h
  simp only [ev] at e
  split at e
  · cases e
  · rename_i r1 E1 e1
    split at e
    · cases e
    · rename_i xs n es
      split at e
      · cases e
      · rename_i ys ey
        split at e
        · rename_i hz
          cases e
          refine ⟨σd, E, μ, r1, E', q, hs, e1, fun v H1 μ1 x1 q1 h1 => ?_⟩
          obtain ⟨a, zs, rfl, rz, hq⟩ := asS_or q1 h1 es
          have := strs_ok rz ey
          subst this
          exact ⟨a, ys, rfl, hq, hz, (k.back x1 q1).val q1 (.int _)⟩
        · cases e
end
end Ev
end EvOps6
section EvDc
namespace Ev
open PySem PySem.Spec PyProof.Rows L2
/-! ## dict comprehensions -/
section
variable {K : PySem.W.Frag} {ga : Nat → Option Addr} {b : Mk} {H H0 H1 : Hp} {μ μ0 μ1 : List Addr} {E E1 : Eh}
theorem Rp.sideG {D : Addr} {u w : HO} (q : Rp K ga b μ E H) (hD : D ∉ μ) (hl : H D = some u) (hu : ¬ Fixd u) : Rp K ga b μ E (upd H D w) := by
  have hv : ∀ {ds : List Ev.D} {vs : List L2.V}, RpVs K ga H μ ds vs → RpVs K ga (upd H D w) μ ds vs := fun h => h.onto hl hu
  refine ⟨q.len, q.nd, fun n o a e1 e2 => ?_, q.low, q.bl⟩
  have hn : a ≠ D := fun z => hD (z ▸ List.mem_of_getElem? e2)
  have := q.ob n o a e1 e2
  cases o with
  | lst xs => obtain ⟨zs, h, r⟩ := this; exact ⟨zs, by rw [upd_ne hn]; exact h, hv r⟩
  | dct xs => obtain ⟨zs, h, r⟩ := this; exact ⟨zs, by rw [upd_ne hn]; exact h, hv r⟩
theorem ExtB.sideG {A : Addr} {u w : HO} (x : ExtB K A H1 μ1 H μ) (hl : H A = some u) (hu : ¬ Fixd u) : ExtB K A H1 μ1 (upd H A w) μ := by
  refine ⟨x.pre, fun a o hne h hn => by rw [upd_ne hne]; exact x.oth a o hne h hn, fun a t zs h => fix_keep (fun c v e hw => ?_) a t zs (x.tup a t zs h)⟩
  have hc : c ≠ A := fun z => by
    rw [z, hl] at e
    cases e
    exact hu hw
  rw [upd_ne hc]
  exact e
end
section
variable (K : PySem.W.Frag) (ga : Nat → Option Addr) (cf : Cf) (b : Mk)
def Dw (tg : D → Sd → Eh → Option (Sd × Eh)) (ts : Sd → Eh → Option (Bool × Eh)) (el : Sd → Eh → Option ((Key × Ev.D) × Eh)) (src : Option (Nat × List Ev.D)) (σd : Sd) (ds : List Ev.D) (xs : List (Key × Ev.D)) (E2 : Eh) (H1 : Hp) (μ1 : List Addr) (A : Addr) (i m : Nat) (H : Hp) : Prop :=
  ∃ μ E acc av, ExtB K A H1 μ1 H μ ∧ Rp K ga b μ E H ∧ A ∉ μ ∧ H A = some (.dK ((acc.map (·.1)).zip av)) ∧ RpVs K ga H μ (acc.map (·.2)) av ∧ dcL tg ts el (chk src) σd (ds.drop i) acc E = some (xs, E2) ∧ i + m = ds.length
end
section
variable {X : Cx} {ga : Nat → Option Addr} {cf : Cf} {b : Mk}
theorem dc_read {it : It} {t : Tg} {c : Exo} {kx vx : Ex} {own : List (Str × Nat)} (hv : ∀ i ∈ t.slots, i ∈ own.map (·.2)) (σ : L2.St) (H : Hp) (Q : VK) (q : tE X.K ga cf b (.dcm kx vx t it c own) σ H Q) :
    tDc (tI X.K ga cf b it) (tG X.K ga b t) (tCo X.K ga cf b c) (tE X.K ga cf b kx) (tE X.K ga cf b vx) (own.map (·.2)) σ H Q := by
  obtain ⟨σd, E, μ, r, E', q, hs, e, k⟩ := q
  simp only [ev] at e
  split at e
  · cases e
  · rename_i ds src E1 e1
    split at e
    · rename_i kvs E2 e2
      cases e
      refine ⟨σd, E, μ, ds, src, E1, q, hs, e1, fun J H1 μ1 x1 q1 hJ => ?_⟩
      intro A hA
      have hno : ∀ o, H1 A = some o → H A ≠ none := fun o h => by rw [hA] at h; cases h
      generalize hel : (fun (σ : Sd) (E : Eh) => kvR (ev cf b.b kx σ E) (fun E => ev cf b.b vx σ E)) = el at e2
      refine ⟨Dw X.K ga b (asgT t) (fun σ E => evc cf b.b c σ E) el src (wipeD σd (own.map (·.2))) ds kvs E' H1 μ1 A, ⟨ds.length, μ1, E1, [], [], (Ext.fresh q1 hA).toB, q1.fresh hA, q1.notin hA, upd_same, .nil, by rw [List.drop_zero]; exact e2, by omega⟩, ?_⟩
      intro i m H2 hW
      obtain ⟨μ2, Ew, acc, av, xw, qw, hAw, hlw, rsw, ew, em⟩ := hW
      by_cases hi : i < ds.length
      · have hd : ds.drop i = ds[i] :: ds.drop (i + 1) := List.drop_eq_getElem_cons hi
        rw [hd] at ew
        simp only [dcL] at ew
        split at ew
        · rename_i hk
          obtain ⟨hgo, hy⟩ := (hJ H2 μ2 Ew (xw.f hno) qw hk i).1 ds[i] (List.getElem?_eq_getElem hi)
          refine .inr ⟨hgo, Dw X.K ga b (asgT t) (fun σ E => evc cf b.b c σ E) el src (wipeD σd (own.map (·.2))) ds kvs E' H1 μ1 A (i + 1) (m - 1), fun H' h => ⟨m - 1, by omega, h⟩, fun y H' yy => ?_⟩
          split at ew
          · cases ew
          · rename_i σ1 Ea ea
            obtain ⟨xa, qa, ra⟩ := hy y H' yy
            have xA := xw.more qw hlw xa
            have lA := xa.oth _ _ hlw hAw
            refine ⟨_, Ew, μ2, ds[i], σ1, Ea, qa, (((hs.mono x1).wipe (own.map (·.2))).monoB xw).mono xa, ra, ea, fun σ2 H3 μ3 xb qb hs2 bt => ⟨wipe_but bt hv, ?_⟩⟩
            have xB := xA.more qa lA xb
            have lB := xb.oth _ _ lA hAw
            have nB := xb.notin lA hAw
            split at ew
            · cases ew
            · rename_i Eb eb
              refine ⟨σ1, Ea, μ3, false, Eb, qb, hs2, eb, fun H4 μ4 xc qc => ?_⟩
              refine iteF ?_
              have xC := xB.more qb lB xc
              exact ⟨μ4, Eb, acc, av, xC, qc, xc.notin lB nB, xc.oth _ _ lB nB, RpVs.mono' xc.tup xc.at (RpVs.mono' xb.tup xb.at (RpVs.mono' xa.tup xa.at rsw)), ew, by omega⟩
            · rename_i Eb eb
              split at ew
              · cases ew
              · rename_i y0 Ec ec
                split at ew
                · rename_i hz
                  refine ⟨σ1, Ea, μ3, true, Eb, qb, hs2, eb, fun H4 μ4 xc qc => ?_⟩
                  refine iteT ?_
                  have xC := xB.more qb lB xc
                  have lC := xc.oth _ _ lB nB
                  have nC := xc.notin lB nB
                  subst hel
                  have ec : kvR (ev cf b.b kx σ1 Eb) (fun E => ev cf b.b vx σ1 E) = some (y0, Ec) := ec
                  unfold kvR at ec
                  split at ec
                  · rename_i kd E3 e3
                    split at ec
                    · rename_i key ek
                      obtain ⟨⟨r0, Er⟩, er, ereg⟩ := Option.map_eq_some_iff.mp ec
                      refine ⟨σ1, Eb, μ4, .val kd, E3, qc, hs2.mono xc, e3, fun w0 H5 μ5 xd qd hd0 => ?_⟩
                      have xD := xC.more qc lC xd
                      have lD := xd.oth _ _ lC nC
                      have nD := xd.notin lC nC
                      have hkey := key_ok hd0 ek
                      refine ⟨σ1, E3, μ5, r0, Er, qd, (hs2.mono xc).mono xd, er, fun w1 H6 μ6 xe qe hr => ?_⟩
                      obtain ⟨μ7, y7, up7, q7, rv7⟩ := reg_ok xe qe hr
                      have e5 : (key, (reg r0 Er).1) = y0 := congrArg Prod.fst ereg
                      have e6 : (reg r0 Er).2 = Ec := congrArg Prod.snd ereg
                      subst e5
                      subst e6
                      have lE := y7.oth _ _ lD nD
                      have nE := y7.notin lD nD
                      have xE := xD.more qd lD y7
                      have rsE : RpVs X.K ga H6 μ7 (acc.map (·.2)) av := RpVs.mono' y7.tup y7.at (RpVs.mono' xd.tup xd.at (RpVs.mono' xc.tup xc.at (RpVs.mono' xb.tup xb.at (RpVs.mono' xa.tup xa.at rsw))))
                      refine ⟨_, key, hkey, lE, ?_, ?_⟩
                      · rw [List.length_zip, List.length_map, ← rsE.length, List.length_map, Nat.min_self]; exact hz
                      · obtain ⟨ys, p1, p2⟩ := put_ok (k := key) rv7 rsE
                        rw [p1]
                        exact ⟨μ7, (reg r0 Er).2, put acc key (reg r0 Er).1, ys, xE.sideG lE id, q7.sideG nE lE id, nE, upd_same, p2.onto lE id, ew, by omega⟩
                    · cases ec
                  · cases ec
                · cases ew
        · cases ew
      · have hd : ds.drop i = [] := List.drop_eq_nil_of_le (by omega)
        rw [hd] at ew
        simp only [dcL] at ew
        split at ew
        · rename_i hk
          cases ew
          refine .inl ⟨(hJ H2 μ2 _ (xw.f hno) qw hk i).2 (by omega), ?_⟩
          have xx := xw.all hA
          exact k _ H2 μ2 (x1.trans q1 xx) qw ⟨A, rfl, ⟨av, hlw, rsw⟩, hAw, x1.none q1 hA⟩
        · cases ew
    · cases e
end
end Ev
end EvDc
section EvChk
namespace Ev
open PySem PySem.Spec PyProof.Rows L2

/-! ## the core is the text's -/
def visB (sc : Scope) (x : Str) : Bool := match sc.names.lookup x with
  | some .local => true | some .cell => true | some .free => true | _ => false
def glB (sc : Scope) (x : Str) : Bool := match sc.names.lookup x with
  | some .globalImplicit => true | _ => false
def lcB (sc : Scope) (x : Str) : Bool := match sc.names.lookup x with
  | some .local => true | _ => false
def clB (sc : Scope) (x : Str) : Bool := match sc.names.lookup x with
  | some .cell => true | _ => false
mutual
def Tg.size : Tg → Nat
  | _ => 1
def Tgs.len : Tgs → Nat
  | .nil => 0
  | .cons _ r => r.len + 1
end
def Exs.isNil : Exs → Bool
  | .nil => true
  | .cons _ _ => false
structure Sx where
  sc : Scope
  fn : Str → Bool
def Sx.blk (S : Sx) (scope : Scope) : Sx := ⟨relS scope S.sc, fun x => scope.names.lookup x == some .cell⟩
def nameOk (x : Str) : Bool := !(x == ("__debug__" : Str)) && !(x == ("__classdict__" : Str))
def notSet : PySem.Expr → Bool
  | .Set _ _ _ => false
  | _ => true
def notSlice : PySem.Expr → Bool
  | .Slice _ _ _ _ => false
  | _ => true
def notComp : PySem.Expr → Bool
  | .ListComp .. => false
  | .SetComp .. => false
  | .DictComp .. => false
  | _ => true
def oneArgs : List String := ["len", "tuple", "list", "repr", "str", "int", "all", "any", "sorted", "dict"]
def methArgs : List (String × Nat) := [("append", 1), ("extend", 1), ("pop", 0), ("split", 1), ("join", 1), ("update", 1)]
def isTuple : PySem.Expr → Bool
  | .Tuple _ _ _ => true
  | _ => false
section
variable (N : List Str) (fns : List (Str × Nat))
def isNm (S : Sx) (i : Nat) : PySem.Expr → Bool
  | .Name x _ => decide (N[i]? = some x) && (lcB S.sc x || (clB S.sc x && S.fn x))
  | _ => false
mutual
def isT (S : Sx) : Tg → PySem.Expr → Bool
  | .nm i, e => isNm N S i e
  | .tp ts, e => match e with
    | .Tuple l _ _ => isTs S ts l && decide (ts.len = l.length)
    | _ => false
  | .star is j, e => match e with
    | .Tuple l _ _ => isStar (isNm N S) is j l
    | _ => false
  | .starF is j, e => match e with
    | .Tuple l _ _ => isStar (isNm N S) is j l
    | _ => false
def isTs (S : Sx) : Tgs → List PySem.Expr → Bool
  | .nil, l => l.isEmpty
  | .cons t r, l => match l with
    | e :: l => plain e && isT S t e && isTs S r l
    | [] => false
end
mutual
def isE (S : Sx) : Ex → PySem.Expr → Bool
  | .var i, e => match e with
    | .Name x _ => decide (N[i]? = some x) && visB S.sc x && nameOk x
    | _ => false
  | .int i, e => match e with
    | .Constant (.int j) _ _ => decide (i = j)
    | _ => false
  | .str i, e => match e with
    | .Constant (.str j) _ _ => decide (i = j)
    | _ => false
  | .bl i, e => match e with
    | .Constant (.bool j) _ _ => decide (i = j)
    | _ => false
  | .non, e => match e with
    | .Constant .none _ _ => true
    | _ => false
  | .tup cs, e => match e with
    | .Tuple l _ _ => isEs S cs l
    | _ => false
  | .lst cs, e => match e with
    | .List l _ => isEs S cs l
    | _ => false
  | .dct ks vs, e => match e with
    | .Dict keys values _ => isP S vs ks keys values && decide (keys.length ≤ 15)
    | _ => false
  | .bin op a b, e => match e with
    | .BinOp x op' y _ => decide (op = op') && isE S a x && isE S b y
    | _ => false
  | .neg a, e => match e with
    | .UnaryOp .USub x _ => isE S a x
    | _ => false
  | .not a, e => match e with
    | .UnaryOp .Not x _ => isE S a x
    | _ => false
  | .bop a cs, e => match e with
    | .BoolOp op l _ => decide (op = if a then .And else .Or) && isB S cs l
    | _ => false
  | .cmp op a b, e => match e with
    | .Compare x [op'] [y] _ => decide (op = op') && isE S a x && isE S b y && notSet y
    | _ => false
  | .ifx t a b, e => match e with
    | .IfExp z x y _ => isE S t z && isE S a x && isE S b y
    | _ => false
  | .call j cs, e => match e with
    | .Call (.Name x _) l [] _ => decide (fns[j]?.map (·.1) = some x) && glB S.sc x && nameOk x && isEs S cs l
    | _ => false
  | .callB f cs, e => match e with
    | .Call (.Name x _) [a] [] _ => decide (x = Str.ofString f) && decide (f ∈ oneArgs) && glB S.sc x && isEs S cs [a]
    | _ => false
  | .meth m o cs, e => match e with
    | .Call (.Attribute x a ap) l [] cp => decide (a = Str.ofString m) && decide ((m, l.length) ∈ methArgs) && noSuper x && (ap.endLine == cp.line) && isE S o x && isEs S cs l
    | _ => false
  | .idx a i, e => match e with
    | .Subscript x y _ => isE S a x && isE S i y && notSlice y
    | _ => false
  | .slc a lo hi, e => match e with
    | .Subscript x (.Slice l h none _) _ => isE S a x && isO S lo l && isO S hi h
    | _ => false
  | .frz a, e => isE S a e
  | .dget o k d, e => match e with
    | .Call (.Attribute x a ap) [y, z] [] cp => decide (a = Str.ofString "get") && noSuper x && (ap.endLine == cp.line) && plain y && plain z && isE S o x && isE S k y && isE S d z
    | _ => false
  | .isi a T, e => match e with
    | .Call (.Name x _) [y, .Name z _] [] _ => decide (x = Str.ofString "isinstance") && decide (z = Str.ofString T) && decide (T ∈ isiTys) && glB S.sc x && glB S.sc z && plain y && isE S a y
    | _ => false
  | .sset a, e => match e with
    | .Call (.Name x _) [.Call (.Name y _) [z] [] _] [] _ => decide (x = Str.ofString "sorted") && decide (y = Str.ofString "set") && glB S.sc x && glB S.sc y && plain z && isE S a z
    | _ => false
  | .lset a, e => match e with
    | .Call (.Name x _) [.Call (.Name y _) [z] [] _] [] _ => decide (x = Str.ofString "len") && decide (y = Str.ofString "set") && glB S.sc x && glB S.sc y && plain z && isE S a z
    | _ => false
  | .dcx es, e => match e with
    | .Dict keys values _ => isX S es keys values && decide (keys.length ≤ 15) && !keys.isEmpty
    | _ => false
  | .dcm k v tg it c own, e => match e with
    | .DictComp x y [⟨t, i, ifs, 0⟩] scope _ => blkC N S.sc scope own && isE (S.blk scope) k x && isE (S.blk scope) v y && isT N (S.blk scope) tg t && isI S it t i && isC (S.blk scope) c ifs && notSet i && decide (∀ k ∈ tg.slots, k ∈ own.map (·.2))
    | _ => false
  | .rev a, e => match e with
    | .Subscript x (.Slice none none (some (.UnaryOp .USub (.Constant (.int 1) _ _) _)) _) _ => isE S a x
    | _ => false
  | .lc elt tg it c own, e => match e with
    | .ListComp x [⟨t, i, ifs, 0⟩] scope _ => blkC N S.sc scope own && isE (S.blk scope) elt x && isT N (S.blk scope) tg t && isI S it t i && isC (S.blk scope) c ifs && notSet i && decide (∀ k ∈ tg.slots, k ∈ own.map (·.2))
    | _ => false
  | .lc2 elt tg it tg1 it1 own own1, e => match e with
    | .ListComp x [⟨t, i, [], 0⟩, ⟨t1, i1, [], 0⟩] scope _ => blkC N S.sc scope own && isE (S.blk scope) elt x && isT N (S.blk scope) tg t && isI S it t i && isT N (S.blk scope) tg1 t1 && isI (S.blk scope) it1 t1 i1 && notSet i && notSet i1 &&
        decide (∀ k ∈ tg.slots, k ∈ own.map (·.2)) && decide (∀ k ∈ tg1.slots, k ∈ own1) && decide (∀ k ∈ own1, k ∈ own.map (·.2))
    | _ => false
def isEs (S : Sx) : Exs → List PySem.Expr → Bool
  | .nil, l => l.isEmpty
  | .cons c r, l => match l with
    | e :: l => plain e && isE S c e && isEs S r l
    | [] => false
/-- and, or: one thing at least -/
def isB (S : Sx) : Exs → List PySem.Expr → Bool
  | .nil, _ => false
  | .cons c r, l => match l with
    | [] => false
    | e :: l => isE S c e && (if r.isNil = true then l.isEmpty else isB S r l)
def isP (S : Sx) : Exs → Exs → List (Option PySem.Expr) → List PySem.Expr → Bool
  | .nil, ks, keys, values => match ks with
    | .nil => keys.isEmpty && values.isEmpty
    | .cons _ _ => false
  | .cons v vs, ks, keys, values => match ks, keys, values with
    | .cons (.str x) ks, some (.Constant (.str y) _ _) :: keys, w :: values => decide (x = y) && isE S v w && isP S vs ks keys values
    | _, _, _ => false
def isX (S : Sx) : Exs → List (Option PySem.Expr) → List PySem.Expr → Bool
  | .nil, keys, values => keys.isEmpty && values.isEmpty
  | .cons k r, keys, values => match r with
    | .nil => false
    | .cons v r2 => match keys, values with
      | some x :: keys, w :: values => isE S k x && isE S v w && isX S r2 keys values
      | _, _ => false
def isO (S : Sx) : Exo → Option PySem.Expr → Bool
  | .none, e => e.isNone
  | .some c, e => match e with
    | some e => isE S c e
    | none => false
def isC (S : Sx) : Exo → List PySem.Expr → Bool
  | .none, l => l.isEmpty
  | .some c, l => match l with
    | [e] => isE S c e
    | _ => false
def isI (S : Sx) : It → PySem.Expr → PySem.Expr → Bool
  | .seq c, _, e => isE S c e
  | .range cs, _, e => match e with
    | .Call (.Name x _) l [] _ => decide (x = Str.ofString "range") && glB S.sc x && isEs S cs l && (decide (l.length = 1) || decide (l.length = 2))
    | _ => false
  | .enum c, t, e => match e with
    | .Call (.Name x _) [a] [] _ => decide (x = Str.ofString "enumerate") && glB S.sc x && plain a && isE S c a && isTuple t
    | _ => false
end
end
end Ev
end EvChk
section EvMst
namespace Ev
open PySem PySem.Spec PyProof.Rows L2

theorem visB_ok {sc : Scope} {x : Str} (h : visB sc x = true) : Vis sc x := by
  unfold visB at h
  split at h
  · exact .inl (by assumption)
  · exact .inr (.inl (by assumption))
  · exact .inr (.inr (by assumption))
  · cases h
theorem glB_ok {sc : Scope} {x : Str} (h : glB sc x = true) : sc.names.lookup x = some .globalImplicit := by
  unfold glB at h
  split at h
  · assumption
  · cases h
theorem lcB_ok {sc : Scope} {x : Str} (h : lcB sc x = true) : sc.names.lookup x = some .local := by
  unfold lcB at h
  split at h
  · assumption
  · cases h
theorem clB_ok {sc : Scope} {x : Str} (h : clB sc x = true) : sc.names.lookup x = some .cell := by
  unfold clB at h
  split at h
  · assumption
  · cases h
theorem nameOk_ok {x : Str} (h : nameOk x = true) : (x == ("__debug__" : Str)) = false ∧ (x == ("__classdict__" : Str)) = false := by
  unfold nameOk at h
  rw [Bool.and_eq_true, Bool.not_eq_true', Bool.not_eq_true'] at h
  exact h
theorem notSet_marks {op : CmpOp} {e : PySem.Expr} (h : notSet e = true) : behindInMarks op e = false := by
  cases e <;> first | rfl | cases h
theorem notSet_fold {e : PySem.Expr} {env : Env} (h : notSet e = true) (x : Value) : foldedSetIterable e env x = pure x := by
  cases e <;> first | rfl | cases h
theorem notSlice_ix {e : PySem.Expr} (h : notSlice e = true) : PlainIx e := by
  intro o i
  cases e <;> first | rfl | cases h
def blts : List Str := ["len", "tuple", "list", "repr", "range", "enumerate", "str", "int", "all", "any", "isinstance", "bool", "dict", "sorted", "set"]
/-- what is known where code of the program runs -/
structure Ok (N : List Str) (fns : List (Str × Nat)) (ga : Nat → Option Addr) (cf : Cf) (k : Nat) (X : Cx) (S : Sx) : Prop where
  calm : X.calm = true
  room : Room k X.A
  grd : X.A.guards = some []
  nd : N.Nodup
  hN : X.N = N
  sc : X.env.scope = S.sc
  kind : S.sc.kind = .function
  fn : ∀ x, S.fn x = true → X.fn x = true
  xe : X.xe = fun _ _ => False
  blt : ∀ x ∈ blts, X.mg x = none
  dfs : ∀ (j : Nat) (x : Str) (np : Nat), fns[j]? = some (x, np) → ∃ f fd ps, X.mg x = some (.ref f) ∧ PySem.W.keepIn X.K (.ref f) = true ∧ Binds X.K fd ps [] ∧ FnG X.prog X.w X.K X.mg X.base k f fd ps (spF X.K ga np (cf j))
  cfn : ∀ (j : Nat) (x : Str) (np : Nat), fns[j]? = some (x, np) → ∀ ds E r, cf j ds E = some r → ds.length = np
section
variable {N : List Str} {fns : List (Str × Nat)} {ga : Nat → Option Addr} {cf : Cf} {k : Nat}
theorem Ok.blk {X : Cx} {S : Sx} (O : Ok N fns ga cf k X S) {scope : Scope} {own : List (Str × Nat)} (hb : BlkOk N S.sc scope own) (s : Shared) (H : Hp) (C : Addr) (cl : List (Str × Addr)) (fp : List Addr) :
    Ok N fns ga cf k (X.blk s H scope (compEnvC scope cl C X.env) fp) (S.blk scope) :=
  { calm := O.calm, room := O.room, grd := O.grd, nd := O.nd, hN := O.hN,
    sc := by
      have e := O.sc
      show relabel scope X.env = relS scope S.sc
      rw [← e]
      rfl
    kind := hb.kind, fn := fun x h => h, xe := rfl, blt := O.blt, dfs := O.dfs, cfn := O.cfn }
theorem Ok.gl {X : Cx} {S : Sx} (O : Ok N fns ga cf k X S) {x : Str} (h : glB S.sc x = true) : Gl X x := by
  show X.env.scope.names.lookup x = _
  rw [O.sc]
  exact glB_ok h
theorem Ok.nm {X : Cx} {S : Sx} (O : Ok N fns ga cf k X S) {i : Nat} {e : PySem.Expr} (h : isNm N S i e = true) : PG X e (gName i) := by
  unfold isNm at h
  split at h
  · rename_i x p
    rw [Bool.and_eq_true, Bool.or_eq_true, Bool.and_eq_true] at h
    obtain ⟨h1, h2⟩ := h
    have hN : X.N[i]? = some x := by rw [O.hN]; exact of_decide_eq_true h1
    have hnd : X.N.Nodup := by rw [O.hN]; exact O.nd
    rcases h2 with h2 | ⟨h2, h3⟩
    · have hl : X.env.scope.names.lookup x = some .local := by rw [O.sc]; exact lcB_ok h2
      exact pg_name hnd hN (.inl hl) (.inr hl)
    · have hl : X.env.scope.names.lookup x = some .cell := by rw [O.sc]; exact clB_ok h2
      exact pg_name hnd hN (.inr hl) (.inl (O.fn x h3))
  · cases h
/-! targets -/
mutual
theorem sndG {b : Mk} : ∀ (t : Tg) {X : Cx} {S : Sx} {e : PySem.Expr}, Ok N fns ga cf k X S → isT N S t e = true → PG X e (tG X.K ga b t)
  | .nm i, X, S, e, O, h => by
    simp only [isT] at h
    have hg := O.nm h
    unfold isNm at h
    split at h
    · exact g_nm hg
    · cases h
  | .tp ts, X, S, e, O, h => by
    simp only [isT] at h
    split at h
    · rename_i l kk p
      rw [Bool.and_eq_true] at h
      obtain ⟨h1, h2⟩ := h
      exact g_tp O.calm (sndGs ts O h1).1 (sndGs (b := b) ts O h1).2 fun ds σ E r e => (asgTs_len e).trans (of_decide_eq_true h2)
    · cases h
  | .star is j, X, S, e, O, h => by
    simp only [isT] at h
    split at h
    · exact g_star O.calm (fun i e he => O.nm he) h
    · cases h
  | .starF is j, X, S, e, O, h => by
    simp only [isT] at h
    split at h
    · exact g_starF O.calm (fun i e he => O.nm he) h
    · cases h
theorem sndGs {b : Mk} : ∀ (ts : Tgs) {X : Cx} {S : Sx} {l : List PySem.Expr}, Ok N fns ga cf k X S → isTs N S ts l = true → PGs X l (tGs X.K ga b ts) ∧ l.all plain = true
  | .nil, X, S, l, O, h => by
    simp only [isTs] at h
    cases l with
    | nil => exact ⟨g_nil, rfl⟩
    | cons _ _ => cases h
  | .cons t r, X, S, l, O, h => by
    simp only [isTs] at h
    split at h
    · rw [Bool.and_eq_true, Bool.and_eq_true] at h
      obtain ⟨⟨h1, h2⟩, h3⟩ := h
      obtain ⟨h4, h5⟩ := sndGs r (b := b) O h3
      exact ⟨g_cons (sndG t O h2) h4 h1, by rw [List.all_cons, h1, h5]; rfl⟩
    · cases h
theorem asgTs_len : ∀ {ts : Tgs} {ds : List D} {σ : Sd} {E : Eh} {r : Sd × Eh}, asgTs ts ds σ E = some r → ds.length = ts.len
  | .nil, ds, _, _, _, h => by
    simp only [asgTs] at h
    split at h
    · rfl
    · cases h
  | .cons t r, ds, _, _, _, h => by
    simp only [asgTs] at h
    split at h
    · split at h
      · rw [List.length_cons, asgTs_len h]
        rfl
      · cases h
    · cases h
end
theorem isEs_plain : ∀ {cs : Exs} {S : Sx} {l : List PySem.Expr}, isEs N fns S cs l = true → l.all plain = true
  | .nil, S, l, h => by
    simp only [isEs] at h
    cases l with
    | nil => rfl
    | cons _ _ => cases h
  | .cons c r, S, l, h => by
    simp only [isEs] at h
    split at h
    · rw [Bool.and_eq_true, Bool.and_eq_true] at h
      rw [List.all_cons, h.1.1, isEs_plain h.2]
      rfl
    · cases h
theorem isEs_nil : ∀ {cs : Exs} {S : Sx}, isEs N fns S cs [] = true → cs = .nil
  | .nil, _, _ => rfl
  | .cons _ _, _, h => by simp only [isEs] at h; cases h
/-! a call of a built-in, by its name -/
theorem call_one {b : Mk} {X : Cx} {S : Sx} (O : Ok N fns ga cf k X S) {f : String} {x : PySem.Expr} {c : Exs} {p pos : Pos} (hf : f ∈ oneArgs) (hg : glB S.sc (Str.ofString f) = true) (ha : PA X [x] (tEr X.K ga cf b c)) (hp : plain x = true) :
    PE X (.Call (.Name (Str.ofString f) p) [x] [] pos) (tE X.K ga cf b (.callB f c)) := by
  have st := star_cons (es := []) (env := X.env) hp
  rcases List.mem_cons.mp hf with rfl | hf
  · exact sd_callB (fun _ _ => rfl) (pe_callB (len_ok (ga := ga) (b := b)) (O.gl hg) (O.blt _ (by decide +kernel)) (by decide +kernel) ha (by decide +kernel) (by decide +kernel) st rfl)
  rcases List.mem_cons.mp hf with rfl | hf
  · exact sd_callB (fun _ _ => rfl) (pe_callTy (tuple_ok (ga := ga) (b := b) O.calm) (O.gl hg) (O.blt _ (by decide +kernel)) (by decide +kernel) ha (by decide +kernel) (by decide +kernel) st rfl)
  rcases List.mem_cons.mp hf with rfl | hf
  · exact sd_callB (fun _ _ => rfl) (pe_callTy (list_ok (ga := ga) (b := b)) (O.gl hg) (O.blt _ (by decide +kernel)) (by decide +kernel) ha (by decide +kernel) (by decide +kernel) st rfl)
  rcases List.mem_cons.mp hf with rfl | hf
  · exact sd_callB (fun _ _ => rfl) (pe_callB (repr_ok (ga := ga) (b := b) O.grd O.room) (O.gl hg) (O.blt _ (by decide +kernel)) (by decide +kernel) ha (by decide +kernel) (by decide +kernel) st rfl)
  rcases List.mem_cons.mp hf with rfl | hf
  · exact sd_callB (fun _ _ => rfl) (pe_callTy (str_ok (ga := ga) (b := b)) (O.gl hg) (O.blt _ (by decide +kernel)) (by decide +kernel) ha (by decide +kernel) (by decide +kernel) st rfl)
  rcases List.mem_cons.mp hf with rfl | hf
  · exact sd_callB (fun _ _ => rfl) (pe_callTy (int_ok (ga := ga) (b := b)) (O.gl hg) (O.blt _ (by decide +kernel)) (by decide +kernel) ha (by decide +kernel) (by decide +kernel) st rfl)
  rcases List.mem_cons.mp hf with rfl | hf
  · exact sd_callB (fun _ _ => rfl) (pe_callB (all_okB (ga := ga) (b := b) O.calm) (O.gl hg) (O.blt _ (by decide +kernel)) (by decide +kernel) ha (by decide +kernel) (by decide +kernel) st rfl)
  rcases List.mem_cons.mp hf with rfl | hf
  · exact sd_callB (fun _ _ => rfl) (pe_callB (any_okB (ga := ga) (b := b) O.calm) (O.gl hg) (O.blt _ (by decide +kernel)) (by decide +kernel) ha (by decide +kernel) (by decide +kernel) st rfl)
  rcases List.mem_cons.mp hf with rfl | hf
  · exact sd_callB (fun _ _ => rfl) (pe_callB (sorted_ok2 (ga := ga) (b := b) O.calm) (O.gl hg) (O.blt _ (by decide +kernel)) (by decide +kernel) ha (by decide +kernel) (by decide +kernel) st rfl)
  rcases List.mem_cons.mp hf with rfl | hf
  · exact sd_callB (fun _ _ => rfl) (pe_callTy (dict_okB (ga := ga) (b := b) O.calm) (O.gl hg) (O.blt _ (by decide +kernel)) (by decide +kernel) ha (by decide +kernel) (by decide +kernel) st rfl)
  · cases hf
theorem meth_one {b : Mk} {X : Cx} {S : Sx} (O : Ok N fns ga cf k X S) {m : String} {o : PySem.Expr} {co : Ex} {l : List PySem.Expr} {c : Exs} {ap cp : Pos} (hm : (m, l.length) ∈ methArgs) (hn : noSuper o = true) (hl : (ap.endLine == cp.line) = true)
    (ho : PE X o (tE X.K ga cf b co)) (ha : PA X l (tEr X.K ga cf b c)) (hp : l.all plain = true) (hc : l = [] → c = .nil) : PE X (.Call (.Attribute o (Str.ofString m) ap) l [] cp) (tE X.K ga cf b (.meth m co c)) := by
  have one : ∀ {T id : String} {g : Eh → Rv → List Rv → Option (Rv × Eh)}, l.length = 1 → (∀ E o rs, methop b.b E m o rs = g E o rs) → PlainAttrs T → Slot T (Str.ofString m) id → typeOf (.builtin id) = pure (.type "method_descriptor") → MtR X id (rMeth X.K ga b g) →
      (∀ (E : Eh) (o : Rv) (H H0 : Hp) (μ : List Addr) (v : V), recv m E o = true → Rp X.K ga b μ E H → RpR X.K ga H0 H μ o v → tyV X.K T v H) → PE X (.Call (.Attribute o (Str.ofString m) ap) l [] cp) (tE X.K ga cf b (.meth m co c)) := by
    intro T id g hlen hcb pa sl ty mt hty
    match l, hlen, ha, hp with
    | [e], _, ha, hp =>
      have hp1 : plain e = true := by
        rw [List.all_cons, Bool.and_eq_true] at hp
        exact hp.1
      exact sd_meth hcb hty (pe_bm pa sl ty mt ho ha (base_ok hn) (few_ok hp (by simp)) hl (star_cons hp1) rfl)
  rcases List.mem_cons.mp hm with h | hm
  · obtain ⟨rfl, hl1⟩ := Prod.mk.inj h
    exact one hl1 (fun _ _ _ => rfl) PySem.F.plainAttrs_list PySem.F.slot_list_append PySem.F.type_list_append append_ok (ty_list (by decide) (by decide))
  rcases List.mem_cons.mp hm with h | hm
  · obtain ⟨rfl, hl1⟩ := Prod.mk.inj h
    exact one hl1 (fun _ _ _ => rfl) PySem.F.plainAttrs_list PySem.F.slot_list_extend PySem.F.type_list_extend extend_ok (ty_list (by decide) (by decide))
  rcases List.mem_cons.mp hm with h | hm
  · obtain ⟨rfl, hl1⟩ := Prod.mk.inj h
    have e0 : l = [] := List.eq_nil_of_length_eq_zero hl1
    obtain rfl := hc e0
    subst e0
    exact s_meth0 (fun _ _ _ => rfl) (ty_list (by decide) (by decide)) (pe_bm0 PySem.F.plainAttrs_list PySem.F.slot_list_pop PySem.F.type_list_pop pop_ok ho (base_ok hn) hl)
  rcases List.mem_cons.mp hm with h | hm
  · obtain ⟨rfl, hl1⟩ := Prod.mk.inj h
    exact one hl1 (fun _ _ _ => rfl) PySem.F.plainAttrs_str PySem.F.slot_str_split PySem.F.type_str_split split_ok (ty_str (.inl rfl))
  rcases List.mem_cons.mp hm with h | hm
  · obtain ⟨rfl, hl1⟩ := Prod.mk.inj h
    exact one hl1 (fun _ _ _ => rfl) PySem.F.plainAttrs_str PySem.F.slot_str_join PySem.F.type_str_join join_ok (ty_str (.inr rfl))
  rcases List.mem_cons.mp hm with h | hm
  · obtain ⟨rfl, hl1⟩ := Prod.mk.inj h
    exact one hl1 (fun _ _ _ => rfl) PySem.F.plainAttrs_dict PySem.F.slot_dict_update PySem.F.type_dict_update update_ok ty_dict
  · cases hm
theorem isi_one {b : Mk} {X : Cx} {S : Sx} (O : Ok N fns ga cf k X S) {T : String} {x : PySem.Expr} {c : Ex} {p p1 pos : Pos} (hT : T ∈ isiTys) (hg : glB S.sc (Str.ofString "isinstance") = true) (hg1 : glB S.sc (Str.ofString T) = true) (hp : plain x = true) (hx : PE X x (tE X.K ga cf b c)) :
    PE X (.Call (.Name (Str.ofString "isinstance") p) [x, .Name (Str.ofString T) p1] [] pos) (tE X.K ga cf b (.isi c T)) := by
  refine sd_isi hT hx (O.gl hg) (O.blt _ (by decide +kernel)) (O.gl hg1) (O.blt _ ?_) hp
  unfold isiTys at hT
  simp only [List.mem_cons, List.not_mem_nil, or_false] at hT
  rcases hT with rfl | rfl | rfl | rfl | rfl | rfl <;> decide +kernel
theorem m2_ok {X : Cx} {x y z : PySem.Expr} {ap cp : Pos} (h1 : noSuper x = true) (h2 : (ap.endLine == cp.line) = true) (h3 : plain y = true) (h4 : plain z = true) : M2 X x (Str.ofString "get") ap y z cp :=
  ⟨base_ok h1, few_ok (by simp [h3, h4]) (by simp), h2, by rw [star_cons h3, star_cons h4]; rfl⟩
end
end Ev
end EvMst
section EvMst2
namespace Ev
open PySem PySem.Spec PyProof.Rows L2
section
variable {N : List Str} {fns : List (Str × Nat)} {ga : Nat → Option Addr} {cf : Cf} {k : Nat} {b : Mk}
theorem no_test {X : Cx} {e : PySem.Expr} {c : Ex} (h : ∀ σ E, ts cf b.b c σ E = none) : PT X e (tT X.K ga cf b c) := ⟨fun pins s σ H Q I q => by
  obtain ⟨σd, E, μ, t, E', _, _, e, _⟩ := q
  rw [h] at e
  cases e⟩
theorem s_cmpT {X : Cx} {x y : PySem.Expr} {ca cb : Ex} {pos : Pos} {kr : Nat} (hr : Room kr X.A) {op : CmpOp} (ha : PE X x (tE X.K ga cf b ca)) (hb : PE X y (tE X.K ga cf b cb)) (hm : behindInMarks op y = false) : PT X (.Compare x [op] [y] pos) (tT X.K ga cf b (.cmp op ca cb)) := by
  refine (pt_cmpR (cmpop_ok (ga := ga) (b := b) hr op) ha hb hm).weak fun σ H Q h => ?_
  obtain ⟨σd, E, μ, t, E', q, hs, e, k⟩ := h
  simp only [ts] at e
  split at e
  · cases e
  · rename_i r1 E1 e1
    split at e
    · cases e
    · rename_i r2 E2 e2
      obtain ⟨c, e3, e4⟩ := Option.map_eq_some_iff.mp e
      cases e4
      exact ⟨σd, E, μ, r1, E1, q, hs, e1, fun v1 H1 μ1 x1 q1 h1 => ⟨σd, E1, μ1, r2, E', q1, hs.mono x1, e2, fun v2 H2 μ2 x2 q2 h2 =>
        ⟨H, H1, μ2, E', r1, r2, _, q2, h1.mono x2, h2, Option.map_eq_some_iff.mpr ⟨_, e3, rfl⟩, fun v H' μ' x' q' hv => by
          cases hv
          exact ⟨_, rfl, k H' μ' ((x1.trans q1 x2).trans q2 x') q'⟩⟩⟩⟩
theorem pts_none {X : Cx} : PTs X [] (tCo X.K ga cf b .none) := ⟨fun pins s σ H Q I q => by
  obtain ⟨σd, E, μ, t, E', q, hs, e, k⟩ := q
  simp only [evc] at e
  cases e
  exact pts_nil.run pins s σ H Q I (k H μ (Ext.refl _ _ _) q)⟩
theorem pts_some {X : Cx} {e : PySem.Expr} {c : Ex} (h : PT X e (tT X.K ga cf b c)) : PTs X [e] (tCo X.K ga cf b (.some c)) := ⟨fun pins s σ H Q I q => by
  obtain ⟨σd, E, μ, t, E', q, hs, e, k⟩ := q
  simp only [evc] at e
  exact (pts_one h).run pins s σ H Q I ⟨σd, E, μ, t, E', q, hs, e, k⟩⟩
theorem range_pi {X : Cx} {S : Sx} {tg : PySem.Expr} {l : List PySem.Expr} {cs : Exs} {p pos : Pos} (hg : Gl X "range") (hm : X.mg "range" = none) (h : PA X l (tEs X.K ga cf b cs)) (hi : isEs N fns S cs l = true) (hl : l.length = 1 ∨ l.length = 2) :
    PI X tg (.Call (.Name "range" p) l [] pos) (tI X.K ga cf b (.range cs)) := by
  have hp := isEs_plain hi
  match l, cs, h, hi, hl, hp with
  | [x], .cons c .nil, h, hi, hl, hp =>
    rw [List.all_cons, Bool.and_eq_true] at hp
    exact i_range1 hg hm h hp.1
  | [x, y], .cons c (.cons c' .nil), h, hi, hl, hp =>
    rw [List.all_cons, List.all_cons, Bool.and_eq_true, Bool.and_eq_true] at hp
    exact i_range2 hg hm h hp.1 hp.2.1
  | [], _, _, _, hl, _ => simp at hl
  | [_], .nil, _, hi, _, _ => simp only [isEs] at hi; cases hi
  | [_], .cons _ (.cons _ _), _, hi, _, _ => simp [isEs] at hi
  | [_, _], .nil, _, hi, _, _ => simp only [isEs] at hi; cases hi
  | [_, _], .cons _ .nil, _, hi, _, _ => simp [isEs] at hi
  | [_, _], .cons _ (.cons _ (.cons _ _)), _, hi, _, _ => simp [isEs] at hi
  | _ :: _ :: _ :: _, _, _, _, hl, _ => simp at hl
set_option maxHeartbeats 4000000 in
mutual
theorem sndE : ∀ (c : Ex) {X : Cx} {S : Sx} {e : PySem.Expr}, Ok N fns ga cf k X S → isE N fns S c e = true → PE X e (tE X.K ga cf b c)
  | .var i, X, S, e, O, h => by
    simp only [isE] at h
    split at h
    · rw [Bool.and_eq_true, Bool.and_eq_true] at h
      obtain ⟨⟨h1, h2⟩, h3⟩ := h
      exact sd_var (by rw [O.hN]; exact of_decide_eq_true h1) (by rw [O.sc]; exact visB_ok h2) (nameOk_ok h3).1 (nameOk_ok h3).2
    · cases h
  | .int i, X, S, e, O, h => by
    simp only [isE] at h
    split at h
    · obtain rfl := of_decide_eq_true h
      exact sd_int
    · cases h
  | .str i, X, S, e, O, h => by
    simp only [isE] at h
    split at h
    · obtain rfl := of_decide_eq_true h
      exact sd_str
    · cases h
  | .bl i, X, S, e, O, h => by
    simp only [isE] at h
    split at h
    · obtain rfl := of_decide_eq_true h
      exact sd_bl
    · cases h
  | .non, X, S, e, O, h => by
    simp only [isE] at h
    split at h
    · exact sd_non
    · cases h
  | .tup cs, X, S, e, O, h => by
    simp only [isE] at h
    split at h
    · exact sd_tup (sndEs cs O h)
    · cases h
  | .lst cs, X, S, e, O, h => by
    simp only [isE] at h
    split at h
    · exact sd_lst (sndEs cs O h)
    · cases h
  | .dct ks vs, X, S, e, O, h => by
    simp only [isE] at h
    split at h
    · rename_i keys values p
      rw [Bool.and_eq_true] at h
      obtain ⟨h1, h2⟩ := h
      obtain ⟨h3, h4, h5⟩ := sndP vs (ks := ks) (pos := p) O h1
      by_cases h0 : keys = []
      · subst h0
        have hv : values = [] := List.eq_nil_of_length_eq_zero h5.symm
        subst hv
        cases vs with
        | nil => cases ks with
          | nil => exact s_dct0
          | cons _ _ => simp only [isP] at h1; cases h1
        | cons _ _ =>
          simp only [isP] at h1
          cases h1
      · exact sd_dct h3 h4 h5 h0 (of_decide_eq_true h2)
    · cases h
  | .bin op x y, X, S, e, O, h => by
    simp only [isE] at h
    split at h
    · rw [Bool.and_eq_true, Bool.and_eq_true] at h
      obtain ⟨⟨h1, h2⟩, h3⟩ := h
      obtain rfl := of_decide_eq_true h1
      exact sd_bin (sndE x O h2) (sndE y O h3)
    · cases h
  | .neg x, X, S, e, O, h => by
    simp only [isE] at h
    split at h
    · exact sd_neg (sndE x O h)
    · cases h
  | .not x, X, S, e, O, h => by
    simp only [isE] at h
    split at h
    · exact sd_not (sndE x O h)
    · cases h
  | .bop a cs, X, S, e, O, h => by
    simp only [isE] at h
    split at h
    · rw [Bool.and_eq_true] at h
      exact sd_bop (sndB cs O (of_decide_eq_true h.1) h.2).1
    · cases h
  | .cmp op x y, X, S, e, O, h => by
    simp only [isE] at h
    split at h
    · rw [Bool.and_eq_true, Bool.and_eq_true, Bool.and_eq_true] at h
      obtain ⟨⟨⟨h1, h2⟩, h3⟩, h4⟩ := h
      obtain rfl := of_decide_eq_true h1
      exact sd_cmp O.room (sndE x O h2) (sndE y O h3) (notSet_marks h4)
    · cases h
  | .ifx t x y, X, S, e, O, h => by
    simp only [isE] at h
    split at h
    · rw [Bool.and_eq_true, Bool.and_eq_true] at h
      obtain ⟨⟨h1, h2⟩, h3⟩ := h
      exact sd_ifx (sndT t O h1) (sndE x O h2) (sndE y O h3)
    · cases h
  | .call j cs, X, S, e, O, h => by
    simp only [isE] at h
    split at h
    · rw [Bool.and_eq_true, Bool.and_eq_true, Bool.and_eq_true] at h
      obtain ⟨⟨⟨h1, h2⟩, h3⟩, h4⟩ := h
      obtain ⟨⟨x, np⟩, hj, rfl⟩ := Option.map_eq_some_iff.mp (of_decide_eq_true h1)
      obtain ⟨f, fd, ps, hm, hk, hb, F⟩ := O.dfs j x np hj
      exact sd_call (F.called O.room O.grd hb) (O.gl h2) hm hk (sndEs cs O h4) (isEs_plain h4) (nameOk_ok h3).1 (fun e0 => by subst e0; exact isEs_nil h4) (O.cfn j x np hj)
    · cases h
  | .callB f cs, X, S, e, O, h => by
    simp only [isE] at h
    split at h
    · rw [Bool.and_eq_true, Bool.and_eq_true, Bool.and_eq_true] at h
      obtain ⟨⟨⟨h1, h2⟩, h3⟩, h4⟩ := h
      obtain rfl := of_decide_eq_true h1
      have hp := isEs_plain h4
      rw [List.all_cons, Bool.and_eq_true] at hp
      exact call_one O (of_decide_eq_true h2) h3 (sndEr cs O h4) hp.1
    · cases h
  | .meth m o cs, X, S, e, O, h => by
    simp only [isE] at h
    split at h
    · rw [Bool.and_eq_true, Bool.and_eq_true, Bool.and_eq_true, Bool.and_eq_true, Bool.and_eq_true] at h
      obtain ⟨⟨⟨⟨⟨h1, h2⟩, h3⟩, h4⟩, h5⟩, h6⟩ := h
      obtain rfl := of_decide_eq_true h1
      exact meth_one O (of_decide_eq_true h2) h3 h4 (sndE o O h5) (sndEr cs O h6) (isEs_plain h6) (fun e0 => by subst e0; exact isEs_nil h6)
    · cases h
  | .idx x y, X, S, e, O, h => by
    simp only [isE] at h
    split at h
    · rw [Bool.and_eq_true, Bool.and_eq_true] at h
      obtain ⟨⟨h1, h2⟩, h3⟩ := h
      exact sd_idx O.room (sndE x O h1) (sndE y O h2) (notSlice_ix h3)
    · cases h
  | .slc x lo hi, X, S, e, O, h => by
    simp only [isE] at h
    split at h
    · rw [Bool.and_eq_true, Bool.and_eq_true] at h
      obtain ⟨⟨h1, h2⟩, h3⟩ := h
      exact sd_slc (sndE x O h1) (sndO lo O h2) (sndO hi O h3)
    · cases h
  | .frz x, X, S, e, O, h => by
    simp only [isE] at h
    exact sd_frz (sndE x O h)
  | .dget o x y, X, S, e, O, h => by
    simp only [isE] at h
    split at h
    · rw [Bool.and_eq_true, Bool.and_eq_true, Bool.and_eq_true, Bool.and_eq_true, Bool.and_eq_true, Bool.and_eq_true, Bool.and_eq_true] at h
      obtain ⟨⟨⟨⟨⟨⟨⟨h1, h2⟩, h3⟩, h4⟩, h5⟩, h6⟩, h7⟩, h8⟩ := h
      obtain rfl := of_decide_eq_true h1
      exact sd_dget O.room (sndE o O h6) (sndE x O h7) (sndE y O h8) (m2_ok h2 h3 h4 h5)
    · cases h
  | .isi x T, X, S, e, O, h => by
    simp only [isE] at h
    split at h
    · rw [Bool.and_eq_true, Bool.and_eq_true, Bool.and_eq_true, Bool.and_eq_true, Bool.and_eq_true, Bool.and_eq_true] at h
      obtain ⟨⟨⟨⟨⟨⟨h1, h2⟩, h3⟩, h4⟩, h5⟩, h6⟩, h7⟩ := h
      obtain rfl := of_decide_eq_true h1
      obtain rfl := of_decide_eq_true h2
      exact isi_one O (of_decide_eq_true h3) h4 h5 h6 (sndE x O h7)
    · cases h
  | .sset x, X, S, e, O, h => by
    simp only [isE] at h
    split at h
    · rw [Bool.and_eq_true, Bool.and_eq_true, Bool.and_eq_true, Bool.and_eq_true, Bool.and_eq_true] at h
      obtain ⟨⟨⟨⟨⟨h1, h2⟩, h3⟩, h4⟩, h5⟩, h6⟩ := h
      obtain rfl := of_decide_eq_true h1
      obtain rfl := of_decide_eq_true h2
      exact sd_sset O.calm (O.gl h3) (O.blt _ (by decide +kernel)) (O.gl h4) (O.blt _ (by decide +kernel)) (sndE x O h6) h5
    · cases h
  | .lset x, X, S, e, O, h => by
    simp only [isE] at h
    split at h
    · rw [Bool.and_eq_true, Bool.and_eq_true, Bool.and_eq_true, Bool.and_eq_true, Bool.and_eq_true] at h
      obtain ⟨⟨⟨⟨⟨h1, h2⟩, h3⟩, h4⟩, h5⟩, h6⟩ := h
      obtain rfl := of_decide_eq_true h1
      obtain rfl := of_decide_eq_true h2
      exact sd_lset O.calm (O.gl h3) (O.blt _ (by decide +kernel)) (O.gl h4) (O.blt _ (by decide +kernel)) (sndE x O h6) h5
    · cases h
  | .dcx es, X, S, e, O, h => by
    simp only [isE] at h
    split at h
    · rename_i keys values p
      rw [Bool.and_eq_true, Bool.and_eq_true] at h
      obtain ⟨⟨h1, h2⟩, h3⟩ := h
      obtain ⟨h4, h5, h6⟩ := sndX es (pos := p) O h1
      exact sd_dcx h4 h5 h6 (fun z => by rw [z] at h3; cases h3) (of_decide_eq_true h2)
    · cases h
  | .dcm kx vx tg it c own, X, S, e, O, h => by
    simp only [isE] at h
    split at h
    · rw [Bool.and_eq_true, Bool.and_eq_true, Bool.and_eq_true, Bool.and_eq_true, Bool.and_eq_true, Bool.and_eq_true, Bool.and_eq_true] at h
      obtain ⟨⟨⟨⟨⟨⟨⟨h1, h2⟩, h3⟩, h4⟩, h5⟩, h6⟩, h7⟩, h8⟩ := h
      have hb := blkOk_by h1
      refine (pe_dc (own := own) (g := tG X.K ga b tg) (tt := tCo X.K ga cf b c) (tk := tE X.K ga cf b kx) (tv := tE X.K ga cf b vx) O.calm (by rw [O.hN]; exact O.nd) (sndI it O h5) (by rw [O.hN, O.sc]; exact hb) (fun s H C cl fp => sndG tg (O.blk hb s H C cl fp) h4) (fun s H C cl fp => sndC c (O.blk hb s H C cl fp) h6)
        (fun s H C cl fp => sndE kx (O.blk hb s H C cl fp) h2) (fun s H C cl fp => sndE vx (O.blk hb s H C cl fp) h3) (notSet_fold h7)).weak fun σ H Q q => ?_
      exact dc_read (of_decide_eq_true h8) σ H Q q
    · cases h
  | .rev x, X, S, e, O, h => by
    simp only [isE] at h
    split at h
    · exact sd_rev (sndE x O h)
    · cases h
  | .lc elt tg it c own, X, S, e, O, h => by
    simp only [isE] at h
    split at h
    · rw [Bool.and_eq_true, Bool.and_eq_true, Bool.and_eq_true, Bool.and_eq_true, Bool.and_eq_true, Bool.and_eq_true] at h
      obtain ⟨⟨⟨⟨⟨⟨h1, h2⟩, h3⟩, h4⟩, h5⟩, h6⟩, h7⟩ := h
      have hb := blkOk_by h1
      refine (pe_lc (own := own) (g := tG X.K ga b tg) (tt := tCo X.K ga cf b c) (te := tE X.K ga cf b elt) O.calm (by rw [O.hN]; exact O.nd) (sndI it O h4) (by rw [O.hN, O.sc]; exact hb) (fun s H C cl fp => sndG tg (O.blk hb s H C cl fp) h3) (fun s H C cl fp => sndC c (O.blk hb s H C cl fp) h5)
        (fun s H C cl fp => sndE elt (O.blk hb s H C cl fp) h2) (notSet_fold h6)).weak fun σ H Q q => ?_
      exact lc_read (of_decide_eq_true h7) σ H Q q
    · cases h
  | .lc2 elt tg it tg1 it1 own own1, X, S, e, O, h => by
    simp only [isE] at h
    split at h
    · rw [Bool.and_eq_true, Bool.and_eq_true, Bool.and_eq_true, Bool.and_eq_true, Bool.and_eq_true, Bool.and_eq_true, Bool.and_eq_true, Bool.and_eq_true, Bool.and_eq_true, Bool.and_eq_true] at h
      obtain ⟨⟨⟨⟨⟨⟨⟨⟨⟨⟨h1, h2⟩, h3⟩, h4⟩, h5⟩, h6⟩, h7⟩, h8⟩, h9⟩, h10⟩, h11⟩ := h
      have hb := blkOk_by h1
      refine (pe_lc2 (own := own) (g := tG X.K ga b tg) (tt := tCo X.K ga cf b .none) (wi1 := tI X.K ga cf b it1) (g1 := tG X.K ga b tg1) (tt1 := tCo X.K ga cf b .none) (te := tE X.K ga cf b elt) O.calm (by rw [O.hN]; exact O.nd) (sndI it O h4) (by rw [O.hN, O.sc]; exact hb) (of_decide_eq_true h11) (fun s H C cl fp => sndG tg (O.blk hb s H C cl fp) h3)
        (fun s H C cl fp => pts_none) (fun s H C cl fp => sndI it1 (O.blk hb s H C cl fp) h6) (fun s H C cl fp => sndG tg1 (O.blk hb s H C cl fp) h5) (fun s H C cl fp => pts_none)
        (fun s H C cl fp => sndE elt (O.blk hb s H C cl fp) h2) (notSet_fold h7) (fun env => notSet_fold h8)).weak fun σ H Q q => ?_
      exact lc2_read (of_decide_eq_true h9) (of_decide_eq_true h10) σ H Q q
    · cases h
theorem sndT : ∀ (c : Ex) {X : Cx} {S : Sx} {e : PySem.Expr}, Ok N fns ga cf k X S → isE N fns S c e = true → PT X e (tT X.K ga cf b c)
  | .not x, X, S, e, O, h => by
    simp only [isE] at h
    split at h
    · exact s_notT (sndT x O h)
    · cases h
  | .bop a cs, X, S, e, O, h => by
    simp only [isE] at h
    split at h
    · rw [Bool.and_eq_true] at h
      exact s_bopT (sndB cs O (of_decide_eq_true h.1) h.2).2
    · cases h
  | .bl v, X, S, e, O, h => by
    simp only [isE] at h
    split at h
    · obtain rfl := of_decide_eq_true h
      exact s_test sd_bl (by intro _; rfl)
    · cases h
  | .var i, X, S, e, O, h => by
    simp only [isE] at h
    split at h
    · rw [Bool.and_eq_true, Bool.and_eq_true] at h
      obtain ⟨⟨h1, h2⟩, h3⟩ := h
      exact s_test (sd_var (by rw [O.hN]; exact of_decide_eq_true h1) (by rw [O.sc]; exact visB_ok h2) (nameOk_ok h3).1 (nameOk_ok h3).2) (by intro _; rfl)
    · cases h
  | .cmp op x y, X, S, e, O, h => by
    simp only [isE] at h
    split at h
    · rw [Bool.and_eq_true, Bool.and_eq_true, Bool.and_eq_true] at h
      obtain ⟨⟨⟨h1, h2⟩, h3⟩, h4⟩ := h
      obtain rfl := of_decide_eq_true h1
      exact s_cmpT O.room (sndE x O h2) (sndE y O h3) (notSet_marks h4)
    · cases h
  | .call j cs, X, S, e, O, h => by
    simp only [isE] at h
    split at h
    · rw [Bool.and_eq_true, Bool.and_eq_true, Bool.and_eq_true] at h
      obtain ⟨⟨⟨h1, h2⟩, h3⟩, h4⟩ := h
      obtain ⟨⟨x, np⟩, hj, rfl⟩ := Option.map_eq_some_iff.mp (of_decide_eq_true h1)
      obtain ⟨f, fd, ps, hm, hk, hb, F⟩ := O.dfs j x np hj
      exact s_test (sd_call (F.called O.room O.grd hb) (O.gl h2) hm hk (sndEs cs O h4) (isEs_plain h4) (nameOk_ok h3).1 (fun e0 => by subst e0; exact isEs_nil h4) (O.cfn j x np hj)) (by intro _; rfl)
    · cases h
  | .callB f cs, X, S, e, O, h => by
    simp only [isE] at h
    split at h
    · rw [Bool.and_eq_true, Bool.and_eq_true, Bool.and_eq_true] at h
      obtain ⟨⟨⟨h1, h2⟩, h3⟩, h4⟩ := h
      obtain rfl := of_decide_eq_true h1
      have hp := isEs_plain h4
      rw [List.all_cons, Bool.and_eq_true] at hp
      exact s_test (call_one O (of_decide_eq_true h2) h3 (sndEr cs O h4) hp.1) (by intro _; rfl)
    · cases h
  | .isi x T, X, S, e, O, h => by
    simp only [isE] at h
    split at h
    · rw [Bool.and_eq_true, Bool.and_eq_true, Bool.and_eq_true, Bool.and_eq_true, Bool.and_eq_true, Bool.and_eq_true] at h
      obtain ⟨⟨⟨⟨⟨⟨h1, h2⟩, h3⟩, h4⟩, h5⟩, h6⟩, h7⟩ := h
      obtain rfl := of_decide_eq_true h1
      obtain rfl := of_decide_eq_true h2
      exact s_test (isi_one O (of_decide_eq_true h3) h4 h5 h6 (sndE x O h7)) (by intro _; rfl)
    · cases h
  | .dget _ _ _, _, _, _, _, _ => no_test fun σ E => by simp only [ts]
  | .sset _, _, _, _, _, _ => no_test fun σ E => by simp only [ts]
  | .lset _, _, _, _, _, _ => no_test fun σ E => by simp only [ts]
  | .dcx _, _, _, _, _, _ => no_test fun σ E => by simp only [ts]
  | .dcm _ _ _ _ _ _, _, _, _, _, _ => no_test fun σ E => by simp only [ts]
  | .int _, _, _, _, _, _ => no_test fun σ E => by simp only [ts]
  | .str _, _, _, _, _, _ => no_test fun σ E => by simp only [ts]
  | .non, _, _, _, _, _ => no_test fun σ E => by simp only [ts]
  | .tup _, _, _, _, _, _ => no_test fun σ E => by simp only [ts]
  | .lst _, _, _, _, _, _ => no_test fun σ E => by simp only [ts]
  | .dct _ _, _, _, _, _, _ => no_test fun σ E => by simp only [ts]
  | .bin _ _ _, _, _, _, _, _ => no_test fun σ E => by simp only [ts]
  | .neg _, _, _, _, _, _ => no_test fun σ E => by simp only [ts]
  | .ifx _ _ _, _, _, _, _, _ => no_test fun σ E => by simp only [ts]
  | .meth _ _ _, _, _, _, _, _ => no_test fun σ E => by simp only [ts]
  | .idx _ _, _, _, _, _, _ => no_test fun σ E => by simp only [ts]
  | .slc _ _ _, _, _, _, _, _ => no_test fun σ E => by simp only [ts]
  | .frz _, _, _, _, _, _ => no_test fun σ E => by simp only [ts]
  | .rev _, _, _, _, _, _ => no_test fun σ E => by simp only [ts]
  | .lc _ _ _ _ _, _, _, _, _, _ => no_test fun σ E => by simp only [ts]
  | .lc2 _ _ _ _ _ _ _, _, _, _, _, _ => no_test fun σ E => by simp only [ts]
theorem sndEs : ∀ (cs : Exs) {X : Cx} {S : Sx} {l : List PySem.Expr}, Ok N fns ga cf k X S → isEs N fns S cs l = true → PA X l (tEs X.K ga cf b cs)
  | .nil, X, S, l, O, h => by
    simp only [isEs] at h
    cases l with
    | nil => exact s_nils
    | cons _ _ => cases h
  | .cons c r, X, S, l, O, h => by
    simp only [isEs] at h
    split at h
    · rw [Bool.and_eq_true, Bool.and_eq_true] at h
      obtain ⟨⟨h1, h2⟩, h3⟩ := h
      exact s_conss (sndE c O h2) (sndEs r O h3) (star_cons h1)
    · cases h
theorem sndEr : ∀ (cs : Exs) {X : Cx} {S : Sx} {l : List PySem.Expr}, Ok N fns ga cf k X S → isEs N fns S cs l = true → PA X l (tEr X.K ga cf b cs)
  | .nil, X, S, l, O, h => by
    simp only [isEs] at h
    cases l with
    | nil => exact s_nilr
    | cons _ _ => cases h
  | .cons c r, X, S, l, O, h => by
    simp only [isEs] at h
    split at h
    · rw [Bool.and_eq_true, Bool.and_eq_true] at h
      obtain ⟨⟨h1, h2⟩, h3⟩ := h
      exact s_consr (sndE c O h2) (sndEr r O h3) (star_cons h1)
    · cases h
theorem sndB : ∀ (cs : Exs) {X : Cx} {S : Sx} {l : List PySem.Expr} {op : BoolOp} {a : Bool} {pos : Pos}, Ok N fns ga cf k X S → op = (if a then .And else .Or) → isB N fns S cs l = true →
    PE X (.BoolOp op l pos) (tBv X.K ga cf b a cs) ∧ PW X (.BoolOp op l pos) (tBb X.K ga cf b a cs)
  | .nil, X, S, l, op, a, pos, O, ho, h => by simp only [isB] at h; cases h
  | .cons c .nil, X, S, l, op, a, pos, O, ho, h => by
    simp only [isB] at h
    split at h
    · cases h
    · rename_i e l
      rw [Bool.and_eq_true] at h
      obtain ⟨h1, h2⟩ := h
      cases l with
      | nil => exact ⟨v_one (sndE c O h1), w_one ho (sndT c O h1)⟩
      | cons _ _ => simp [Exs.isNil] at h2
  | .cons c (.cons c' r), X, S, l, op, a, pos, O, ho, h => by
    cases l with
    | nil => simp only [isB] at h; cases h
    | cons e l =>
      have h : (isE N fns S c e && isB N fns S (.cons c' r) l) = true := h
      rw [Bool.and_eq_true] at h
      obtain ⟨h1, h2⟩ := h
      cases l with
      | nil => simp only [isB] at h2; cases h2
      | cons e' l =>
        obtain ⟨h3, h4⟩ := sndB (.cons c' r) (pos := pos) O ho h2
        exact ⟨v_more ho (sndE c O h1) h3, w_more ho (sndT c O h1) h4⟩
theorem sndP : ∀ (vs : Exs) {ks : Exs} {X : Cx} {S : Sx} {keys : List (Option PySem.Expr)} {values : List PySem.Expr} {pos : Pos}, Ok N fns ga cf k X S → isP N fns S vs ks keys values = true →
    PPs X pos keys values (trs X.K ga cf b ks vs) ∧ keys.all (·.isSome) = true ∧ keys.length = values.length
  | .nil, ks, X, S, keys, values, pos, O, h => by
    simp only [isP] at h
    split at h
    · rw [Bool.and_eq_true] at h
      obtain ⟨h1, h2⟩ := h
      cases keys with
      | nil => cases values with
        | nil => exact ⟨pps_nil, rfl, rfl⟩
        | cons _ _ => cases h2
      | cons _ _ => cases h1
    · cases h
  | .cons v vs, ks, X, S, keys, values, pos, O, h => by
    simp only [isP] at h
    split at h
    · rw [Bool.and_eq_true, Bool.and_eq_true] at h
      obtain ⟨⟨h1, h2⟩, h3⟩ := h
      obtain rfl := of_decide_eq_true h1
      obtain ⟨h4, h5, h6⟩ := sndP vs (pos := pos) O h3
      exact ⟨pps_cons sd_str (sndE v O h2) h4, by rw [List.all_cons, h5]; rfl, by rw [List.length_cons, List.length_cons, h6]⟩
    · cases h
theorem sndX : ∀ (es : Exs) {X : Cx} {S : Sx} {keys : List (Option PySem.Expr)} {values : List PySem.Expr} {pos : Pos}, Ok N fns ga cf k X S → isX N fns S es keys values = true →
    PPs X pos keys values (trx X.K ga cf b es) ∧ keys.all (·.isSome) = true ∧ keys.length = values.length
  | .nil, X, S, keys, values, pos, O, h => by
    simp only [isX] at h
    rw [Bool.and_eq_true] at h
    obtain ⟨h1, h2⟩ := h
    cases keys with
    | nil => cases values with
      | nil => exact ⟨pps_nil, rfl, rfl⟩
      | cons _ _ => cases h2
    | cons _ _ => cases h1
  | .cons _ .nil, X, S, keys, values, pos, O, h => by simp only [isX] at h; cases h
  | .cons c (.cons v r2), X, S, keys, values, pos, O, h => by
    simp only [isX] at h
    split at h
    · rw [Bool.and_eq_true, Bool.and_eq_true] at h
      obtain ⟨⟨h1, h2⟩, h3⟩ := h
      obtain ⟨h4, h5, h6⟩ := sndX r2 (pos := pos) O h3
      exact ⟨pps_cons (sndE c O h1) (sndE v O h2) h4, by rw [List.all_cons, h5]; rfl, by rw [List.length_cons, List.length_cons, h6]⟩
    · cases h
theorem sndO : ∀ (c : Exo) {X : Cx} {S : Sx} {e : Option PySem.Expr}, Ok N fns ga cf k X S → isO N fns S c e = true → PO X e (tOo X.K ga cf b c)
  | .none, X, S, e, O, h => by
    simp only [isO] at h
    cases e with
    | none => exact o_none
    | some _ => cases h
  | .some c, X, S, e, O, h => by
    simp only [isO] at h
    split at h
    · exact o_some (sndE c O h)
    · cases h
theorem sndC : ∀ (c : Exo) {X : Cx} {S : Sx} {l : List PySem.Expr}, Ok N fns ga cf k X S → isC N fns S c l = true → PTs X l (tCo X.K ga cf b c)
  | .none, X, S, l, O, h => by
    simp only [isC] at h
    cases l with
    | nil => exact pts_none
    | cons _ _ => cases h
  | .some c, X, S, l, O, h => by
    simp only [isC] at h
    split at h
    · exact pts_some (sndT c O h)
    · cases h
theorem sndI : ∀ (c : It) {X : Cx} {S : Sx} {t e : PySem.Expr}, Ok N fns ga cf k X S → isI N fns S c t e = true → PI X t e (tI X.K ga cf b c)
  | .seq c, X, S, t, e, O, h => by
    simp only [isI] at h
    exact i_seq (sndE c O h)
  | .range cs, X, S, t, e, O, h => by
    simp only [isI] at h
    split at h
    · rw [Bool.and_eq_true, Bool.and_eq_true, Bool.and_eq_true, Bool.or_eq_true] at h
      obtain ⟨⟨⟨h1, h2⟩, h3⟩, h4⟩ := h
      obtain rfl := of_decide_eq_true h1
      have ha := sndEs cs O h3
      exact range_pi (O.gl h2) (O.blt _ (by decide +kernel)) ha h3 (h4.imp (fun z => of_decide_eq_true z) (fun z => of_decide_eq_true z))
    · cases h
  | .enum c, X, S, t, e, O, h => by
    simp only [isI] at h
    split at h
    · rename_i a _ _
      rw [Bool.and_eq_true, Bool.and_eq_true, Bool.and_eq_true, Bool.and_eq_true] at h
      obtain ⟨⟨⟨⟨h1, h2⟩, h3⟩, h4⟩, h5⟩ := h
      obtain rfl := of_decide_eq_true h1
      unfold isTuple at h5
      split at h5
      · exact i_enum (O.gl h2) (O.blt _ (by decide +kernel)) (s_consr (sndE c O h4) s_nilr (star_cons h3)) h3
      · cases h5
    · cases h
end
end
end Ev
end EvMst2
section EvMst3
namespace Ev
open PySem PySem.Spec PyProof.Rows L2

/-! ## assignments: what the compiler makes of them -/
def nmLine (sc : Scope) (line : Nat) : PySem.Expr → Option Str
  | .Name id pos => if sc.names.lookup id == some .local && pos.line == line then some id else none
  | _ => none
def swNames (sc : Scope) (ts : List PySem.Expr) : List Str := ts.filterMap (nmLine sc ((ts.head?.map (·.pos.line)).getD 0))
def swN (sc : Scope) (ts vs : List PySem.Expr) : Option (Option (List Str)) :=
  if !(ts.length == 2 || ts.length == 3) || vs.length != ts.length then some none else
  if vs.any (fun e => !plain e) then some none else
  if (swNames sc ts).length != ts.length || (swNames sc ts).eraseDups.length != (swNames sc ts).length then some none else
  if vs.all (foldedForSure 8) then some none else
  if vs.all (constantsAlone 8) then none else some (some (swNames sc ts))
theorem block_fn {env : Env} (hk : env.scope.kind = .function) : env.blockKind = .function := by
  unfold Env.blockKind
  rw [hk]
  rfl
theorem any_eq {vs : List PySem.Expr} {f : PySem.Expr → Bool} (h : ∀ e, f e = !plain e) : vs.any f = vs.any fun e => !plain e := by
  rw [show f = fun e => !plain e from funext h]
theorem fm_eq {ts : List PySem.Expr} {sc : Scope} {l : Nat} {f : PySem.Expr → Option Str} (h : ∀ e, f e = nmLine sc l e) : ts.filterMap f = ts.filterMap (nmLine sc l) := by
  rw [show f = nmLine sc l from funext h]
theorem sw_names {sc : Scope} {ts : List PySem.Expr} : ts.filterMap (nmLine sc ((ts.head?.map (·.pos.line)).getD 0)) = swNames sc ts := rfl
theorem sw_eq {env : Env} {ts vs : List PySem.Expr} {a c : Nat} {p p' : Pos} {r : Option (List Str)} (hk : env.scope.kind = .function) (h : swN env.scope ts vs = some r) : swappedStores [.Tuple ts a p] (.Tuple vs c p') env = pure r := by
  unfold swN at h
  unfold swappedStores
  simp only [block_fn hk]
  rw [any_eq (fun e => by cases e <;> rfl), fm_eq (sc := env.scope) (l := (ts.head?.map (·.pos.line)).getD 0) (fun e => by cases e <;> rfl), sw_names]
  split at h
  · rename_i h1
    cases h
    rw [if_pos (by rw [h1]; rfl)]
  · rename_i h1
    rw [if_neg (by simpa using h1)]
    try simp only [pure_bind]
    split at h
    · rename_i h2
      cases h
      rw [if_pos h2]
    · rename_i h2
      rw [if_neg h2]
      try simp only [pure_bind]
      split at h
      · rename_i h3
        cases h
        rw [if_pos h3]
      · rename_i h3
        rw [if_neg h3]
        try simp only [pure_bind]
        split at h
        · rename_i h4
          cases h
          rw [if_pos h4]
        · rename_i h4
          rw [if_neg h4]
          try simp only [pure_bind]
          split at h
          · cases h
          · rename_i h5
            cases h
            rw [if_neg h5]
            try simp only [pure_bind]
def swB (sc : Scope) (y : Str) (py : Pos) (scope : Scope) (vline : Nat) : Bool :=
  sc.names.lookup y == some .local && py.line == vline && !(scope.names.any fun (n, k) => n == y && (k == .local || k == .cell))
def compScope : PySem.Expr → Option Scope
  | .ListComp _ _ s _ => some s
  | .SetComp _ _ s _ => some s
  | .DictComp _ _ _ s _ => some s
  | _ => none
theorem swaps_name {env : Env} {e : PySem.Expr} {y : Str} {py : Pos} {l : Nat} (hk : env.scope.kind = .function) : swapsWith e (some (.Name y py)) l env = pure (match compScope e with | none => false | some s => swB env.scope y py s e.pos.line) := by
  cases e <;> first | rfl | (unfold swapsWith; simp only [block_fn hk]; rfl)
theorem swaps_other {env : Env} {e t : PySem.Expr} {l : Nat} (ht : ∀ y p, t ≠ .Name y p) : swapsWith e (some t) l env = pure false := by
  cases t <;> first | (cases e <;> rfl) | exact absurd rfl (ht _ _)
theorem swaps_drop {env : Env} {e : PySem.Expr} {l : Nat} (h : notComp e = true) : swapsWith e none l env = pure false := by
  cases e <;> first | rfl | cases h
/-- an assignment that is done as it stands -/
def asgOk (sc : Scope) (tg e : PySem.Expr) : Bool := match tg with
  | .Name y py => (match compScope e with | none => true | some s => !swB sc y py s e.pos.line)
  | .Tuple ts _ _ => (match e with | .Tuple vs _ _ => decide (swN sc ts vs = some none) | _ => true)
  | _ => false
theorem asgOk_sole {env : Env} {tg e : PySem.Expr} {l : Nat} (hk : env.scope.kind = .function) (h : asgOk env.scope tg e = true) : swapsWithSole [tg] e l env = pure false := by
  show swapsWith e (some tg) l env = pure false
  cases tg with
  | Name y py =>
    rw [swaps_name hk]
    simp only [asgOk] at h
    split at h
    · rfl
    · rw [Bool.not_eq_true'] at h
      rw [h]
  | Tuple ts a p => exact swaps_other fun _ _ z => by cases z
  | _ => cases h
theorem asgOk_stores {env : Env} {tg e : PySem.Expr} (hk : env.scope.kind = .function) (h : asgOk env.scope tg e = true) : swappedStores [tg] e env = pure none := by
  cases tg with
  | Name y py => cases e <;> rfl
  | Tuple ts a p =>
    simp only [asgOk] at h
    split at h
    · exact sw_eq hk (of_decide_eq_true h)
    · rename_i hn
      cases e <;> first | rfl | exact absurd rfl (hn _ _ _)
  | _ => cases h
theorem each_one {tg : PySem.Expr} {env : Env} (h : plain tg = true) : (assignEach [tg] env).map (·.2) = [assign tg env] := by
  cases tg <;> first | rfl | cases h
end Ev
end EvMst3
section EvMst4
namespace Ev
open PySem PySem.Spec PyProof.Rows L2
section
variable (N : List Str) (fns : List (Str × Nat))
def nmAt (S : Sx) (i : Nat) (x : Str) : Bool := decide (N[i]? = some x) && lcB S.sc x
/-- a, b = x, y by stores in turn -/
def isPar (S : Sx) (t : Tg) (c : Ex) (tg e : PySem.Expr) : Bool := match tg, e with
  | .Tuple [.Name x px, .Name y py] _ _, .Tuple [a, b] _ _ => (match t, c with
    | .tp (.cons (.nm i) (.cons (.nm j) .nil)), .tup cs => nmAt N S i x && nmAt N S j y && decide (i ≠ j) && isEs N fns S cs [a, b] && decide (swN S.sc [.Name x px, .Name y py] [a, b] = some (some [x, y]))
    | _, _ => false)
  | .Tuple [.Name x px, .Name y py, .Name z pz] _ _, .Tuple [a, b, d] _ _ => (match t, c with
    | .tp (.cons (.nm i) (.cons (.nm j) (.cons (.nm l) .nil))), .tup cs => nmAt N S i x && nmAt N S j y && nmAt N S l z && decide (i ≠ j) && decide (i ≠ l) && decide (j ≠ l) && isEs N fns S cs [a, b, d] &&
        decide (swN S.sc [.Name x px, .Name y py, .Name z pz] [a, b, d] = some (some [x, y, z]))
    | _, _ => false)
  | _, _ => false
/-- x = [..] by a store within -/
def isSetLc (S : Sx) (t : Tg) (c : Ex) (tg e : PySem.Expr) : Bool := match t, tg with
  | .nm i, .Name y py => nmAt N S i y && isE N fns S c e && (match e with | .ListComp _ _ scope _ => swB S.sc y py scope e.pos.line | _ => false)
  | _, _ => false
mutual
def isS (S : Sx) : Stm → Stmt → Bool
  | .asg t c, st => match st with
    | .Assign [tg] e _ => (isT N S t tg && isE N fns S c e && plain tg && asgOk S.sc tg e) || isPar N fns S t c tg e || isSetLc N fns S t c tg e
    | _ => false
  | .par _ _, _ => false
  | .sto o i c, st => match st with
    | .Assign [.Subscript x y _] e _ => isE N fns S o x && isE N fns S i y && isE N fns S c e && notSlice y
    | _ => false
  | .expr c, st => match st with
    | .Expr e _ => isE N fns S c e && notComp e
    | _ => false
  | .ret c, st => match st with
    | .Return (some e) _ => isE N fns S c e
    | _ => false
  | .ife t a b, st => match st with
    | .If e l1 l2 _ => isE N fns S t e && isSs S a l1 && isSs S b l2
    | _ => false
  | .loop tg it bd, st => match st with
    | .For t i l [] _ => isT N S tg t && isI N fns S it t i && notSet i && isSs S bd l
    | _ => false
  | .whl t bd, st => match st with
    | .While e l [] _ => isE N fns S t e && isSs S bd l
    | _ => false
  | .pass, st => match st with
    | .Pass _ => true
    | _ => false
  | .brk, st => match st with
    | .Break _ => true
    | _ => false
  | .cont, st => match st with
    | .Continue _ => true
    | _ => false
def isSs (S : Sx) : Stms → List Stmt → Bool
  | .nil, l => l.isEmpty
  | .cons c r, l => match l with
    | st :: l => isS S c st && isSs S r l
    | [] => false
end
end
section
variable {N : List Str} {fns : List (Str × Nat)} {ga : Nat → Option Addr} {cf : Cf} {k wf : Nat} {b : Mk}
theorem nmAt_ok {X : Cx} {S : Sx} (O : Ok N fns ga cf k X S) {i : Nat} {x : Str} (h : nmAt N S i x = true) : X.N[i]? = some x ∧ X.env.scope.names.lookup x = some .local := by
  unfold nmAt at h
  rw [Bool.and_eq_true] at h
  exact ⟨by rw [O.hN]; exact of_decide_eq_true h.1, by rw [O.sc]; exact lcB_ok h.2⟩
theorem Ok.kindX {X : Cx} {S : Sx} (O : Ok N fns ga cf k X S) : X.env.scope.kind = .function := by rw [O.sc]; exact O.kind
theorem sole_tuple {env : Env} {e : PySem.Expr} {ts : List PySem.Expr} {a l : Nat} {p : Pos} : swapsWithSole [.Tuple ts a p] e l env = pure false := by
  show swapsWith e (some (.Tuple ts a p)) l env = pure false
  exact swaps_other fun _ _ z => by cases z
theorem sole_sub {env : Env} {e o i : PySem.Expr} {l : Nat} {p : Pos} : swapsWithSole [.Subscript o i p] e l env = pure false := by
  show swapsWith e (some (.Subscript o i p)) l env = pure false
  exact swaps_other fun _ _ z => by cases z
theorem snd_par {X : Cx} {S : Sx} (O : Ok N fns ga cf k X S) {t : Tg} {c : Ex} {tg e : PySem.Expr} {pos : Pos} (h : isPar N fns S t c tg e = true) : PS X (.Assign [tg] e pos) (tS X.K ga cf wf b (.asg t c)) := by
  have hnd : X.N.Nodup := by rw [O.hN]; exact O.nd
  unfold isPar at h
  split at h
  · split at h
    · rename_i cs
      rw [Bool.and_eq_true, Bool.and_eq_true, Bool.and_eq_true, Bool.and_eq_true] at h
      obtain ⟨⟨⟨⟨h1, h2⟩, h3⟩, h4⟩, h5⟩ := h
      obtain ⟨n1, l1⟩ := nmAt_ok O h1
      obtain ⟨n2, l2⟩ := nmAt_ok O h2
      refine (ps_par O.calm hnd n1 n2 (of_decide_eq_true h3) l1 l2 (sndEs (b := b) cs O h4) (sw_eq O.kindX (by rw [O.sc]; exact of_decide_eq_true h5)) sole_tuple).weak fun D σ H q => ?_
      obtain ⟨σd, E, μ, fl, E', q, hs, e, k⟩ := q
      simp only [ex, ev] at e
      split at e
      · cases e
      · rename_i r E1 e1
        split at e1
        · rename_i ds E2 e2
          split at e1
          · cases e1
            obtain ⟨⟨σ2, E3⟩, e3, e4⟩ := Option.map_eq_some_iff.mp e
            cases e4
            refine ⟨σd, E, μ, ds, E1, q, hs, e2, fun vs H1 μ1 x1 q1 rs => ?_⟩
            have e3 : asgTs (.cons (.nm _) (.cons (.nm _) .nil)) ds σd E1 = some (σ2, _) := e3
            simp only [asgTs, asgT] at e3
            split at e3
            · split at e3
              · split at e3
                · cases e3
                  cases rs with
                  | cons r1 rs => cases rs with
                    | cons r2 rs =>
                      cases rs
                      exact ⟨_, _, rfl, k _ H1 μ1 x1 q1 (((hs.mono x1).set r1).set r2)⟩
                · cases e3
              · cases e3
            · cases e3
          · cases e1
        · cases e1
    · cases h
  · split at h
    · rename_i cs
      rw [Bool.and_eq_true, Bool.and_eq_true, Bool.and_eq_true, Bool.and_eq_true, Bool.and_eq_true, Bool.and_eq_true, Bool.and_eq_true] at h
      obtain ⟨⟨⟨⟨⟨⟨⟨h1, h2⟩, h3⟩, h4⟩, h5⟩, h6⟩, h7⟩, h8⟩ := h
      obtain ⟨n1, l1⟩ := nmAt_ok O h1
      obtain ⟨n2, l2⟩ := nmAt_ok O h2
      obtain ⟨n3, l3⟩ := nmAt_ok O h3
      refine (ps_par3 O.calm hnd n1 n2 n3 (of_decide_eq_true h4) (of_decide_eq_true h5) (of_decide_eq_true h6) l1 l2 l3 (sndEs (b := b) cs O h7) (sw_eq O.kindX (by rw [O.sc]; exact of_decide_eq_true h8)) sole_tuple).weak fun D σ H q => ?_
      obtain ⟨σd, E, μ, fl, E', q, hs, e, k⟩ := q
      simp only [ex, ev] at e
      split at e
      · cases e
      · rename_i r E1 e1
        split at e1
        · rename_i ds E2 e2
          split at e1
          · cases e1
            obtain ⟨⟨σ2, E3⟩, e3, e4⟩ := Option.map_eq_some_iff.mp e
            cases e4
            refine ⟨σd, E, μ, ds, E1, q, hs, e2, fun vs H1 μ1 x1 q1 rs => ?_⟩
            have e3 : asgTs (.cons (.nm _) (.cons (.nm _) (.cons (.nm _) .nil))) ds σd E1 = some (σ2, _) := e3
            simp only [asgTs, asgT] at e3
            split at e3
            · split at e3
              · split at e3
                · split at e3
                  · cases e3
                    cases rs with
                    | cons r1 rs => cases rs with
                      | cons r2 rs => cases rs with
                        | cons r3 rs =>
                          cases rs
                          exact ⟨_, _, _, rfl, k _ H1 μ1 x1 q1 ((((hs.mono x1).set r1).set r2).set r3)⟩
                  · cases e3
                · cases e3
              · cases e3
            · cases e3
          · cases e1
        · cases e1
    · cases h
  · cases h
theorem fzRec {S : Sx} {e : PySem.Expr} {P : Ex → Prop} (h : ∀ c : Ex, (∀ a, c ≠ .frz a) → isE N fns S c e = true → P c) (hf : ∀ c, P c → P (.frz c)) : ∀ c : Ex, isE N fns S c e = true → P c
  | .frz a, h2 => hf a (fzRec h hf a (by simpa only [isE] using h2))
  | .var _, h2 => h _ (fun _ z => by cases z) h2
  | .dget _ _ _, h2 => h _ (fun _ z => by cases z) h2
  | .sset _, h2 => h _ (fun _ z => by cases z) h2
  | .lset _, h2 => h _ (fun _ z => by cases z) h2
  | .dcx _, h2 => h _ (fun _ z => by cases z) h2
  | .dcm _ _ _ _ _ _, h2 => h _ (fun _ z => by cases z) h2
  | .isi _ _, h2 => h _ (fun _ z => by cases z) h2
  | .int _, h2 => h _ (fun _ z => by cases z) h2
  | .str _, h2 => h _ (fun _ z => by cases z) h2
  | .bl _, h2 => h _ (fun _ z => by cases z) h2
  | .non, h2 => h _ (fun _ z => by cases z) h2
  | .tup _, h2 => h _ (fun _ z => by cases z) h2
  | .lst _, h2 => h _ (fun _ z => by cases z) h2
  | .dct _ _, h2 => h _ (fun _ z => by cases z) h2
  | .bin _ _ _, h2 => h _ (fun _ z => by cases z) h2
  | .neg _, h2 => h _ (fun _ z => by cases z) h2
  | .not _, h2 => h _ (fun _ z => by cases z) h2
  | .bop _ _, h2 => h _ (fun _ z => by cases z) h2
  | .cmp _ _ _, h2 => h _ (fun _ z => by cases z) h2
  | .ifx _ _ _, h2 => h _ (fun _ z => by cases z) h2
  | .call _ _, h2 => h _ (fun _ z => by cases z) h2
  | .callB _ _, h2 => h _ (fun _ z => by cases z) h2
  | .meth _ _ _, h2 => h _ (fun _ z => by cases z) h2
  | .idx _ _, h2 => h _ (fun _ z => by cases z) h2
  | .slc _ _ _, h2 => h _ (fun _ z => by cases z) h2
  | .rev _, h2 => h _ (fun _ z => by cases z) h2
  | .lc _ _ _ _ _, h2 => h _ (fun _ z => by cases z) h2
  | .lc2 _ _ _ _ _ _ _, h2 => h _ (fun _ z => by cases z) h2
theorem setLc_core {X : Cx} {S : Sx} (O : Ok N fns ga cf k X S) {i : Nat} {y : Str} {py : Pos} {e : PySem.Expr} {pos : Pos} (h1 : nmAt N S i y = true) (h3 : (match e with | .ListComp _ _ scope _ => swB S.sc y py scope e.pos.line | _ => false) = true) :
    ∀ c : Ex, isE N fns S c e = true → PS X (.Assign [.Name y py] e pos) (fun D σ H => tE X.K ga cf b c σ H (fun v H1 => D.nx (σ.set i (some v)) H1)) := by
  have hnd : X.N.Nodup := by rw [O.hN]; exact O.nd
  obtain ⟨n1, l1⟩ := nmAt_ok O h1
  split at h3
  · rename_i elt gs scope lp
    have hsw : swapsWith (.ListComp elt gs scope lp) (some (.Name y py)) pos.line X.env = pure true := by
      rw [swaps_name O.kindX]
      simp only [compScope]
      rw [O.sc, h3]
    have lcs : ∀ c : Ex, (∀ a, c ≠ .frz a) → isE N fns S c (.ListComp elt gs scope lp) = true → PS X (.Assign [.Name y py] (.ListComp elt gs scope lp) pos) (fun D σ H => tE X.K ga cf b c σ H (fun v H1 => D.nx (σ.set i (some v)) H1)) := by
      intro c hnf h2
      cases c with
      | lc ce ctg cit cc own =>
        simp only [isE] at h2
        split at h2
        · rename_i heq
          cases heq
          rw [Bool.and_eq_true, Bool.and_eq_true, Bool.and_eq_true, Bool.and_eq_true, Bool.and_eq_true, Bool.and_eq_true] at h2
          obtain ⟨⟨⟨⟨⟨⟨g1, g2⟩, g3⟩, g4⟩, g5⟩, g6⟩, g7⟩ := h2
          have hb := blkOk_by g1
          refine (ps_setLc (own := own) (wi := tI X.K ga cf b cit) (g := tG X.K ga b ctg) (tt := tCo X.K ga cf b cc) (te := tE X.K ga cf b ce) O.calm hnd n1 l1 hsw (sndI cit O g4) (by rw [O.hN, O.sc]; exact hb) (fun s H C cl fp => sndG ctg (O.blk hb s H C cl fp) g3)
            (fun s H C cl fp => sndC cc (O.blk hb s H C cl fp) g5) (fun s H C cl fp => sndE ce (O.blk hb s H C cl fp) g2) (notSet_fold g6)).weak fun D σ H q => ?_
          exact lc_read (of_decide_eq_true g7) σ H _ q
        · cases h2
      | lc2 ce ctg cit ctg1 cit1 own own1 =>
        simp only [isE] at h2
        split at h2
        · rename_i heq
          cases heq
          rw [Bool.and_eq_true, Bool.and_eq_true, Bool.and_eq_true, Bool.and_eq_true, Bool.and_eq_true, Bool.and_eq_true, Bool.and_eq_true, Bool.and_eq_true, Bool.and_eq_true, Bool.and_eq_true] at h2
          obtain ⟨⟨⟨⟨⟨⟨⟨⟨⟨⟨g1, g2⟩, g3⟩, g4⟩, g5⟩, g6⟩, g7⟩, g8⟩, g9⟩, g10⟩, g11⟩ := h2
          have hb := blkOk_by g1
          refine (ps_setLc2 (own := own) (wi := tI X.K ga cf b cit) (g := tG X.K ga b ctg) (tt := tCo X.K ga cf b .none) (wi1 := tI X.K ga cf b cit1) (g1 := tG X.K ga b ctg1) (tt1 := tCo X.K ga cf b .none) (te := tE X.K ga cf b ce) O.calm hnd n1 l1 hsw (sndI cit O g4) (by rw [O.hN, O.sc]; exact hb) (of_decide_eq_true g11)
            (fun s H C cl fp => sndG ctg (O.blk hb s H C cl fp) g3) (fun s H C cl fp => pts_none) (fun s H C cl fp => sndI cit1 (O.blk hb s H C cl fp) g6) (fun s H C cl fp => sndG ctg1 (O.blk hb s H C cl fp) g5) (fun s H C cl fp => pts_none)
            (fun s H C cl fp => sndE ce (O.blk hb s H C cl fp) g2) (notSet_fold g7) (fun env => notSet_fold g8)).weak fun D σ H q => ?_
          exact lc2_read (of_decide_eq_true g9) (of_decide_eq_true g10) σ H _ q
        · cases h2
      | frz a => exact absurd rfl (hnf a)
      | _ => simp only [isE] at h2; cases h2
    have fz : ∀ c : Ex, PS X (.Assign [.Name y py] (.ListComp elt gs scope lp) pos) (fun D σ H => tE X.K ga cf b c σ H (fun v H1 => D.nx (σ.set i (some v)) H1)) → PS X (.Assign [.Name y py] (.ListComp elt gs scope lp) pos) (fun D σ H => tE X.K ga cf b (.frz c) σ H (fun v H1 => D.nx (σ.set i (some v)) H1)) := fun c h =>
      (ps_fz h).weak fun D σ H q => by
        obtain ⟨σd, E, μ, r, E', q1, hs, e, kk⟩ := frz_read q
        refine ⟨σd, E, μ, r, E', q1, hs, e, fun v H' μ' x' q' hr => ?_⟩
        rcases kk v H' μ' x' q' hr with z | ⟨d, u, rfl, hd, mu, z⟩
        · exact .inl z
        · exact .inr ⟨d, u, hd, mu, z⟩
    exact fzRec (P := fun c => PS X (.Assign [.Name y py] (.ListComp elt gs scope lp) pos) (fun D σ H => tE X.K ga cf b c σ H (fun v H1 => D.nx (σ.set i (some v)) H1))) (e := .ListComp elt gs scope lp) lcs fz
  · cases h3
theorem snd_setLc {X : Cx} {S : Sx} (O : Ok N fns ga cf k X S) {t : Tg} {c : Ex} {tg e : PySem.Expr} {pos : Pos} (h : isSetLc N fns S t c tg e = true) : PS X (.Assign [tg] e pos) (tS X.K ga cf wf b (.asg t c)) := by
  unfold isSetLc at h
  split at h
  · rename_i i y py
    rw [Bool.and_eq_true, Bool.and_eq_true] at h
    obtain ⟨⟨h1, h2⟩, h3⟩ := h
    refine (setLc_core (b := b) O h1 h3 c h2).weak fun D σ H q => ?_
    obtain ⟨σd, E, μ, fl, E', q, hs, e, k⟩ := q
    simp only [ex] at e
    split at e
    · cases e
    · rename_i r E1 e1
      obtain ⟨⟨σ2, E2⟩, e2, e3⟩ := Option.map_eq_some_iff.mp e
      cases e3
      simp only [asgT] at e2
      cases e2
      refine ⟨σd, E, μ, r, E1, q, hs, e1, fun v H1 μ1 x1 q1 h1 => ?_⟩
      obtain ⟨μ2, y1, up, q2, rv⟩ := reg_ok x1 q1 h1
      exact k _ H1 μ2 y1 q2 ((hs.mono y1).set rv)
  · cases h
theorem own_never {X : Cx} {S : Sx} (O : Ok N fns ga cf k X S) : PassesOwn (model X.prog X.w) X.A X.env X.xe := by
  rw [O.xe]
  exact PassesOwn.never
theorem sub_assign {o i : PySem.Expr} {p : Pos} {env : Env} (h : notSlice i = true) (v : Value) : assign (.Subscript o i p) env v = (do
      let ov ← holding [v] (eval o env)
      let iv ← holding [v, ov] (eval i env)
      standAt p
      holding [v, ov, iv] (setItem ov iv v)
      release [v, ov, iv] []) := by
  cases i <;> first | rfl | cases h
mutual
theorem sndS : ∀ (c : Stm) {X : Cx} {S : Sx} {st : Stmt}, Ok N fns ga cf k X S → isS N fns S c st = true → PS X st (tS X.K ga cf wf b c)
  | .asg t c, X, S, st, O, h => by
    simp only [isS] at h
    split at h
    · rename_i tg e pos
      rw [Bool.or_eq_true, Bool.or_eq_true] at h
      rcases h with (h | h) | h
      · rw [Bool.and_eq_true, Bool.and_eq_true, Bool.and_eq_true] at h
        obtain ⟨⟨⟨h1, h2⟩, h3⟩, h4⟩ := h
        have h5 : asgOk X.env.scope tg e = true := by rw [O.sc]; exact h4
        exact ss_asg (sndE c O h2) (sndG t O h1) (asgOk_sole O.kindX h5) (asgOk_stores O.kindX h5) (each_one h3)
      · exact snd_par O h
      · exact snd_setLc O h
    · cases h
  | .par _ _, X, S, st, O, h => by simp only [isS] at h; cases h
  | .sto o i c, X, S, st, O, h => by
    simp only [isS] at h
    split at h
    · rw [Bool.and_eq_true, Bool.and_eq_true, Bool.and_eq_true] at h
      obtain ⟨⟨⟨h1, h2⟩, h3⟩, h4⟩ := h
      exact ss_sto O.room (sndE c O h3) (sndE o O h1) (sndE i O h2) (sub_assign h4) sole_sub
    · cases h
  | .expr c, X, S, st, O, h => by
    simp only [isS] at h
    split at h
    · rw [Bool.and_eq_true] at h
      exact ss_expr (sndE c O h.1) (swaps_drop h.2)
    · cases h
  | .ret c, X, S, st, O, h => by
    simp only [isS] at h
    split at h
    · exact ss_ret (sndE c O h)
    · cases h
  | .ife t x y, X, S, st, O, h => by
    simp only [isS] at h
    split at h
    · rw [Bool.and_eq_true, Bool.and_eq_true] at h
      obtain ⟨⟨h1, h2⟩, h3⟩ := h
      exact ss_if (sndT t O h1) (sndSs x O h2) (sndSs y O h3)
    · cases h
  | .loop tg it bd, X, S, st, O, h => by
    simp only [isS] at h
    split at h
    · rw [Bool.and_eq_true, Bool.and_eq_true, Bool.and_eq_true] at h
      obtain ⟨⟨⟨h1, h2⟩, h3⟩, h4⟩ := h
      exact ss_for (own_never O) O.calm (sndI it O h2) (sndG tg O h1) (sndSs bd O h4) (notSet_fold h3)
    · cases h
  | .whl t bd, X, S, st, O, h => by
    simp only [isS] at h
    split at h
    · rw [Bool.and_eq_true] at h
      exact ss_while (own_never O) (sndT t O h.1) (sndSs bd O h.2)
    · cases h
  | .pass, X, S, st, O, h => by
    simp only [isS] at h
    split at h
    · exact ss_pass
    · cases h
  | .brk, X, S, st, O, h => by
    simp only [isS] at h
    split at h
    · exact ss_brk
    · cases h
  | .cont, X, S, st, O, h => by
    simp only [isS] at h
    split at h
    · exact ss_cont
    · cases h
theorem sndSs : ∀ (c : Stms) {X : Cx} {S : Sx} {l : List Stmt}, Ok N fns ga cf k X S → isSs N fns S c l = true → PSs X l (tSs X.K ga cf wf b c)
  | .nil, X, S, l, O, h => by
    simp only [isSs] at h
    cases l with
    | nil => exact ss_nil
    | cons _ _ => cases h
  | .cons c r, X, S, l, O, h => by
    simp only [isSs] at h
    split at h
    · rw [Bool.and_eq_true] at h
      exact ss_cons (sndS c O h.1) (sndSs r O h.2)
    · cases h
end
end
end Ev
end EvMst4
section EvFn
namespace Ev
open PySem PySem.Spec PyProof.Rows L2

/-! ## a def's promise from its body -/
theorem guards_deeper {A : Around} {env : Env} (h : A.guards = some []) : (A.deeper env).guards = some [] := h
section
variable {P : Program} {w : World} {K : PySem.W.Frag} {mg : Str → Option Value} {base : Heap}
theorem fnG_of {k : Nat} {f : Addr} {name qual : Str} {params : Arguments} {body : List Stmt} {scope : Scope} {dV kV doc pm cdv ct oc : Value} {an od : Option Addr} {osl : Array (Option Value)} {N ps : List Str} {sp : Pr}
    (lk : K.lookup f = some ⟨oc, od, .func (PySem.W.fnOf name qual params body scope dV kV doc pm an cdv ct), osl⟩) (hcd : PySem.W.codeIn K cdv qual = true) (S : FnScope N ps scope) (len : ∀ vs H Q, sp vs H Q → vs.length = ps.length)
    (hbody : ∀ (A : Around) (outer : List Env) (s : Shared) (H : Hp) (vs : List V) (Q : VK), Room k (A.deeper (envOfC qual scope s.heap.objs.size f cdv)) → A.guards = some [] → sp vs H Q →
      ∃ t, PSs (cxOf CX0 P w K mg base N qual scope f cdv A outer s H E0).nox body t ∧ t { nx := fun _ H' => Q .non H', rt := Q } (L2.start N vs) H) :
    FnG P w K mg base (k + 1) f (PySem.W.fnOf name qual params body scope dV kV doc pm an cdv ct) ps sp := by
  refine ⟨len, fun A outer s H args us vs Q hr hg e0 hb r hsp => ?_⟩
  have old := fun b o (e : base.get? b = some o) => (e0.bs b o e).1
  have kx : K.In s.heap := e0.mod.kin.keeps old
  have hkind : ∀ y ∈ ps.zip us, scope.names.lookup y.1 = some .local ∨ (scope.names.lookup y.1 = some .cell ∧ ((cellsFrom (s.heap.objs.size + 1) scope.names []).lookup y.1).isSome = true) := by
    intro y hy
    obtain ⟨n, v⟩ := y
    have hn := S.par n (List.of_mem_zip hy).1
    exact hn.imp id fun q => ⟨q, PySem.W.cellsFrom_some _ _ _ (.inl q)⟩
  refine codeAny_call_function hr.depth (kx _ _ lk) rfl S.co S.gen rfl (PySem.W.codeRec_of kx hcd) (hb _ _ _ _ ?_)
  refine wpAny_newFunctionEnv_cells S.kind hkind fun env he s1 x => ?_
  subst he
  refine ⟨(e0.mod.nolimit.keeps old).keeps x.toInCall.keep, codeAny_func ?_⟩
  obtain ⟨t, ht, hq⟩ := hbody A outer s H vs Q (hr.deeper _) hg hsp
  have I : L2.Inv (cxOf CX0 P w K mg base N qual scope f cdv A outer s H E0) [] (L2.start N vs) H s1 := inv_start S hr.hd e0 (len _ _ _ hsp) r x
  have done : ∀ {s' : Shared} {σ' : L2.St} {H' : Hp} {v : V} {u : Value}, L2.Inv (cxOf CX0 P w K mg base N qual scope f cdv A outer s H E0) [] σ' H' s' → RelV v u → Q v H' → CE outer P w H s Q u s' :=
    fun {s' σ' H' v u} J rv q => ⟨v, H', J.os, J.bare, J.base, J.hok, rv, q⟩
  refine wpAny_mono (ht.nox.run [] s1 (L2.start N vs) H _ I hq) (fun fl s' hs => ?_) fun e s' hs => hs
  match fl, hs with
  | .ret u, ⟨v, σ', H', J, rv, q⟩ => exact done J rv q
  | .next, ⟨σ', H', J, q⟩ => exact done (v := V.non) (u := Value.none) J rfl q
  | .brk, ⟨_, _, _, q⟩ => exact q.elim
  | .cont, ⟨_, _, _, q⟩ => exact q.elim
end
/-! what is dropped when a def is left -/
section
variable {K : PySem.W.Frag} {ga : Nat → Option Addr} {H H0 : Hp} {μ : List Addr}
mutual
theorem RpV.lowM : ∀ {d : D} {v : L2.V}, RpV K ga H μ d v → d.low μ.length = true
  | _, _, .non => rfl
  | _, _, .bl _ => rfl
  | _, _, .int _ => rfl
  | _, _, .str _ => rfl
  | _, _, .fn _ => rfl
  | _, _, .scr _ => rfl
  | _, _, .ref h => by
    simp only [D.low, decide_eq_true_eq]
    exact (List.getElem?_eq_some_iff.mp h).1
  | _, _, .tup _ r => by
    simp only [D.low]
    exact RpVs.lowM r
  | _, _, .lst _ r => by
    simp only [D.low]
    exact RpVs.lowM r
  | _, _, .dct _ _ r => by
    simp only [D.low]
    exact RpVs.lowM r
theorem RpVs.lowM : ∀ {ds : List D} {vs : List L2.V}, RpVs K ga H μ ds vs → D.lows μ.length ds = true
  | _, _, .nil => rfl
  | _, _, .cons r t => by
    simp only [D.lows, Bool.and_eq_true]
    exact ⟨RpV.lowM r, RpVs.lowM t⟩
end
theorem RpO.lowM {a : Addr} {o : O} (h : RpO K ga H μ a o) : o.low μ.length = true := by
  cases o with
  | lst xs => obtain ⟨_, _, r⟩ := h; exact r.lowM
  | dct xs => obtain ⟨_, _, r⟩ := h; exact r.lowM
mutual
theorem RpV.cutM {m : Nat} : ∀ {d : D} {v : L2.V}, RpV K ga H μ d v → d.low m = true → RpV K ga H (μ.take m) d v
  | _, _, .non, _ => .non
  | _, _, .bl b, _ => .bl b
  | _, _, .int i, _ => .int i
  | _, _, .str x, _ => .str x
  | _, _, .fn h, _ => .fn h
  | _, _, .scr h, _ => .scr h
  | _, _, .ref h, hl => by
    simp only [D.low, decide_eq_true_eq] at hl
    exact .ref (by rw [List.getElem?_take, if_pos hl]; exact h)
  | _, _, .tup h r, hl => by
    simp only [D.low] at hl
    exact .tup h (RpVs.cutM r hl)
  | _, _, .lst h r, hl => by
    simp only [D.low] at hl
    exact .lst h (RpVs.cutM r hl)
  | _, _, .dct h l r, hl => by
    simp only [D.low] at hl
    exact .dct h l (RpVs.cutM r hl)
theorem RpVs.cutM {m : Nat} : ∀ {ds : List D} {vs : List L2.V}, RpVs K ga H μ ds vs → D.lows m ds = true → RpVs K ga H (μ.take m) ds vs
  | _, _, .nil, _ => .nil
  | _, _, .cons r t, hl => by
    simp only [D.lows, Bool.and_eq_true] at hl
    exact .cons (RpV.cutM r hl.1) (RpVs.cutM t hl.2)
end
theorem RpO.cutM {m : Nat} {a : Addr} {o : O} (h : RpO K ga H μ a o) (hl : o.low m = true) : RpO K ga H (μ.take m) a o := by
  cases o with
  | lst xs => obtain ⟨ys, h, r⟩ := h; exact ⟨ys, h, r.cutM hl⟩
  | dct xs => obtain ⟨ys, h, r⟩ := h; exact ⟨ys, h, r.cutM hl⟩
def Mk.push (b : Mk) (n : Nat) (h : ∀ m ∈ b.all, m ≤ n) : Mk := ⟨n, b.all, h⟩
theorem Rp.push {b : Mk} {E : Eh} (q : Rp K ga b μ E H) : Rp K ga (b.push E.length q.bl) μ E H := by
  refine ⟨q.len, q.nd, q.ob, fun m hm n o hn e => ?_, fun m hm => ?_⟩
  · rcases List.mem_cons.mp hm with rfl | hm
    · have hn' : n < μ.length := by rw [q.len]; exact hn
      have := (q.ob n o _ e (List.getElem?_eq_getElem hn')).lowM
      rw [q.len] at this
      exact this
    · exact q.low m hm n o hn e
  · rcases List.mem_cons.mp hm with rfl | hm
    · exact Nat.le_refl _
    · exact q.bl m hm
/-- behind a def that is left: its own objects are dropped -/
theorem Rp.left {b : Mk} {E E1 : Eh} {H1 : Hp} {μ1 : List Addr} (q : Rp K ga b μ E H) (x : Ext K H μ H1 μ1) (q1 : Rp K ga (b.push E.length q.bl) μ1 E1 H1) :
    Rp K ga b μ (E1.take E.length) H1 ∧ Ext K H μ H1 μ ∧ μ1.take E.length = μ := by
  have z := x.pre
  obtain ⟨l, e, n⟩ := z
  have ht : μ1.take E.length = μ := by rw [e, ← q.len, List.take_left]
  have hlen : μ.length ≤ E1.length := by
    have := q1.len
    rw [e, List.length_append] at this
    omega
  refine ⟨⟨?_, q.nd, fun m o a e1 e2 => ?_, fun m hm n o hn e1 => ?_, fun m hm => ?_⟩, ⟨⟨[], by simp, by simp⟩, x.oth, x.tup⟩, ht⟩
  · rw [List.length_take, ← q.len]; omega
  · rw [List.getElem?_take] at e1
    split at e1
    · rename_i hm
      have := (q1.ob m o a e1 (x.at m a e2)).cutM (q1.low E.length List.mem_cons_self m o hm e1)
      rw [ht] at this
      exact this
    · cases e1
  · rw [List.getElem?_take] at e1
    split at e1
    · exact q1.low m (List.mem_cons_of_mem _ hm) n o hn e1
    · cases e1
  · have := q.bl m hm
    rw [List.length_take, ← q.len]
    rw [← q.len] at this
    omega
/-- what a def hands back, seen by its caller -/
theorem leave_ok {b : Mk} {E E1 : Eh} {H1 : Hp} {μ1 : List Addr} {r : Rv} {v : L2.V} (q : Rp K ga b μ E H) (x : Ext K H μ H1 μ1) (q1 : Rp K ga (b.push E.length q.bl) μ1 E1 H1) (hr : RpR K ga H H1 μ1 r v) :
    ∃ μ2, Ext K H μ H1 μ2 ∧ Rp K ga b μ2 (leave E.length r E1).2 H1 ∧ RpR K ga H H1 μ2 (leave E.length r E1).1 v := by
  obtain ⟨q2, x2, ht⟩ := q.left x q1
  have keep : Rp K ga b μ1 E1 H1 := ⟨q1.len, q1.nd, q1.ob, fun m hm => q1.low m (List.mem_cons_of_mem _ hm), fun m hm => q1.bl m (List.mem_cons_of_mem _ hm)⟩
  have cutR : ∀ {r : Rv}, RpR K ga H H1 μ1 r v → r.low E.length = true → RpR K ga H H1 μ r v := fun {r} hr hl => by
    cases r with
    | val d =>
      have := RpV.cutM (m := E.length) hr hl
      rw [ht] at this
      exact this
    | new o =>
      obtain ⟨a, e, ho, hn, h0⟩ := hr
      have := RpO.cutM (m := E.length) ho hl
      rw [ht] at this
      exact ⟨a, e, this, fun hm => hn (by have z := x.pre; obtain ⟨l, e, _⟩ := z; rw [e]; exact List.mem_append_left _ hm), h0⟩
  unfold leave
  by_cases hlow : r.low E.length = true
  · rw [if_pos hlow]
    exact ⟨μ, x2, q2, cutR hr hlow⟩
  · rw [if_neg hlow]
    cases r with
    | new o => exact ⟨μ1, x, keep, hr⟩
    | val d => cases d with
      | ref n =>
        show ∃ μ2, Ext K H μ H1 μ2 ∧ Rp K ga b μ2 (match E1[n]? with | some o => if o.low E.length = true then (Rv.new o, E1.take E.length) else (.val (.ref n), E1) | none => (.val (.ref n), E1)).2 H1 ∧ RpR K ga H H1 μ2 (match E1[n]? with | some o => if o.low E.length = true then (Rv.new o, E1.take E.length) else (.val (.ref n), E1) | none => (.val (.ref n), E1)).1 v
        cases eo : E1[n]? with
        | none => exact ⟨μ1, x, keep, hr⟩
        | some o =>
          by_cases hl : o.low E.length = true
          · simp only [hl, if_true]
            cases hr with
            | ref hm =>
              rename_i a
              have hnl : ¬ n < E.length := by
                intro z
                apply hlow
                simp only [Rv.low, D.low, decide_eq_true_eq]
                exact z
              have ho := q1.ob n o a eo hm
              have hmem : a ∉ μ := fun hz => by
                obtain ⟨i, hi, e⟩ := List.getElem_of_mem hz
                have hi1 : μ1[i]? = some a := x.at i a (by rw [List.getElem?_eq_getElem hi, e])
                have nd := List.pairwise_iff_getElem.mp q1.nd
                obtain ⟨l1, g1⟩ := List.getElem?_eq_some_iff.mp hi1
                obtain ⟨l2, g2⟩ := List.getElem?_eq_some_iff.mp hm
                have hlt : i < n := by have := q.len; omega
                exact nd _ _ l1 l2 hlt (g1.trans g2.symm)
              have h0 : H a = none := by
                have z := x.pre
                obtain ⟨l, e, nn⟩ := z
                have : a ∈ μ ++ l := e ▸ List.mem_of_getElem? hm
                rcases List.mem_append.mp this with h | h
                · exact absurd h hmem
                · exact nn a h
              have := RpO.cutM (m := E.length) ho hl
              rw [ht] at this
              exact ⟨μ, x2, q2, a, rfl, this, hmem, h0⟩
          · simp only [hl]
            exact ⟨μ1, x, keep, hr⟩
      | _ => exact ⟨μ1, x, keep, hr⟩
end
section
variable {P : Program} {w : World} {K : PySem.W.Frag} {mg : Str → Option Value} {base : Heap} {ga : Nat → Option Addr} {prog : List Fn} {fns : List (Str × Nat)} {wf k : Nat}
/-- the program's table of defs as it stands behind the top -/
structure Dfs (K : PySem.W.Frag) (mg : Str → Option Value) (prog : List Fn) (fns : List (Str × Nat)) (j : Nat) (f : Addr) (fd : FuncData) (N ps : List Str) (st : Stmt) (x : Str) : Prop where
  fn : Fun K x x st f fd
  sc : FnScope N ps (defScope st)
  bi : Binds K fd ps []
  mg : mg x = some (.ref f)
  pr : ∃ F, prog[j]? = some F ∧ F.np = ps.length ∧ F.nn = N.length ∧ isSs N fns ⟨defScope st, fun _ => true⟩ F.body (defBody st) = true
  fx : fns[j]? = some (x, ps.length)
theorem start_rp {H : Hp} {μ : List Addr} {N : List Str} {np : Nat} {ds : List D} {vs : List L2.V} (r : RpVs K ga H μ ds vs) (h : ds.length = np) : RpS K ga H μ (ds.map some ++ List.replicate (N.length - np) none) (L2.start N vs) := by
  unfold L2.start
  rw [← r.length, h]
  refine ⟨by simp [r.length], fun i d e => ?_⟩
  by_cases hi : i < ds.length
  · rw [List.getElem?_append_left (by simpa using hi), List.getElem?_map] at e
    obtain ⟨d', e1, e2⟩ := Option.map_eq_some_iff.mp e
    cases e2
    obtain ⟨v, e3, rv⟩ := r.get e1
    refine ⟨v, ?_, rv⟩
    rw [List.getElem?_append_left (by rw [List.length_map, ← r.length]; exact hi), List.getElem?_map, e3]
    rfl
  · rw [List.getElem?_append_right (by simpa using hi), List.getElem?_replicate] at e
    split at e <;> cases e
theorem callF_len {j : Nat} {ds : List D} {E : Eh} {r : Rv × Eh} : ∀ {k : Nat}, callF prog wf k j ds E = some r → ∃ F, prog[j]? = some F ∧ ds.length = F.np
  | 0, h => by simp only [callF] at h; cases h
  | k + 1, h => by
    simp only [callF] at h
    split at h
    · cases h
    · rename_i F e
      split at h
      · rename_i hl
        exact ⟨F, e, hl⟩
      · cases h
theorem def_ok {j : Nat} {f : Addr} {fd : FuncData} {N ps : List Str} {st : Stmt} {x : Str} (D : Dfs K mg prog fns j f fd N ps st x)
    (blt : ∀ x ∈ blts, mg x = none)
    (ih : ∀ (j : Nat) (x : Str) (np : Nat), fns[j]? = some (x, np) → ∃ f fd ps, mg x = some (.ref f) ∧ PySem.W.keepIn K (.ref f) = true ∧ Binds K fd ps [] ∧ FnG P w K mg base k f fd ps (spF K ga np (callF prog wf k j)))
    (hnp : ∀ (j : Nat) (x : Str) (np : Nat), fns[j]? = some (x, np) → ∀ F, prog[j]? = some F → F.np = np) :
    FnG P w K mg base (k + 1) f fd ps (spF K ga ps.length (callF prog wf (k + 1) j)) := by
  obtain ⟨oc, od, kV, doc, pm, an, cdv, ct, osl, rfl, lk, hcd⟩ := D.fn.ex
  obtain ⟨F, hF, hn1, hn2, hchk⟩ := D.pr
  refine fnG_of lk hcd D.sc (fun vs H Q h => h.1) fun A outer s H vs Q hr hg hsp => ?_
  obtain ⟨hl, b, μ, E, ds, r, E', q, rs, e, kk⟩ := hsp
  simp only [callF, hF] at e
  split at e
  · rename_i hlen
    have O : Ok N fns ga (callF prog wf k) k (cxOf CX0 P w K mg base N x (defScope st) f cdv A outer s H E0).nox ⟨defScope st, fun _ => true⟩ :=
      { calm := rfl, room := hr, grd := guards_deeper hg, nd := D.sc.nd, hN := rfl, sc := rfl, kind := D.sc.kind, fn := fun _ _ => rfl, xe := rfl, blt := blt, dfs := ih,
        cfn := fun j x np h ds E r he => by
          obtain ⟨F, h1, h2⟩ := callF_len he
          rw [h2]
          exact hnp j x np h F h1 }
    refine ⟨_, sndSs (wf := wf) (b := b.push E.length q.bl) F.body O hchk, ?_⟩
    have hst : RpS K ga H μ (ds.map some ++ List.replicate (F.nn - F.np) none) (L2.start N vs) := by
      rw [hn2]
      exact start_rp rs hlen
    split at e
    · rename_i r1 E1 e1
      have e2 := Option.some.inj e
      refine ⟨_, E, μ, .rt r1, E1, q.push, hst, e1, fun v H' μ' x' q' hr' => ?_⟩
      obtain ⟨μ2, x2, q2, r2⟩ := leave_ok q x' q' hr'
      rw [e2] at q2 r2
      exact kk v H' μ2 x2 q2 r2
    · rename_i σ1 E1 e1
      have e2 := Option.some.inj e
      refine ⟨_, E, μ, .nx σ1, E1, q.push, hst, e1, fun σ' H' μ' x' q' _ => ?_⟩
      obtain ⟨μ2, x2, q2, r2⟩ := leave_ok (r := .val .non) (v := .non) q x' q' RpV.non
      rw [e2] at q2 r2
      exact kk .non H' μ2 x2 q2 r2
    · cases e
  · cases e
end
end Ev
end EvFn
section EvEnd
namespace Ev
open PySem PySem.Spec PyProof.Rows L2

section
variable {P : Program} {w : World} {K : PySem.W.Frag} {mg : Str → Option Value} {base : Heap} {ga : Nat → Option Addr} {prog : List Fn} {fns : List (Str × Nat)} {wf : Nat}
/-- every def keeps what the evaluator says, at every depth -/
theorem all_ok (T : ∀ (j : Nat) (x : Str) (np : Nat), fns[j]? = some (x, np) → ∃ f fd N ps st, Dfs K mg prog fns j f fd N ps st x ∧ ps.length = np) (blt : ∀ x ∈ blts, mg x = none) :
    ∀ (k : Nat) (j : Nat) (x : Str) (np : Nat), fns[j]? = some (x, np) → ∃ f fd ps, mg x = some (.ref f) ∧ PySem.W.keepIn K (.ref f) = true ∧ Binds K fd ps [] ∧ FnG P w K mg base k f fd ps (spF K ga np (callF prog wf k j)) ∧ ps.length = np := by
  have hnp : ∀ (j : Nat) (x : Str) (np : Nat), fns[j]? = some (x, np) → ∀ F, prog[j]? = some F → F.np = np := fun j x np h F hF => by
    obtain ⟨f, fd, N, ps, st, D, e⟩ := T j x np h
    obtain ⟨F', h1, h2, _⟩ := D.pr
    rw [hF] at h1
    cases h1
    rw [h2, e]
  intro k
  induction k with
  | zero =>
    intro j x np h
    obtain ⟨f, fd, N, ps, st, D, e⟩ := T j x np h
    refine ⟨f, fd, ps, D.mg, D.fn.kp, D.bi, ⟨fun vs H Q q => by rw [q.1, e], fun A outer s H args us vs Q _ _ _ _ _ q => ?_⟩, e⟩
    obtain ⟨_, b, μ, E, ds, r, E', _, _, e1, _⟩ := q
    simp only [callF] at e1
    cases e1
  | succ k ih =>
    intro j x np h
    obtain ⟨f, fd, N, ps, st, D, e⟩ := T j x np h
    have := def_ok (P := P) (w := w) (base := base) (ga := ga) D blt (fun j x np h => let ⟨f, fd, ps, h1, h2, h3, h4, _⟩ := ih j x np h; ⟨f, fd, ps, h1, h2, h3, h4⟩) hnp
    rw [e] at this
    exact ⟨f, fd, ps, D.mg, D.fn.kp, D.bi, this, e⟩
end
/-- the law's call, from its promise -/
theorem law_run {P : Program} {w : World} {K : PySem.W.Frag} {mg mb : Str → Option Value} {k : Nat} {fa a : Addr} {sp : Pr} {s1 : Shared} {vs : List Value} {ns : List Int}
    (kx : K.In s1.heap) (hns : s1.heap.Ns mainGlobals mg) (hbn : s1.heap.Ns builtinsNs mb) (hbb : ∀ x : Str, x ≠ "__name__" → mb x = bootBuiltins x) (hlim : s1.heap.NoLimit) (hgen : s1.gens = #[])
    (ha : s1.heap.get? a = some { cls := .type "list", data := .seq vs.toArray }) (hi : IntsAre vs ns) (hz : ns.length ≤ sizeLine) (hr : Room k callerA)
    (F : ∀ base : Heap, K.In base → base.Ns mainGlobals mg → ∃ fd x, Binds K fd [x] [] ∧ FnG P w K mg base k fa fd [x] sp)
    (hsp : ∀ H : Hp, FzL K H a (ns.map V.int) → sp [.ref a] H (fun v _ => v = .bl true)) :
    codeAny (model P w) callerA (.call (.ref fa) ⟨[.ref a], []⟩) (fun r s' => r = .ok (.ret (.bool true)) ∧ OldK s1.heap s'.heap ∧ s'.os = s1.os ∧ AllBare s'.gens) s1 := by
  have main : ∀ H : Hp, (∀ b, H b = none ∨ b = a ∧ ∃ o xs, H b = some (.frz o (.lst xs))) → FzL K H a (ns.map V.int) → HOk P w H s1.heap → (H a ≠ none → K.lookup a = none) →
      codeAny (model P w) callerA (.call (.ref fa) ⟨[.ref a], []⟩) (fun r s' => r = .ok (.ret (.bool true)) ∧ OldK s1.heap s'.heap ∧ s'.os = s1.os ∧ AllBare s'.gens) s1 := by
    intro H only fz hok hk
    have stays : ∀ {b : Addr} {o : Obj}, s1.heap.get? b = some o → (b = a → H a = none) → (hidT s1.heap H).get? b = some o := fun {b o} e hb => by
      refine hidT_get e ?_
      rcases only b with h | ⟨h, _⟩
      · exact h
      · rw [h]; exact hb h
    have names : ∀ {b : Addr} {m : Str → Option Value}, s1.heap.Ns b m → (hidT s1.heap H).Ns b m := fun {b m} h => by
      obtain ⟨o, es, ep, e, d, r⟩ := h
      refine ⟨o, es, ep, stays e fun hb => ?_, d, r⟩
      subst hb
      rw [ha] at e
      cases e
      cases d
    have kb : K.In (hidT s1.heap H) := fun b o e => stays (kx b o e) fun hb => by
      subst hb
      cases q : H b with
      | none => rfl
      | some u =>
        have := hk (by rw [q]; exact fun z => by cases z)
        rw [this] at e
        cases e
    obtain ⟨mc, l1, l2⟩ := hlim
    have md : Mod K mg (hidT s1.heap H) := { kin := kb, glob := names hns, blt := ⟨mb, names hbn, hbb⟩, nolimit := ⟨mc, names l1, l2⟩ }
    have e0 : Env0 P w K mg (hidT s1.heap H) callerA [] s1 H :=
      { frames := rfl, mod := md, bs := fun b o e => of_hidT e, bsz := Nat.le_of_eq (hidT_size _ _), funs := trivial, frf := fun b hb => absurd hb (List.not_mem_nil), hok := hok, bare := .of_eq hgen }
    obtain ⟨fd, x, hbind, F1⟩ := F _ kb (names hns)
    refine codeAny_mono (F1.run callerA [] s1 H ⟨[.ref a], []⟩ [.ref a] [.ref a] _ hr rfl e0 (hbind s1 [.ref a] kx rfl) (.cons rfl .nil) (hsp H fz)) fun r s' h => ?_
    match r, h with
    | .error _, h => exact h.elim
    | .ok .next, h => exact h.elim
    | .ok .brk, h => exact h.elim
    | .ok .cont, h => exact h.elim
    | .ok (.ret u), ⟨v, H', os, bare, un, hok', rv, q⟩ =>
      have hv : v = .bl true := q
      subst hv
      have hu : u = Value.bool true := rv
      subst hu
      refine ⟨rfl, OldK.of_keep fun b o e => ?_, os, bare⟩
      rcases only b with hn | ⟨_, ob, xs, hb⟩
      · exact un.keep b o e hn (List.not_mem_nil) (List.not_mem_nil)
      · have h1 := (hok b _ hb).1
        have h2 := (hok' b _ (un.frzs b ob _ hb)).1
        rw [e] at h1
        cases h1
        exact h2
  have rv := vals_ints hi
  have hl := hi.length
  cases hk : K.lookup a with
  | some o =>
    have e := kx a o hk
    rw [ha] at e
    cases e
    exact main (fun _ => none) (fun _ => .inl rfl) (.inr ⟨_, vs.toArray, _, hk, rfl, rfl, rfl, by rw [List.size_toArray, hl]; exact hz, by simpa using rv⟩) (fun b u e => by cases e) fun h => absurd rfl h
  | none =>
    refine main (fun b => if b = a then some (.frz { cls := .type "list", data := .seq vs.toArray } (.lst (ns.map V.int))) else none) (fun b => ?_) (.inl ⟨_, if_pos rfl⟩) (fun b u e => ?_) fun _ => hk
    · by_cases hb : b = a
      · exact .inr ⟨hb, _, _, if_pos hb⟩
      · exact .inl (if_neg hb)
    · by_cases hb : b = a
      · have e1 := (if_pos hb).symm.trans e
        cases e1
        rw [hb]
        exact ⟨ha, by rw [List.length_map]; exact hz, vs, _, rv, ha⟩
      · have e1 := (if_neg hb).symm.trans e
        cases e1
/-- the goal that is left behind the head -/
theorem walk_ev {l : PySem.W.OpenLaw} {n k wf : Nat} {q : Program} {loose : List Str} {XP : (Str → Option Value) → Heap → Prop} {YP : World → Heap → Prop} {d : DefRec} {K : Params → PySem.W.Frag} {x : Str} {prog : List Fn} {fns : List (Str × Nat)} {j : Nat}
    (hn : l.most = some n) (hn2 : n ≤ sizeLine) (hdf : d.params.defaults = []) (hr : Room k callerA) (hY : ∀ (w : World) (h : Heap), YP w h → (K w.params).In h) (hj : fns[j]? = some (d.name, 1))
    (T : ∀ (w : World) (mg : Str → Option Value) (h : Heap), (K w.params).In h → h.Ns mainGlobals mg →
      (∀ (j : Nat) (x : Str) (np : Nat), fns[j]? = some (x, np) → ∃ f fd N ps st, Dfs (K w.params) mg prog fns j f fd N ps st x ∧ ps.length = np) ∧ (∀ x ∈ blts, mg x = none))
    (hlaw : ∀ ns : List Int, ns.length ≤ n → ∃ E', callF prog wf k j [.scr ns] [] = some (.val (.bl true), E')) :
    PySem.W.WalkO q loose XP YP l.row.toRowW d [] (fun f vs => PySem.call f vs) := by
  refine Att.attach_call hn hdf fun w s₀ s₁ mg mb fa o pm cd doc a vs ns G Y ho hd hcd hmg hobj hints hlen hg => ?_
  have kx := hY w _ Y
  refine law_run kx G.T.g G.T.b G.T.builtins G.T.nolimit hg hobj hints (Nat.le_trans hlen hn2) hr (sp := spF (K w.params) (fun _ => none) 1 (callF prog wf k j)) (fun base hb1 hb2 => ?_) ?_
  · obtain ⟨T3, T4⟩ := T w mg base hb1 hb2
    obtain ⟨f', fd', ps', h1, h2, h3, h4, h5⟩ := all_ok (P := l.prog) (w := w) (base := base) (ga := fun _ => none) (wf := wf) T3 T4 k j d.name 1 hj
    have hf : f' = fa := by
      rw [hmg] at h1
      cases h1
      rfl
    subst hf
    match ps', h5, h3, h4 with
    | [p], _, h3, h4 => exact ⟨fd', p, h3, h4⟩
  · intro H fz
    obtain ⟨E', he⟩ := hlaw ns hlen
    refine ⟨rfl, ⟨0, [], fun m hm => by cases hm⟩, [], [], [.scr ns], _, E', ⟨rfl, List.Pairwise.nil, fun n o a e => by simp at e, fun m hm n o hn => ?_, fun m hm => ?_⟩, .cons (.scr fz) .nil, he, fun v H' μ' x' q' r' => ?_⟩
    · rcases List.mem_cons.mp hm with rfl | hm
      · exact absurd hn (Nat.not_lt_zero _)
      · cases hm
    · rcases List.mem_cons.mp hm with rfl | hm
      · exact Nat.le_refl _
      · cases hm
    · cases r'
      rfl
end Ev
end EvEnd
section C11
namespace K11
open PySem Ev
def b_named_on_1 : Ev.Stms := .cons (.ret (.bin .Add (.lc2 (.var 7) (.nm 6) (.seq (.var 3)) (.nm 7) (.seq (.slc (.idx (.var 6) (.int 5)) (.some (.int 1)) .none)) [("choice", 6), ("one", 7)] [7]) (.callB "list" (.cons (.var 4) .nil)))) .nil
def b_named_on : Ev.Stms := .cons (.asg (.tp (.cons (.nm 1) (.cons (.nm 2) (.cons (.nm 3) (.cons (.nm 4) (.cons (.nm 5) .nil)))))) (.var 0)) b_named_on_1
def b_loose_ends_2 : Ev.Stms := .cons (.ret (.callB "tuple" (.cons (.lc (.var 4) (.nm 4) (.seq (.var 1)) (.some (.cmp .NotIn (.var 4) (.var 2))) [("name", 4)]) .nil))) .nil
def b_loose_ends_1 : Ev.Stms := .cons (.whl (.cmp .NotEq (.var 3) (.lst .nil)) (.cons (.asg (.nm 4) (.frz (.meth "pop" (.var 3) .nil))) (.cons (.ife (.cmp .NotIn (.var 4) (.var 2)) (.cons (.sto (.var 2) (.var 4) (.bl true)) (.cons (.expr (.meth "extend" (.var 3) (.cons (.call 0 (.cons (.idx (.var 1) (.var 4)) .nil)) .nil))) .nil)) .nil) .nil))) b_loose_ends_2
def b_loose_ends : Ev.Stms := .cons (.asg (.tp (.cons (.nm 1) (.cons (.nm 2) (.cons (.nm 3) .nil)))) (.tup (.cons (.frz (.dcm (.idx (.var 5) (.int 0)) (.var 5) (.nm 5) (.seq (.idx (.var 0) (.int 5))) .none [("scene", 5)])) (.cons (.dct .nil .nil) (.cons (.lst (.cons (.idx (.var 0) (.int 6)) .nil)) .nil))))) b_loose_ends_1
def b__law_feed : Ev.Stms := .cons (.ret (.lst (.cons (.frz (.slc (.var 0) .none (.some (.int 63)))) (.cons (.int 0) (.cons (.int 0) (.cons (.int 0) .nil)))))) .nil
def b__law_draw_7 : Ev.Stms := .cons (.ret (.bin .Mod (.bin .FloorDiv (.bin .Mod (.bin .Pow (.bin .Add (.var 4) (.bin .Mult (.int 104729) (.idx (.var 0) (.int 3)))) (.int 5)) (.int 2147483587)) (.int 64)) (.var 1))) .nil
def b__law_draw_6 : Ev.Stms := .cons (.asg (.nm 4) (.bin .Mod (.bin .Pow (.bin .Add (.bin .Add (.bin .Mod (.var 3) (.int 2147483629)) (.bin .Mult (.int 7919) (.idx (.var 0) (.int 3)))) (.int 1)) (.int 5)) (.int 2147483647))) b__law_draw_7
def b__law_draw_5 : Ev.Stms := .cons (.ife (.bop true (.cons (.cmp .GtE (.var 3) (.bin .Pow (.int 10) (.int 18))) (.cons (.cmp .LtE (.idx (.var 0) (.int 1)) (.callB "len" (.cons (.idx (.var 0) (.int 0)) .nil))) .nil))) (.cons (.sto (.var 0) (.int 2) (.bin .FloorDiv (.var 3) (.var 1))) (.cons (.ret (.bin .Mod (.var 3) (.var 1))) .nil)) .nil) b__law_draw_6
def b__law_draw_4 : Ev.Stms := .cons (.sto (.var 0) (.int 1) (.frz (.bin .Add (.idx (.var 0) (.int 1)) (.int 1)))) b__law_draw_5
def b__law_draw_3 : Ev.Stms := .cons (.ife (.cmp .NotEq (.idx (.var 0) (.int 0)) (.lst .nil)) (.cons (.asg (.nm 3) (.idx (.idx (.var 0) (.int 0)) (.bin .Mod (.idx (.var 0) (.int 1)) (.callB "len" (.cons (.idx (.var 0) (.int 0)) .nil))))) .nil) .nil) b__law_draw_4
def b__law_draw_2 : Ev.Stms := .cons (.asg (.nm 3) (.int 5)) b__law_draw_3
def b__law_draw_1 : Ev.Stms := .cons (.ife (.cmp .Gt (.idx (.var 0) (.int 2)) (.int 0)) (.cons (.asg (.nm 2) (.bin .Mod (.idx (.var 0) (.int 2)) (.var 1))) (.cons (.sto (.var 0) (.int 2) (.bin .FloorDiv (.idx (.var 0) (.int 2)) (.var 1))) (.cons (.ret (.var 2)) .nil))) .nil) b__law_draw_2
def b__law_draw : Ev.Stms := .cons (.sto (.var 0) (.int 3) (.frz (.bin .Add (.idx (.var 0) (.int 3)) (.int 1)))) b__law_draw_1
def b__law_pick : Ev.Stms := .cons (.ret (.idx (.var 1) (.call 3 (.cons (.var 0) (.cons (.callB "len" (.cons (.var 1) .nil)) .nil))))) .nil
def b__law_spent_1 : Ev.Stms := .cons (.ret (.cmp .Lt (.idx (.idx (.var 0) (.str "left")) (.int 0)) (.int 0))) .nil
def b__law_spent : Ev.Stms := .cons (.sto (.idx (.var 0) (.str "left")) (.int 0) (.bin .Sub (.idx (.idx (.var 0) (.str "left")) (.int 0)) (.int 1))) b__law_spent_1
def b__law_sum_5 : Ev.Stms := .cons (.ret (.tup (.cons (.str "num") (.cons (.idx (.lst (.cons (.int 0) (.cons (.int 1) (.cons (.int 2) (.cons (.int 9) (.cons (.neg (.int 3)) (.cons (.int 10) .nil))))))) (.call 3 (.cons (.var 0) (.cons (.int 6) .nil)))) .nil)))) .nil
def b__law_sum_4 : Ev.Stms := .cons (.ife (.bop true (.cons (.cmp .Eq (.var 3) (.int 4)) (.cons (.cmp .NotEq (.idx (.var 2) (.str "scene")) (.lst .nil)) .nil))) (.cons (.ret (.tup (.cons (.str "seen") (.cons (.frz (.call 4 (.cons (.var 0) (.cons (.idx (.var 2) (.str "scene")) .nil)))) .nil)))) .nil) .nil) b__law_sum_5
def b__law_sum_3 : Ev.Stms := .cons (.ife (.bop true (.cons (.cmp .Lt (.var 3) (.int 4)) (.cons (.cmp .NotEq (.idx (.var 2) (.str "number")) (.lst .nil)) .nil))) (.cons (.ret (.tup (.cons (.str "of") (.cons (.frz (.call 4 (.cons (.var 0) (.cons (.idx (.var 2) (.str "number")) .nil)))) .nil)))) .nil) .nil) b__law_sum_4
def b__law_sum_2 : Ev.Stms := .cons (.ife (.bop true (.cons (.cmp .Lt (.var 3) (.int 2)) (.cons (.cmp .Gt (.var 1) (.int 0)) .nil))) (.cons (.ret (.tup (.cons (.idx (.lst (.cons (.str "plus") (.cons (.str "minus") .nil))) (.var 3)) (.cons (.frz (.call 6 (.cons (.var 0) (.cons (.bin .Sub (.var 1) (.int 1)) (.cons (.var 2) .nil))))) (.cons (.frz (.call 6 (.cons (.var 0) (.cons (.bin .Sub (.var 1) (.int 1)) (.cons (.var 2) .nil))))) .nil))))) .nil) .nil) b__law_sum_3
def b__law_sum_1 : Ev.Stms := .cons (.ife (.call 5 (.cons (.var 2) .nil)) (.cons (.ret (.tup (.cons (.str "num") (.cons (.var 3) .nil)))) .nil) .nil) b__law_sum_2
def b__law_sum : Ev.Stms := .cons (.asg (.nm 3) (.frz (.call 3 (.cons (.var 0) (.cons (.int 7) .nil))))) b__law_sum_1
def b__law_test_6 : Ev.Stms := .cons (.ret (.tup (.cons (.str "all") (.cons (.tup .nil) .nil)))) .nil
def b__law_test_5 : Ev.Stms := .cons (.ife (.cmp .Lt (.var 3) (.int 7)) (.cons (.ret (.tup (.cons (.str "is") (.cons (.frz (.call 6 (.cons (.var 0) (.cons (.int 1) (.cons (.var 2) .nil))))) (.cons (.idx (.lst (.cons (.str "<") (.cons (.str "=") (.cons (.str ">") .nil)))) (.call 3 (.cons (.var 0) (.cons (.int 3) .nil)))) (.cons (.frz (.call 6 (.cons (.var 0) (.cons (.int 1) (.cons (.var 2) .nil))))) .nil)))))) .nil) .nil) b__law_test_6
def b__law_test_4 : Ev.Stms := .cons (.ife (.bop true (.cons (.cmp .Eq (.var 3) (.int 4)) (.cons (.cmp .NotEq (.idx (.var 2) (.str "figure")) (.lst .nil)) .nil))) (.cons (.ret (.tup (.cons (.str "with") (.cons (.frz (.call 4 (.cons (.var 0) (.cons (.idx (.var 2) (.str "figure")) .nil)))) (.cons (.frz (.call 4 (.cons (.var 0) (.cons (.idx (.var 2) (.str "figure")) .nil)))) .nil))))) .nil) .nil) b__law_test_5
def b__law_test_3 : Ev.Stms := .cons (.ife (.bop true (.cons (.cmp .Eq (.var 3) (.int 3)) (.cons (.cmp .NotEq (.idx (.var 2) (.str "figure")) (.lst .nil)) (.cons (.cmp .NotEq (.idx (.var 2) (.str "place")) (.lst .nil)) .nil)))) (.cons (.ret (.tup (.cons (.str "at") (.cons (.frz (.call 4 (.cons (.var 0) (.cons (.idx (.var 2) (.str "figure")) .nil)))) (.cons (.frz (.call 4 (.cons (.var 0) (.cons (.idx (.var 2) (.str "place")) .nil)))) .nil))))) .nil) .nil) b__law_test_4
def b__law_test_2 : Ev.Stms := .cons (.ife (.bop true (.cons (.cmp .Lt (.var 3) (.int 3)) (.cons (.cmp .Gt (.var 1) (.int 0)) .nil))) (.cons (.asg (.nm 4) (.callB "tuple" (.cons (.lc (.frz (.call 7 (.cons (.var 0) (.cons (.bin .Sub (.var 1) (.int 1)) (.cons (.var 2) .nil))))) (.nm 5) (.range (.cons (.call 3 (.cons (.var 0) (.cons (.int 3) .nil))) .nil)) .none [("_law_k", 5)]) .nil))) (.cons (.ret (.idx (.lst (.cons (.tup (.cons (.str "not") (.cons (.frz (.call 7 (.cons (.var 0) (.cons (.bin .Sub (.var 1) (.int 1)) (.cons (.var 2) .nil))))) .nil))) (.cons (.tup (.cons (.str "all") (.cons (.var 4) .nil))) (.cons (.tup (.cons (.str "any") (.cons (.var 4) .nil))) .nil)))) (.var 3))) .nil)) .nil) b__law_test_3
def b__law_test_1 : Ev.Stms := .cons (.ife (.call 5 (.cons (.var 2) .nil)) (.cons (.ret (.tup (.cons (.str "all") (.cons (.tup .nil) .nil)))) .nil) .nil) b__law_test_2
def b__law_test : Ev.Stms := .cons (.asg (.nm 3) (.frz (.call 3 (.cons (.var 0) (.cons (.int 9) .nil))))) b__law_test_1
def b__law_pieces_1 : Ev.Stms := .cons (.ret (.callB "tuple" (.cons (.lc (.frz (.call 9 (.cons (.var 0) (.cons (.var 1) (.cons (.var 2) (.cons (.var 3) .nil)))))) (.nm 5) (.range (.cons (.var 4) .nil)) .none [("_law_k", 5)]) .nil))) .nil
def b__law_pieces : Ev.Stms := .cons (.asg (.nm 4) (.frz (.ifx (.cmp .Gt (.idx (.idx (.var 2) (.str "left")) (.int 0)) (.int 0)) (.call 3 (.cons (.var 0) (.cons (.int 3) .nil))) (.int 0)))) b__law_pieces_1
def b__law_piece_6 : Ev.Stms := .cons (.ret (.tup (.cons (.str "text") (.cons (.idx (.lst (.cons (.str "") (.cons (.str " ") (.cons (.str "You go.") (.cons (.str "a  b ") (.cons (.str "done") (.cons (.str "else") (.cons (.str "text x") (.cons (.str "if all 0") .nil))))))))) (.call 3 (.cons (.var 0) (.cons (.int 8) .nil)))) .nil)))) .nil
def b__law_piece_5 : Ev.Stms := .cons (.ife (.cmp .Lt (.var 4) (.int 6)) (.cons (.ret (.idx (.lst (.cons (.tup (.cons (.str "end") .nil)) (.cons (.tup (.cons (.str "glue") .nil)) .nil))) (.bin .Mod (.var 4) (.int 2)))) .nil) .nil) b__law_piece_6
def b__law_piece_4 : Ev.Stms := .cons (.ife (.bop true (.cons (.cmp .Eq (.var 4) (.int 3)) (.cons (.cmp .NotEq (.idx (.var 2) (.str "figure")) (.lst .nil)) .nil))) (.cons (.ret (.tup (.cons (.str "place") (.cons (.frz (.call 4 (.cons (.var 0) (.cons (.idx (.var 2) (.str "figure")) .nil)))) .nil)))) .nil) .nil) b__law_piece_5
def b__law_piece_3 : Ev.Stms := .cons (.ife (.cmp .Eq (.var 4) (.int 2)) (.cons (.ret (.tup (.cons (.str "worth") (.cons (.frz (.call 6 (.cons (.var 0) (.cons (.int 2) (.cons (.var 2) .nil))))) .nil)))) .nil) .nil) b__law_piece_4
def b__law_piece_2 : Ev.Stms := .cons (.ife (.bop true (.cons (.cmp .Lt (.var 4) (.int 2)) (.cons (.cmp .Gt (.var 1) (.int 0)) .nil))) (.cons (.asg (.nm 5) (.frz (.call 8 (.cons (.var 0) (.cons (.bin .Sub (.var 1) (.int 1)) (.cons (.var 2) (.cons (.var 3) .nil))))))) (.cons (.ife (.bop true (.cons (.cmp .Eq (.var 4) (.int 1)) (.cons (.var 3) .nil))) (.cons (.ret (.tup (.cons (.str "only") (.cons (.idx (.lst (.cons (.str "ann") (.cons (.str "zoe") .nil))) (.call 3 (.cons (.var 0) (.cons (.int 2) .nil)))) (.cons (.var 5) .nil))))) .nil) .nil) (.cons (.ret (.tup (.cons (.str "if") (.cons (.frz (.call 7 (.cons (.var 0) (.cons (.int 1) (.cons (.var 2) .nil))))) (.cons (.var 5) (.cons (.frz (.call 8 (.cons (.var 0) (.cons (.bin .Sub (.var 1) (.int 1)) (.cons (.var 2) (.cons (.var 3) .nil)))))) .nil)))))) .nil))) .nil) b__law_piece_3
def b__law_piece_1 : Ev.Stms := .cons (.ife (.call 5 (.cons (.var 2) .nil)) (.cons (.ret (.tup (.cons (.str "end") .nil))) .nil) .nil) b__law_piece_2
def b__law_piece : Ev.Stms := .cons (.asg (.nm 4) (.frz (.call 3 (.cons (.var 0) (.cons (.int 9) .nil))))) b__law_piece_1
def b__law_act_4 : Ev.Stms := .cons (.ret (.ifx (.cmp .NotEq (.var 3) (.lst .nil)) (.tup (.cons (.str "leave") (.cons (.frz (.call 4 (.cons (.var 0) (.cons (.var 3) .nil)))) .nil))) .non)) .nil
def b__law_act_3 : Ev.Stms := .cons (.ife (.bop true (.cons (.cmp .Eq (.var 2) (.int 4)) (.cons (.cmp .NotEq (.var 3) (.lst .nil)) .nil))) (.cons (.ret (.tup (.cons (.str "join") (.cons (.frz (.call 4 (.cons (.var 0) (.cons (.var 3) .nil)))) (.cons (.frz (.call 4 (.cons (.var 0) (.cons (.var 3) .nil)))) .nil))))) .nil) .nil) b__law_act_4
def b__law_act_2 : Ev.Stms := .cons (.ife (.bop true (.cons (.cmp .Lt (.var 2) (.int 4)) (.cons (.cmp .NotEq (.var 3) (.lst .nil)) (.cons (.cmp .NotEq (.var 4) (.lst .nil)) .nil)))) (.cons (.ret (.tup (.cons (.idx (.lst (.cons (.str "go") (.cons (.str "put") .nil))) (.bin .Mod (.var 2) (.int 2))) (.cons (.frz (.call 4 (.cons (.var 0) (.cons (.var 3) .nil)))) (.cons (.frz (.call 4 (.cons (.var 0) (.cons (.var 4) .nil)))) .nil))))) .nil) .nil) b__law_act_3
def b__law_act_1 : Ev.Stms := .cons (.ife (.bop true (.cons (.cmp .Lt (.var 2) (.int 2)) (.cons (.cmp .NotEq (.idx (.var 1) (.str "number")) (.lst .nil)) .nil))) (.cons (.asg (.nm 5) (.frz (.call 4 (.cons (.var 0) (.cons (.idx (.var 1) (.str "number")) .nil))))) (.cons (.ret (.idx (.lst (.cons (.tup (.cons (.str "set") (.cons (.var 5) (.cons (.frz (.call 6 (.cons (.var 0) (.cons (.int 2) (.cons (.var 1) .nil))))) .nil)))) (.cons (.tup (.cons (.str "draw") (.cons (.var 5) .nil))) .nil))) (.var 2))) .nil)) .nil) b__law_act_2
def b__law_act : Ev.Stms := .cons (.asg (.tp (.cons (.nm 2) (.cons (.nm 3) (.cons (.nm 4) .nil)))) (.tup (.cons (.frz (.call 3 (.cons (.var 0) (.cons (.int 6) .nil)))) (.cons (.idx (.var 1) (.str "figure")) (.cons (.idx (.var 1) (.str "place")) .nil))))) b__law_act_1
def b__law_next_3 : Ev.Stms := .cons (.ret (.ifx (.cmp .Eq (.var 2) (.int 1)) (.tup (.cons (.str "into") (.cons (.var 3) (.cons (.frz (.call 4 (.cons (.var 0) (.cons (.idx (.var 1) (.str "scene")) .nil)))) .nil)))) (.tup (.cons (.str "to") (.cons (.var 3) .nil))))) .nil
def b__law_next_2 : Ev.Stms := .cons (.asg (.nm 3) (.frz (.call 4 (.cons (.var 0) (.cons (.idx (.var 1) (.str "scene")) .nil))))) b__law_next_3
def b__law_next_1 : Ev.Stms := .cons (.ife (.cmp .Eq (.var 2) (.int 0)) (.cons (.ret (.tup (.cons (.str "back") .nil))) .nil) .nil) b__law_next_2
def b__law_next : Ev.Stms := .cons (.asg (.nm 2) (.frz (.call 3 (.cons (.var 0) (.cons (.int 5) .nil))))) b__law_next_1
def b__law_choice_3 : Ev.Stms := .cons (.ret (.tup (.cons (.var 1) (.cons (.var 5) (.cons (.var 6) (.cons (.cmp .Eq (.call 3 (.cons (.var 0) (.cons (.int 3) .nil))) (.int 0)) (.cons (.var 4) (.cons (.frz (.call 11 (.cons (.var 0) (.cons (.var 2) .nil)))) .nil)))))))) .nil
def b__law_choice_2 : Ev.Stms := .cons (.asg (.tp (.cons (.nm 5) (.cons (.nm 6) .nil))) (.tup (.cons (.frz (.call 8 (.cons (.var 0) (.cons (.int 1) (.cons (.var 2) (.cons (.bl false) .nil)))))) (.cons (.frz (.call 7 (.cons (.var 0) (.cons (.int 2) (.cons (.var 2) .nil))))) .nil)))) b__law_choice_3
def b__law_choice_1 : Ev.Stms := .cons (.asg (.nm 4) (.callB "tuple" (.cons (.lc (.var 8) (.nm 8) (.seq (.var 3)) (.some (.cmp .IsNot (.var 8) .non)) [("_law_one", 8)]) .nil))) b__law_choice_2
def b__law_choice : Ev.Stms := .cons (.asg (.nm 3) (.frz (.lc (.frz (.call 10 (.cons (.var 0) (.cons (.var 2) .nil)))) (.nm 7) (.range (.cons (.call 3 (.cons (.var 0) (.cons (.int 3) .nil))) .nil)) .none [("_law_k", 7)]))) b__law_choice_1
def b__law_scene_4 : Ev.Stms := .cons (.ret (.tup (.cons (.var 1) (.cons (.frz (.call 8 (.cons (.var 0) (.cons (.int 2) (.cons (.var 2) (.cons (.bl true) .nil)))))) (.cons (.var 4) (.cons (.callB "tuple" (.cons (.rev (.var 5)) .nil)) (.cons (.var 6) .nil))))))) .nil
def b__law_scene_3 : Ev.Stms := .cons (.asg (.nm 6) (.frz (.ifx (.cmp .Eq (.call 3 (.cons (.var 0) (.cons (.int 6) .nil))) (.int 0)) (.idx (.lst (.cons (.str "won") (.cons (.str "lost") .nil))) (.call 3 (.cons (.var 0) (.cons (.int 2) .nil)))) .non))) b__law_scene_4
def b__law_scene_2 : Ev.Stms := .cons (.asg (.nm 5) (.frz (.lc (.var 7) (.nm 7) (.seq (.idx (.var 2) (.str "scene"))) (.some (.cmp .Eq (.call 3 (.cons (.var 0) (.cons (.int 5) .nil))) (.int 0))) [("_law_one", 7)]))) b__law_scene_3
def b__law_scene_1 : Ev.Stms := .cons (.asg (.nm 4) (.callB "tuple" (.cons (.lc (.frz (.call 12 (.cons (.var 0) (.cons (.var 7) (.cons (.var 2) .nil))))) (.nm 7) (.seq (.slc (.var 3) .none (.some (.call 3 (.cons (.var 0) (.cons (.int 3) .nil)))))) .none [("_law_one", 7)]) .nil))) b__law_scene_2
def b__law_scene : Ev.Stms := .cons (.asg (.nm 3) (.frz (.slc (.lst (.cons (.str "go") (.cons (.str "ask") (.cons (.str "once") .nil)))) (.some (.call 3 (.cons (.var 0) (.cons (.int 2) .nil)))) .none))) b__law_scene_1
def b__law_tale_11 : Ev.Stms := .cons (.ret (.tup (.cons (.callB "tuple" (.cons (.var 7) .nil)) (.cons (.callB "tuple" (.cons (.var 4) .nil)) (.cons (.callB "tuple" (.cons (.var 8) .nil)) (.cons (.callB "tuple" (.cons (.var 11) .nil)) (.cons (.var 10) (.cons (.var 12) (.cons (.frz (.call 4 (.cons (.var 0) (.cons (.var 2) .nil)))) .nil))))))))) .nil
def b__law_tale_10 : Ev.Stms := .cons (.asg (.nm 12) (.callB "tuple" (.cons (.lc (.frz (.call 13 (.cons (.var 0) (.cons (.var 14) (.cons (.var 6) .nil))))) (.nm 14) (.seq (.var 2)) .none [("_law_name", 14)]) .nil))) b__law_tale_11
def b__law_tale_9 : Ev.Stms := .cons (.asg (.nm 11) (.frz (.lc (.tup (.cons (.var 14) (.cons (.frz (.call 4 (.cons (.var 0) (.cons (.var 4) .nil)))) .nil))) (.nm 14) (.seq (.var 5)) .none [("_law_name", 14)]))) b__law_tale_10
def b__law_tale_8 : Ev.Stms := .cons (.asg (.nm 10) (.callB "tuple" (.cons (.lc (.frz (.call 3 (.cons (.var 0) (.cons (.int 10) .nil)))) (.nm 13) (.range (.cons (.call 3 (.cons (.var 0) (.cons (.int 4) .nil))) .nil)) .none [("_law_k", 13)]) .nil))) b__law_tale_9
def b__law_tale_7 : Ev.Stms := .cons (.loop (.nm 9) (.seq (.var 4)) (.cons (.asg (.nm 8) (.frz (.bin .Add (.var 8) (.lc (.tup (.cons (.var 9) (.cons (.var 15) .nil))) (.nm 15) (.seq (.var 4)) (.some (.bop true (.cons (.cmp .Lt (.var 9) (.var 15)) (.cons (.cmp .Eq (.call 3 (.cons (.var 0) (.cons (.int 2) .nil))) (.int 0)) .nil)))) [("_law_other", 15)])))) .nil)) b__law_tale_8
def b__law_tale_6 : Ev.Stms := .cons (.asg (.nm 8) (.frz (.lst .nil))) b__law_tale_7
def b__law_tale_5 : Ev.Stms := .cons (.asg (.nm 7) (.frz (.lc (.tup (.cons (.var 14) (.cons (.int 0) (.cons (.bin .Sub (.int 9) (.var 13)) (.cons (.frz (.call 3 (.cons (.var 0) (.cons (.int 5) .nil)))) .nil))))) (.tp (.cons (.nm 13) (.cons (.nm 14) .nil))) (.enum (.var 3)) .none [("_law_k", 13), ("_law_name", 14)]))) b__law_tale_6
def b__law_tale_4 : Ev.Stms := .cons (.asg (.nm 6) (.frz (.dct (.cons (.str "scene") (.cons (.str "number") (.cons (.str "place") (.cons (.str "figure") (.cons (.str "left") .nil))))) (.cons (.var 2) (.cons (.var 3) (.cons (.var 4) (.cons (.var 5) (.cons (.lst (.cons (.int 60) .nil)) .nil)))))))) b__law_tale_5
def b__law_tale_3 : Ev.Stms := .cons (.asg (.nm 5) (.frz (.ifx (.cmp .NotEq (.var 4) (.lst .nil)) (.slc (.lst (.cons (.str "ann") (.cons (.str "bob") (.cons (.str "cat") .nil)))) .none (.some (.call 3 (.cons (.var 0) (.cons (.int 4) .nil))))) (.lst .nil)))) b__law_tale_4
def b__law_tale_2 : Ev.Stms := .cons (.asg (.nm 4) (.frz (.slc (.lst (.cons (.str "cave") (.cons (.str "inn") (.cons (.str "yard") .nil)))) (.some (.call 3 (.cons (.var 0) (.cons (.int 2) .nil)))) (.some (.bin .Add (.int 1) (.call 3 (.cons (.var 0) (.cons (.int 3) .nil)))))))) b__law_tale_3
def b__law_tale_1 : Ev.Stms := .cons (.asg (.nm 3) (.frz (.slc (.lst (.cons (.str "gold") (.cons (.str "hp") (.cons (.str "k") .nil)))) (.some (.call 3 (.cons (.var 0) (.cons (.int 2) .nil)))) (.some (.bin .Add (.int 1) (.call 3 (.cons (.var 0) (.cons (.int 3) .nil)))))))) b__law_tale_2
def b__law_tale : Ev.Stms := .cons (.asg (.nm 2) (.frz (.slc (.lst (.cons (.str "barn") (.cons (.str "cave") (.cons (.str "dusk") (.cons (.str "end") (.cons (.str "hall") (.cons (.str "zzzzzzzz") .nil))))))) .none (.some (.bin .Add (.int 1) (.call 3 (.cons (.var 0) (.cons (.var 1) .nil)))))))) b__law_tale_1
def b__law_come_to_2 : Ev.Stms := .cons (.ret (.callB "sorted" (.cons (.var 1) .nil))) .nil
def b__law_come_to_1 : Ev.Stms := .cons (.whl (.cmp .NotEq (.var 2) (.lst .nil)) (.cons (.asg (.nm 3) (.frz (.meth "pop" (.var 2) .nil))) (.cons (.asg (.nm 4) (.idx (.lc (.var 7) (.nm 7) (.seq (.idx (.var 0) (.int 5))) (.some (.cmp .Eq (.idx (.var 7) (.int 0)) (.var 3))) [("_law_one", 7)]) (.int 0))) (.cons (.asg (.nm 5) (.frz (.callB "list" (.cons (.idx (.var 4) (.int 3)) .nil)))) (.cons (.loop (.nm 6) (.seq (.idx (.var 4) (.int 2))) (.cons (.asg (.nm 5) (.frz (.bin .Add (.var 5) (.callB "list" (.cons (.slc (.idx (.var 6) (.int 5)) (.some (.int 1)) .none) .nil))))) .nil)) (.cons (.asg (.nm 2) (.bin .Add (.var 2) (.lc (.var 7) (.nm 7) (.seq (.sset (.var 5))) (.some (.cmp .NotIn (.var 7) (.var 1))) [("_law_one", 7)]))) (.cons (.expr (.meth "update" (.var 1) (.cons (.callB "dict" (.cons (.lc (.tup (.cons (.var 7) (.cons (.bl true) .nil))) (.nm 7) (.seq (.var 5)) .none [("_law_one", 7)]) .nil)) .nil))) .nil))))))) b__law_come_to_2
def b__law_come_to : Ev.Stms := .cons (.asg (.tp (.cons (.nm 1) (.cons (.nm 2) .nil))) (.tup (.cons (.dcx (.cons (.idx (.var 0) (.int 6)) (.cons (.bl true) .nil))) (.cons (.lst (.cons (.idx (.var 0) (.int 6)) .nil)) .nil)))) b__law_come_to_1
def b__law_chain_2 : Ev.Stms := .cons (.ret (.tup (.cons (.tup .nil) (.cons (.tup .nil) (.cons (.tup .nil) (.cons (.tup .nil) (.cons (.tup .nil) (.cons (.callB "tuple" (.cons (.var 2) .nil)) (.cons (.str "a") .nil))))))))) .nil
def b__law_chain_1 : Ev.Stms := .cons (.loop (.nm 3) (.range (.cons (.int 8) .nil)) (.cons (.asg (.nm 4) (.idx (.var 1) (.bin .Mod (.bin .Add (.var 3) (.int 2)) (.int 8)))) (.cons (.asg (.nm 5) (.idx (.lst (.cons (.tup (.cons (.str "to") (.cons (.var 4) .nil))) (.cons (.tup (.cons (.str "into") (.cons (.var 4) (.cons (.idx (.var 1) (.var 3)) .nil)))) (.cons (.tup (.cons (.str "into") (.cons (.idx (.var 1) (.var 3)) (.cons (.var 4) .nil)))) (.cons (.tup (.cons (.str "back") .nil)) .nil))))) (.var 0))) (.cons (.asg (.nm 6) (.tup (.cons (.str "go") (.cons (.tup (.cons (.tup (.cons (.str "worth") (.cons (.tup (.cons (.str "seen") (.cons (.idx (.var 1) (.bin .Mod (.bin .Add (.var 3) (.int 1)) (.int 8))) .nil))) .nil))) .nil)) (.cons (.tup (.cons (.str "all") (.cons (.tup .nil) .nil))) (.cons (.bl false) (.cons (.tup .nil) (.cons (.var 5) .nil)))))))) (.cons (.expr (.meth "append" (.var 2) (.cons (.tup (.cons (.idx (.var 1) (.var 3)) (.cons (.tup .nil) (.cons (.tup (.cons (.var 6) .nil)) (.cons (.frz (.ifx (.cmp .Eq (.var 0) (.int 3)) (.tup (.cons (.var 4) .nil)) (.tup .nil))) (.cons .non .nil)))))) .nil))) .nil))))) b__law_chain_2
def b__law_chain : Ev.Stms := .cons (.asg (.tp (.cons (.nm 1) (.cons (.nm 2) .nil))) (.tup (.cons (.str "abcdefgh") (.cons (.lst .nil) .nil)))) b__law_chain_1
def b_law_5 : Ev.Stms := .cons (.ret (.bl true)) .nil
def b_law_4 : Ev.Stms := .cons (.loop (.nm 4) (.seq (.var 2)) (.cons (.asg (.tp (.cons (.nm 9) (.cons (.nm 10) .nil))) (.tup (.cons (.callB "repr" (.cons (.var 4) .nil)) (.cons (.frz (.call 15 (.cons (.var 4) .nil))) .nil)))) (.cons (.asg (.nm 11) (.callB "tuple" (.cons (.lc (.idx (.var 12) (.int 0)) (.nm 12) (.seq (.idx (.var 4) (.int 5))) (.some (.cmp .NotIn (.idx (.var 12) (.int 0)) (.var 10))) [("_law_scene_here", 12)]) .nil))) (.cons (.ife (.bop false (.cons (.cmp .NotEq (.callB "repr" (.cons (.call 1 (.cons (.var 4) .nil)) .nil)) (.callB "repr" (.cons (.var 11) .nil))) (.cons (.cmp .NotEq (.callB "repr" (.cons (.var 4) .nil)) (.var 9)) .nil))) (.cons (.ret (.bl false)) .nil) .nil) .nil)))) b_law_5
def b_law_3 : Ev.Stms := .cons (.loop (.nm 7) (.range (.cons (.int 4) .nil)) (.cons (.asg (.nm 4) (.frz (.call 14 (.cons (.var 1) (.cons (.int 6) .nil))))) (.cons (.asg (.nm 2) (.frz (.bin .Add (.var 2) (.lc (.frz (.bin .Add (.slc (.var 4) .none (.some (.int 6))) (.tup (.cons (.idx (.var 12) (.int 0)) .nil)))) (.nm 12) (.seq (.idx (.var 4) (.int 5))) .none [("_law_scene_here", 12)])))) (.cons (.asg (.nm 8) (.callB "tuple" (.cons (.lc (.frz (.bin .Add (.bin .Add (.slc (.var 12) .none (.some (.int 2))) (.tup (.cons (.tup .nil) .nil))) (.slc (.var 12) (.some (.int 3)) .none))) (.nm 12) (.seq (.idx (.var 4) (.int 5))) .none [("_law_scene_here", 12)]) .nil))) (.cons (.asg (.nm 2) (.frz (.bin .Add (.var 2) (.lst (.cons (.frz (.bin .Add (.slc (.var 4) .none (.some (.int 5))) (.tup (.cons (.var 8) (.cons (.idx (.var 4) (.int 6)) .nil))))) (.cons (.frz (.bin .Add (.slc (.var 4) .none (.some (.int 5))) (.tup (.cons (.frz (.bin .Add (.slc (.idx (.var 4) (.int 5)) .none (.some (.int 1))) (.slc (.var 8) (.some (.int 1)) .none))) (.cons (.idx (.var 4) (.int 6)) .nil))))) .nil)))))) .nil))))) b_law_4
def b_law_2 : Ev.Stms := .cons (.loop (.nm 3) (.range (.cons (.int 4) .nil)) (.cons (.asg (.nm 4) (.frz (.call 16 (.cons (.var 3) .nil)))) (.cons (.ife (.bop false (.cons (.cmp .NotEq (.call 1 (.cons (.var 4) .nil)) (.tup (.cons (.str "b") (.cons (.str "d") (.cons (.str "f") (.cons (.str "h") .nil)))))) (.cons (.cmp .NotEq (.call 1 (.cons (.frz (.bin .Add (.slc (.var 4) .none (.some (.int 6))) (.tup (.cons (.str "d") .nil)))) .nil)) (.tup (.cons (.str "a") (.cons (.str "c") (.cons (.str "e") (.cons (.str "g") .nil)))))) .nil))) (.cons (.ret (.bl false)) .nil) .nil) (.cons (.asg (.nm 5) (.frz (.bin .Add (.bin .Add (.slc (.idx (.var 4) (.int 5)) .none (.some (.int 4))) (.tup (.cons (.tup (.cons (.idx (.idx (.idx (.var 4) (.int 5)) (.int 4)) (.int 0)) (.cons (.tup .nil) (.cons (.tup .nil) (.cons (.tup .nil) (.cons .non .nil)))))) .nil))) (.slc (.idx (.var 4) (.int 5)) (.some (.int 5)) .none)))) (.cons (.asg (.nm 6) (.callB "tuple" (.cons (.lc (.frz (.bin .Add (.slc (.var 12) .none (.some (.int 4))) (.tup (.cons (.str "x") .nil)))) (.nm 12) (.seq (.idx (.var 4) (.int 5))) .none [("_law_scene_here", 12)]) .nil))) (.cons (.asg (.nm 2) (.frz (.bin .Add (.var 2) (.lst (.cons (.var 4) (.cons (.frz (.bin .Add (.slc (.var 4) .none (.some (.int 5))) (.tup (.cons (.var 5) (.cons (.str "a") .nil))))) (.cons (.frz (.bin .Add (.slc (.var 4) .none (.some (.int 5))) (.tup (.cons (.var 5) (.cons (.str "g") .nil))))) (.cons (.frz (.bin .Add (.slc (.var 4) .none (.some (.int 5))) (.tup (.cons (.var 6) (.cons (.str "a") .nil))))) .nil)))))))) .nil)))))) b_law_3
def b_law_1 : Ev.Stms := .cons (.asg (.nm 2) (.frz (.lst (.cons (.tup (.cons (.tup .nil) (.cons (.tup .nil) (.cons (.tup .nil) (.cons (.tup .nil) (.cons (.tup .nil) (.cons (.tup (.cons (.tup (.cons (.str "a") (.cons (.tup .nil) (.cons (.tup .nil) (.cons (.tup .nil) (.cons (.str "x") .nil)))))) .nil)) (.cons (.str "a") .nil)))))))) .nil)))) b_law_2
def b_law : Ev.Stms := .cons (.asg (.nm 1) (.call 2 (.cons (.var 0) .nil))) b_law_1
def prog : List Fn := [⟨1, 8, b_named_on⟩, ⟨1, 6, b_loose_ends⟩, ⟨1, 1, b__law_feed⟩, ⟨2, 5, b__law_draw⟩, ⟨2, 2, b__law_pick⟩, ⟨1, 1, b__law_spent⟩, ⟨3, 4, b__law_sum⟩, ⟨3, 6, b__law_test⟩, ⟨4, 6, b__law_pieces⟩, ⟨4, 6, b__law_piece⟩, ⟨2, 6, b__law_act⟩, ⟨2, 4, b__law_next⟩, ⟨3, 9, b__law_choice⟩, ⟨3, 8, b__law_scene⟩, ⟨2, 16, b__law_tale⟩, ⟨1, 8, b__law_come_to⟩, ⟨1, 7, b__law_chain⟩, ⟨1, 13, b_law⟩]
theorem pg0 : prog[0]? = some ⟨1, 8, b_named_on⟩ := rfl
theorem pg1 : prog[1]? = some ⟨1, 6, b_loose_ends⟩ := rfl
theorem pg2 : prog[2]? = some ⟨1, 1, b__law_feed⟩ := rfl
theorem pg3 : prog[3]? = some ⟨2, 5, b__law_draw⟩ := rfl
theorem pg4 : prog[4]? = some ⟨2, 2, b__law_pick⟩ := rfl
theorem pg5 : prog[5]? = some ⟨1, 1, b__law_spent⟩ := rfl
theorem pg6 : prog[6]? = some ⟨3, 4, b__law_sum⟩ := rfl
theorem pg7 : prog[7]? = some ⟨3, 6, b__law_test⟩ := rfl
theorem pg8 : prog[8]? = some ⟨4, 6, b__law_pieces⟩ := rfl
theorem pg9 : prog[9]? = some ⟨4, 6, b__law_piece⟩ := rfl
theorem pg10 : prog[10]? = some ⟨2, 6, b__law_act⟩ := rfl
theorem pg11 : prog[11]? = some ⟨2, 4, b__law_next⟩ := rfl
theorem pg12 : prog[12]? = some ⟨3, 9, b__law_choice⟩ := rfl
theorem pg13 : prog[13]? = some ⟨3, 8, b__law_scene⟩ := rfl
theorem pg14 : prog[14]? = some ⟨2, 16, b__law_tale⟩ := rfl
theorem pg15 : prog[15]? = some ⟨1, 8, b__law_come_to⟩ := rfl
theorem pg16 : prog[16]? = some ⟨1, 7, b__law_chain⟩ := rfl
theorem pg17 : prog[17]? = some ⟨1, 13, b_law⟩ := rfl
end K11
end C11
section EvPl
/-! plain facts for the laws' own sides -/
namespace Ev
open PySem
theorem toNat_inj {a b : Char} (h : a.toNat = b.toNat) : a = b := by
  apply Char.ext
  exact UInt32.toNat_inj.mp h
theorem ofString_inj (a b : String) : (Str.ofString a = Str.ofString b) = (a = b) := by
  apply propext
  constructor
  · intro h
    rw [Str.ofString_eq_toList, Str.ofString_eq_toList] at h
    have h1 : (a.toList.map Char.toNat) = b.toList.map Char.toNat := by
      have := congrArg (fun s : Str => s.cps.toList) h
      simpa using this
    have h2 : a.toList = b.toList := by
      have hh : ∀ l m : List Char, l.map Char.toNat = m.map Char.toNat → l = m := by
        intro l
        induction l with
        | nil => intro m h; cases m with
          | nil => rfl
          | cons _ _ => simp at h
        | cons x l ih => intro m h; cases m with
          | nil => simp at h
          | cons y m =>
            simp only [List.map_cons, List.cons.injEq] at h
            rw [toNat_inj h.1, ih m h.2]
      exact hh _ _ h1
    exact String.toList_inj.mp h2
  · intro h; rw [h]
theorem atI_nat {α : Type} (xs : List α) (n : Nat) : L2.atI xs (n : Int) = xs[n]? := by
  unfold L2.atI L2.ixN
  rw [if_pos (by omega)]
  by_cases h : n < xs.length
  · rw [if_pos (by omega)]
    simp
  · rw [if_neg (by omega)]
    simp
    omega
theorem atI0 {α : Type} (xs : List α) : L2.atI xs 0 = xs[0]? := atI_nat xs 0
theorem atI1 {α : Type} (xs : List α) : L2.atI xs 1 = xs[1]? := atI_nat xs 1
theorem atI2 {α : Type} (xs : List α) : L2.atI xs 2 = xs[2]? := atI_nat xs 2
theorem atI3 {α : Type} (xs : List α) : L2.atI xs 3 = xs[3]? := atI_nat xs 3
theorem atI4 {α : Type} (xs : List α) : L2.atI xs 4 = xs[4]? := atI_nat xs 4
theorem atI5 {α : Type} (xs : List α) : L2.atI xs 5 = xs[5]? := atI_nat xs 5
theorem lows_app {b : Nat} : ∀ {xs ys : List D}, D.lows b (xs ++ ys) = (D.lows b xs && D.lows b ys)
  | [], _ => by simp [D.lows]
  | x :: xs, ys => by rw [List.cons_append]; simp only [D.lows]; rw [lows_app, Bool.and_assoc]
theorem take_set (E : Eh) (f : Nat) (o : O) : (List.set E f o).take (List.length E) = List.set E f o := by
  rw [List.take_of_length_le (by rw [List.length_set]; exact Nat.le_refl _)]
theorem ixN_lit {n : Nat} {i : Int} (h0 : 0 ≤ i) (h : i.toNat < n) : L2.ixN n i = some i.toNat := by
  unfold L2.ixN
  rw [if_pos h0, if_pos (by omega)]
mutual
def D.pd : D → PyData
  | .bl b => .bool b
  | .int i => .int i
  | .str x => .str x
  | .tup ds => .tuple (D.pds ds)
  | .scr ns => .list (ns.map .int)
  | .lst ds => .list (D.pds ds)
  | _ => .none
def D.pds : List D → List PyData
  | [] => []
  | d :: r => d.pd :: D.pds r
end
mutual
def D.wd : D → Nat
  | .non => 4
  | .bl _ => 5
  | .int i => (PyData.int i).shown.length
  | .str x => (reprText x).length
  | .tup ds => 4 + D.wds ds
  | .scr ns => (PyData.list (ns.map .int)).shown.length
  | .lst ds => 4 + D.wds ds
  | _ => 4
def D.wds : List D → Nat
  | [] => 0
  | d :: r => d.wd + 2 + D.wds r
end
mutual
def D.ft : Nat → D → Bool
  | _, .non => true
  | _, .bl _ => true
  | _, .int i => decide (i.natAbs.log2 < 1920)
  | _, .str x => PyData.strOk x
  | n + 1, .tup ds => D.fts n ds
  | n + 1, .lst ds => D.fts n ds
  | _, _ => false
def D.fts : Nat → List D → Bool
  | _, [] => true
  | n, d :: r => D.ft n d && D.fts n r
end
mutual
theorem toP_pd (E : Eh) : ∀ (d : D) (n k : Nat), d.ft n = true → n < k → toP E k d = some d.pd
  | .non, n, k + 1, _, _ => by simp only [toP, D.pd]
  | .bl _, n, k + 1, _, _ => by simp only [toP, D.pd]
  | .int _, n, k + 1, _, _ => by simp only [toP, D.pd]
  | .str _, n, k + 1, _, _ => by simp only [toP, D.pd]
  | .tup ds, n + 1, k + 1, h, hk => by
    simp only [D.ft] at h
    simp only [toP, D.pd, toP_pds E ds n k h (by omega), Option.map_some]
  | .tup ds, 0, k + 1, h, hk => by simp [D.ft] at h
  | .lst ds, n + 1, k + 1, h, hk => by
    simp only [D.ft] at h
    simp only [toP, D.pd, toP_pds E ds n k h (by omega), Option.map_some]
  | .lst ds, 0, k + 1, h, hk => by simp [D.ft] at h
  | .dct _ _, n, k + 1, h, _ => by simp [D.ft] at h
  | .ref _, n, k + 1, h, _ => by simp [D.ft] at h
  | .fn _, n, k + 1, h, _ => by simp [D.ft] at h
  | .scr _, n, k + 1, h, _ => by simp [D.ft] at h
  | _, _, 0, _, h => by omega
theorem toP_pds (E : Eh) : ∀ (ds : List D) (n k : Nat), D.fts n ds = true → n < k → ds.mapM (toP E k) = some (D.pds ds)
  | [], _, _, _, _ => by simp [D.pds]
  | d :: r, n, k, h, hk => by
    simp only [D.fts, Bool.and_eq_true] at h
    rw [List.mapM_cons, toP_pd E d n k h.1 hk, toP_pds E r n k h.2 hk]
    rfl
end
mutual
theorem ft_can : ∀ (d : D) (n : Nat), d.ft n = true → d.pd.canLay0 = true ∧ d.pd.depth ≤ n ∧ d.pd.showable = true
  | .non, n, _ => by simp [D.pd, PyData.canLay0, PyData.depth, PyData.showable]
  | .bl _, n, _ => by simp [D.pd, PyData.canLay0, PyData.depth, PyData.showable]
  | .int _, n, h => by simpa [D.pd, PyData.canLay0, PyData.depth, PyData.showable, D.ft] using h
  | .str _, n, h => by simpa [D.pd, PyData.canLay0, PyData.depth, PyData.showable, D.ft] using h
  | .tup ds, n + 1, h => by
    simp only [D.ft] at h
    obtain ⟨h1, h2, h3⟩ := ft_cans ds n h
    simp only [D.pd, PyData.canLay0, PyData.depth, PyData.showable, h1, h3]
    exact ⟨trivial, by omega, trivial⟩
  | .tup ds, 0, h => by simp [D.ft] at h
  | .lst ds, n + 1, h => by
    simp only [D.ft] at h
    obtain ⟨h1, h2, h3⟩ := ft_cans ds n h
    simp only [D.pd, PyData.canLay0, PyData.depth, PyData.showable, h1, h3]
    exact ⟨trivial, by omega, trivial⟩
  | .lst ds, 0, h => by simp [D.ft] at h
  | .dct _ _, n, h => by simp [D.ft] at h
  | .ref _, n, h => by simp [D.ft] at h
  | .fn _, n, h => by simp [D.ft] at h
  | .scr _, n, h => by simp [D.ft] at h
theorem ft_cans : ∀ (ds : List D) (n : Nat), D.fts n ds = true → PyData.canLayAll0 (D.pds ds) = true ∧ PyData.depthAll (D.pds ds) ≤ n ∧ PyData.showableAll (D.pds ds) = true
  | [], n, _ => by simp [D.pds, PyData.canLayAll0, PyData.depthAll, PyData.showableAll]
  | d :: r, n, h => by
    simp only [D.fts, Bool.and_eq_true] at h
    obtain ⟨h1, h2, h3⟩ := ft_can d n h.1
    obtain ⟨g1, g2, g3⟩ := ft_cans r n h.2
    simp only [D.pds, PyData.canLayAll0, PyData.depthAll, PyData.showableAll, h1, h3, g1, g3, Bool.and_self]
    exact ⟨trivial, by omega, trivial⟩
end
theorem tupleText_le (ts : List Str) : (tupleText ts).length ≤ 4 + piled ts := by
  unfold tupleText
  by_cases h : ts = []
  · subst h
    show (2 : Nat) ≤ _
    omega
  · have h1 := join_length_add ts h
    rw [strLen_append, strLen_append]
    have h2 : (((if ts.length == 1 then ",)" else ")" : String) : Str)).length ≤ 2 := by split <;> decide
    have h3 : ("(" : Str).length = 1 := rfl
    omega
theorem textFrom_le : ∀ (ts : List Str) (k : Nat) (acc : Str), (textFrom k acc ts).length ≤ acc.length + piled ts
  | [], k, acc => Nat.le_add_right _ _
  | t :: r, k, acc => by
    have h := textFrom_le r (k + 1) (acc ++ (if k > 0 then ", " else "" : String) ++ t)
    have h2 : (((if k > 0 then ", " else "" : String) : Str)).length ≤ 2 := by split <;> decide
    rw [strLen_append, strLen_append] at h
    rw [piled_cons]
    show (textFrom (k + 1) (acc ++ (if k > 0 then ", " else "" : String) ++ t) r).length ≤ _
    omega
theorem listText_le (ts : List Str) : (listText ts).length ≤ 4 + piled ts := by
  unfold listText
  rw [strLen_append]
  have h := textFrom_le ts 0 "["
  have h1 : ("[" : Str).length = 1 := rfl
  have h2 : ("]" : Str).length = 1 := rfl
  omega
mutual
theorem shown_le : ∀ d : D, d.pd.shown.length ≤ d.wd
  | .non => by show (4 : Nat) ≤ 4; omega
  | .bl b => by cases b <;> decide
  | .int i => Nat.le_refl _
  | .str x => Nat.le_refl _
  | .tup ds => by
    simp only [D.pd, PyData.shown, D.wd]
    have h1 := tupleText_le (PyData.shownAll (D.pds ds))
    have h2 := shown_les ds
    omega
  | .lst ds => by
    simp only [D.pd, PyData.shown, D.wd]
    have h1 := listText_le (PyData.shownAll (D.pds ds))
    have h2 := shown_les ds
    omega
  | .dct _ _ => Nat.le_refl _
  | .ref _ => Nat.le_refl _
  | .fn _ => Nat.le_refl _
  | .scr _ => Nat.le_refl _
theorem shown_les : ∀ ds : List D, piled (PyData.shownAll (D.pds ds)) ≤ D.wds ds
  | [] => Nat.le_refl _
  | d :: r => by
    simp only [D.pds, PyData.shownAll, D.wds, piled_cons]
    have h1 := shown_le d
    have h2 := shown_les r
    omega
end
/-- how a tuple is written -/
def shw (d : D) : Str := d.pd.shown
theorem reprB_any (E : Eh) (d : D) (h : d.ft 60 = true) (hw : d.wd ≤ 16777216) : reprB E [.val d] = some (.val (.str (shw d))) := by
  obtain ⟨h1, h2, h3⟩ := ft_can _ _ h
  have h4 := shown_le d
  have h5 : SeqAt.shaped d.pd = true := by
    unfold SeqAt.shaped
    rw [h1, Bool.true_and, decide_eq_true_eq]
    omega
  have h7 : d.pd.shown.length ≤ sizeLine := by rw [sizeLine_eq]; omega
  simp only [reprB, toPr, toP_pd E _ 60 80 h (by omega), h5, h3, decide_eq_true h7, Bool.and_self, if_true, shw]
theorem reprB_tup (E : Eh) (ds : List D) (h : (D.tup ds).ft 60 = true) (hw : (D.tup ds).wd ≤ 16777216) : reprB E [.val (.tup ds)] = some (.val (.str (shw (.tup ds)))) := reprB_any E _ h hw
theorem eqvAll_nil (xs : List PyData) : PyData.eqvAll xs [] = xs.isEmpty := by
  cases xs <;> simp [PyData.eqvAll]
theorem mapM_str (E : Eh) (k : Nat) : ∀ xs : List Str, (xs.map D.str).mapM (toP E (k + 1)) = some (xs.map PyData.str)
  | [] => rfl
  | x :: xs => by
    rw [List.map_cons, List.mapM_cons, mapM_str E k xs]
    rfl
theorem toP_ref {E : Eh} {k n : Nat} {xs : List D} (h : E[n]? = some (.lst xs)) : toP E (k + 1) (.ref n) = (xs.mapM (toP E k)).map .list := by
  simp only [toP, h]
theorem toPr_strs {E : Eh} {n : Nat} {xs : List Str} (h : E[n]? = some (.lst (xs.map .str))) : toPr E (.val (.ref n)) = some (.list (xs.map .str)) := by
  rw [toPr, show (80 : Nat) = 79 + 1 from rfl]
  rw [toP_ref h, mapM_str E 78]
  rfl
theorem toPr_nil (E : Eh) : toPr E (.new (.lst [])) = some (.list []) := rfl
def stsOk (xs : List Str) : Bool := xs.all PyData.strOk
theorem stsOk_can : ∀ xs : List Str, stsOk xs = true → PyData.canLayAll0 (xs.map .str) = true ∧ PyData.depthAll (xs.map .str) = 0
  | [], _ => ⟨rfl, rfl⟩
  | x :: xs, h => by
    simp only [stsOk, List.all_cons, Bool.and_eq_true] at h
    obtain ⟨h1, h2⟩ := stsOk_can xs h.2
    simp only [List.map_cons, PyData.canLayAll0, PyData.canLay0, h.1, h1, Bool.and_self, PyData.depthAll, PyData.depth, h2]
    exact ⟨trivial, rfl⟩
/-- `xs != []` for a list of texts -/
theorem eqRv_strs {E : Eh} {n : Nat} {xs : List Str} (h : E[n]? = some (.lst (xs.map .str))) (ho : stsOk xs = true) : eqRv E (.val (.ref n)) (.new (.lst [])) = some xs.isEmpty := by
  obtain ⟨h1, h2⟩ := stsOk_can xs ho
  have h3 : SeqAt.shaped (PyData.list (xs.map .str)) = true := by
    simp only [SeqAt.shaped, PyData.canLay0, h1, PyData.depth, h2]
    decide
  have h4 : SeqAt.shaped (PyData.list []) = true := by decide
  simp only [eqRv, toPr_strs h, toPr_nil, h3, h4, Bool.and_self, if_true, PyData.eqv, eqvAll_nil, List.isEmpty_map]
theorem mapM_int (E : Eh) (k : Nat) : ∀ xs : List Int, (xs.map D.int).mapM (toP E (k + 1)) = some (xs.map PyData.int)
  | [] => rfl
  | x :: xs => by
    rw [List.map_cons, List.mapM_cons, mapM_int E k xs]
    rfl
theorem toPr_ints {E : Eh} {n : Nat} {xs : List Int} (h : E[n]? = some (.lst (xs.map .int))) : toPr E (.val (.ref n)) = some (.list (xs.map .int)) := by
  rw [toPr, show (80 : Nat) = 79 + 1 from rfl]
  rw [toP_ref h, mapM_int E 78]
  rfl
theorem ints_can : ∀ xs : List Int, PyData.canLayAll0 (xs.map .int) = true ∧ PyData.depthAll (xs.map .int) = 0
  | [] => ⟨rfl, rfl⟩
  | x :: xs => by
    obtain ⟨h1, h2⟩ := ints_can xs
    simp only [List.map_cons, PyData.canLayAll0, PyData.canLay0, h1, Bool.and_self, PyData.depthAll, PyData.depth, h2]
    exact ⟨trivial, rfl⟩
theorem eqRv_ints {E : Eh} {n : Nat} {xs : List Int} (h : E[n]? = some (.lst (xs.map .int))) : eqRv E (.val (.ref n)) (.new (.lst [])) = some xs.isEmpty := by
  obtain ⟨h1, h2⟩ := ints_can xs
  have h3 : SeqAt.shaped (PyData.list (xs.map .int)) = true := by
    simp only [SeqAt.shaped, PyData.canLay0, h1, PyData.depth, h2]
    decide
  have h4 : SeqAt.shaped (PyData.list []) = true := by decide
  simp only [eqRv, toPr_ints h, toPr_nil, h3, h4, Bool.and_self, if_true, PyData.eqv, eqvAll_nil, List.isEmpty_map]
end Ev
end EvPl
section EvStep
/-! one step of the evaluator at a time: nothing is opened behind a step that is not done -/
namespace Ev
open PySem
def bnd {α β : Type} (x : Option α) (f : α → Option β) : Option β := match x with
  | some a => f a
  | none => none
theorem bnd_some {α β : Type} (a : α) (f : α → Option β) : bnd (some a) f = f a := rfl
def grd {α : Type} (c : Prop) [Decidable c] (a : Option α) : Option α := if c then a else none
theorem grd_pos {α : Type} {c : Prop} [Decidable c] {a : Option α} (h : c) : grd c a = a := if_pos h
/-- the end of a def -/
def fin (b : Nat) (p : Fl × Eh) : Option (Rv × Eh) := match p with
  | (.rt r, E1) => some (leave b r E1)
  | (.nx _, E1) => some (leave b (.val .non) E1)
  | _ => none
theorem fin_rt (b : Nat) (r : Rv) (E : Eh) : fin b (.rt r, E) = some (leave b r E) := rfl
theorem fin_nx (b : Nat) (σ : Sd) (E : Eh) : fin b (.nx σ, E) = some (leave b (.val .non) E) := rfl
theorem call_step {P : List Fn} {j np nn : Nat} {body : Stms} (h : P[j]? = some ⟨np, nn, body⟩) (wf k : Nat) (ds : List D) (E : Eh) (hd : ds.length = np) :
    callF P wf (k + 1) j ds E = bnd (exs (callF P wf k) wf E.length body (ds.map some ++ List.replicate (nn - np) none) E) (fin E.length) := by
  rw [callF]
  simp only [h, hd, if_true]
  unfold bnd fin
  rcases exs (callF P wf k) wf E.length body (ds.map some ++ List.replicate (nn - np) none) E with _ | ⟨f, E1⟩
  · rfl
  · cases f <;> rfl
def getv (σ : Sd) (i : Nat) : Option D := match σ[i]? with
  | some (some d) => some d
  | _ => none
theorem getv_zero (x : Option D) (σ : Sd) : getv (x :: σ) 0 = x := by cases x <;> rfl
theorem getv_succ (x : Option D) (σ : Sd) (n : Nat) : getv (x :: σ) (n + 1) = getv σ n := rfl
def kVal (E : Eh) (p : D) : Option (Rv × Eh) := some (.val p, E)
theorem kVal_e (E : Eh) (d : D) : kVal E d = some (.val d, E) := rfl
def kTup  (p : List D × Eh) : Option (Rv × Eh) := grd (p.1.length ≤ sizeLine) (some (.val (.tup p.1), p.2))
theorem kTup_e  (ds : List D) (E : Eh) : kTup  (ds, E) = grd (ds.length ≤ sizeLine) (some (.val (.tup ds), E)) := rfl
def kLst  (p : List D × Eh) : Option (Rv × Eh) := grd (p.1.length ≤ sizeLine) (some (.new (.lst p.1), p.2))
theorem kLst_e  (ds : List D) (E : Eh) : kLst  (ds, E) = grd (ds.length ≤ sizeLine) (some (.new (.lst ds), E)) := rfl
def kDct  (p : List (Key × D) × Eh) : Option (Rv × Eh) := grd (p.1.length ≤ 15) (some (.new (.dct (p.1.foldl (fun m q => put m q.1 q.2) [])), p.2))
theorem kDct_e  (ds : List (Key × D)) (E : Eh) : kDct  (ds, E) = grd (ds.length ≤ 15) (some (.new (.dct (ds.foldl (fun m q => put m q.1 q.2) [])), E)) := rfl
def kRv (E : Eh) (p : Rv) : Option (Rv × Eh) := some (p, E)
theorem kRv_e (E : Eh) (r : Rv) : kRv E r = some (r, E) := rfl
def kBl (E : Eh) (p : Bool) : Option (Rv × Eh) := some (.val (.bl p), E)
theorem kBl_e (E : Eh) (c : Bool) : kBl E c = some (.val (.bl c), E) := rfl
def kBo (E : Eh) (p : Bool) : Option (Bool × Eh) := some (p, E)
theorem kBo_e (E : Eh) (c : Bool) : kBo E c = some (c, E) := rfl
def kBin2 (op : Operator) (r1 : Rv) (p : Rv × Eh) : Option (Rv × Eh) := bnd (binop p.2 op r1 p.1) (kRv p.2)
theorem kBin2_e (op : Operator) (r1 : Rv) (r2 : Rv) (E : Eh) : kBin2 op r1 (r2, E) = bnd (binop E op r1 r2) (kRv E) := rfl
def kBin (cf : Cf) (b : Nat) (op : Operator) (y : Ex) (σ : Sd) (p : Rv × Eh) : Option (Rv × Eh) := bnd (ev cf b y σ p.2) (kBin2 op p.1)
theorem kBin_e (cf : Cf) (b : Nat) (op : Operator) (y : Ex) (σ : Sd) (r1 : Rv) (E : Eh) : kBin cf b op y σ (r1, E) = bnd (ev cf b y σ E) (kBin2 op r1) := rfl
def kNeg (p : Rv × Eh) : Option (Rv × Eh) := match p.1 with
  | .val (.int i) => some (.val (.int (-i)), p.2)
  | _ => none
theorem kNeg_e (i : Int) (E : Eh) : kNeg (.val (.int i), E) = some (.val (.int (-i)), E) := rfl
def kNot  (p : Bool × Eh) : Option (Rv × Eh) := some (.val (.bl (!p.1)), p.2)
theorem kNot_e  (c : Bool) (E : Eh) : kNot  (c, E) = some (.val (.bl (!c)), E) := rfl
def kNotB  (p : Bool × Eh) : Option (Bool × Eh) := some (!p.1, p.2)
theorem kNotB_e  (c : Bool) (E : Eh) : kNotB  (c, E) = some (!c, E) := rfl
def kBop  (p : Bool × Eh) : Option (Rv × Eh) := some (.val (.bl p.1), p.2)
theorem kBop_e  (c : Bool) (E : Eh) : kBop  (c, E) = some (.val (.bl c), E) := rfl
def kCmp2 (op : CmpOp) (r1 : Rv) (p : Rv × Eh) : Option (Rv × Eh) := bnd (cmpop p.2 op r1 p.1) (kBl p.2)
theorem kCmp2_e (op : CmpOp) (r1 : Rv) (r2 : Rv) (E : Eh) : kCmp2 op r1 (r2, E) = bnd (cmpop E op r1 r2) (kBl E) := rfl
def kCmp (cf : Cf) (b : Nat) (op : CmpOp) (y : Ex) (σ : Sd) (p : Rv × Eh) : Option (Rv × Eh) := bnd (ev cf b y σ p.2) (kCmp2 op p.1)
theorem kCmp_e (cf : Cf) (b : Nat) (op : CmpOp) (y : Ex) (σ : Sd) (r1 : Rv) (E : Eh) : kCmp cf b op y σ (r1, E) = bnd (ev cf b y σ E) (kCmp2 op r1) := rfl
def kTst2 (op : CmpOp) (r1 : Rv) (p : Rv × Eh) : Option (Bool × Eh) := bnd (cmpop p.2 op r1 p.1) (kBo p.2)
theorem kTst2_e (op : CmpOp) (r1 : Rv) (r2 : Rv) (E : Eh) : kTst2 op r1 (r2, E) = bnd (cmpop E op r1 r2) (kBo E) := rfl
def kTst (cf : Cf) (b : Nat) (op : CmpOp) (y : Ex) (σ : Sd) (p : Rv × Eh) : Option (Bool × Eh) := bnd (ev cf b y σ p.2) (kTst2 op p.1)
theorem kTst_e (cf : Cf) (b : Nat) (op : CmpOp) (y : Ex) (σ : Sd) (r1 : Rv) (E : Eh) : kTst cf b op y σ (r1, E) = bnd (ev cf b y σ E) (kTst2 op r1) := rfl
def kIfx (cf : Cf) (b : Nat) (x y : Ex) (σ : Sd) (p : Bool × Eh) : Option (Rv × Eh) := match p.1 with
  | true => ev cf b x σ p.2
  | false => ev cf b y σ p.2
theorem kIfx_t (cf : Cf) (b : Nat) (x y : Ex) (σ : Sd) (E : Eh) : kIfx cf b x y σ (true, E) = ev cf b x σ E := rfl
theorem kIfx_f (cf : Cf) (b : Nat) (x y : Ex) (σ : Sd) (E : Eh) : kIfx cf b x y σ (false, E) = ev cf b y σ E := rfl
def kCall (cf : Cf) (j : Nat) (p : List D × Eh) : Option (Rv × Eh) := cf j p.1 p.2
theorem kCall_e (cf : Cf) (j : Nat) (ds : List D) (E : Eh) : kCall cf j (ds, E) = cf j ds E := rfl
def kCallB (f : String) (p : List Rv × Eh) : Option (Rv × Eh) := bnd (callb p.2 f p.1) (kRv p.2)
theorem kCallB_e (f : String) (rs : List Rv) (E : Eh) : kCallB f (rs, E) = bnd (callb E f rs) (kRv E) := rfl
def kMeth2 (b : Nat) (m : String) (r : Rv) (p : List Rv × Eh) : Option (Rv × Eh) := methop b p.2 m r p.1
theorem kMeth2_e (b : Nat) (m : String) (r : Rv) (rs : List Rv) (E : Eh) : kMeth2 b m r (rs, E) = methop b E m r rs := rfl
def kMeth (cf : Cf) (b : Nat) (m : String) (es : Exs) (σ : Sd) (p : Rv × Eh) : Option (Rv × Eh) := if recv m p.2 p.1 = true then bnd (evr cf b es σ p.2) (kMeth2 b m p.1) else none
theorem kMeth_e (cf : Cf) (b : Nat) (m : String) (es : Exs) (σ : Sd) (r : Rv) (E : Eh) (h : recv m E r = true) : kMeth cf b m es σ (r, E) = bnd (evr cf b es σ E) (kMeth2 b m r) := if_pos h
def kIdx2 (r1 : Rv) (p : Rv × Eh) : Option (Rv × Eh) := bnd (idxop p.2 r1 p.1) (kVal p.2)
theorem kIdx2_e (r1 : Rv) (r2 : Rv) (E : Eh) : kIdx2 r1 (r2, E) = bnd (idxop E r1 r2) (kVal E) := rfl
def kIdx (cf : Cf) (b : Nat) (y : Ex) (σ : Sd) (p : Rv × Eh) : Option (Rv × Eh) := bnd (ev cf b y σ p.2) (kIdx2 p.1)
theorem kIdx_e (cf : Cf) (b : Nat) (y : Ex) (σ : Sd) (r1 : Rv) (E : Eh) : kIdx cf b y σ (r1, E) = bnd (ev cf b y σ E) (kIdx2 r1) := rfl
def kSlc3 (r1 : Rv) (l : Option Int) (p : Option Int × Eh) : Option (Rv × Eh) := bnd (slcop p.2 r1 l p.1) (kRv p.2)
theorem kSlc3_e (r1 : Rv) (l : Option Int) (h : Option Int) (E : Eh) : kSlc3 r1 l (h, E) = bnd (slcop E r1 l h) (kRv E) := rfl
def kSlc2 (cf : Cf) (b : Nat) (hi : Exo) (σ : Sd) (r1 : Rv) (p : Option Int × Eh) : Option (Rv × Eh) := bnd (evo cf b hi σ p.2) (kSlc3 r1 p.1)
theorem kSlc2_e (cf : Cf) (b : Nat) (hi : Exo) (σ : Sd) (r1 : Rv) (l : Option Int) (E : Eh) : kSlc2 cf b hi σ r1 (l, E) = bnd (evo cf b hi σ E) (kSlc3 r1 l) := rfl
def kSlc (cf : Cf) (b : Nat) (lo : Exo) (hi : Exo) (σ : Sd) (p : Rv × Eh) : Option (Rv × Eh) := bnd (evo cf b lo σ p.2) (kSlc2 cf b hi σ p.1)
theorem kSlc_e (cf : Cf) (b : Nat) (lo : Exo) (hi : Exo) (σ : Sd) (r1 : Rv) (E : Eh) : kSlc cf b lo hi σ (r1, E) = bnd (evo cf b lo σ E) (kSlc2 cf b hi σ r1) := rfl
def kRev  (p : Rv × Eh) : Option (Rv × Eh) := bnd (revop p.2 p.1) (kRv p.2)
theorem kRev_e  (r1 : Rv) (E : Eh) : kRev  (r1, E) = bnd (revop E r1) (kRv E) := rfl
def kNew  (p : List D × Eh) : Option (Rv × Eh) := some (.new (.lst p.1), p.2)
theorem kNew_e  (ds : List D) (E : Eh) : kNew  (ds, E) = some (.new (.lst ds), E) := rfl
def kReg  (p : Rv × Eh) : Option (D × Eh) := some (reg p.1 p.2)
theorem kReg_v  (d : D) (E : Eh) : kReg  (.val d, E) = some (d, E) := rfl
theorem kReg_n  (o : O) (E : Eh) : kReg  (.new o, E) = some (.ref E.length, E ++ [o]) := rfl
/-- a comprehension's element -/
def eltF (cf : Cf) (b : Nat) (e : Ex) (σ : Sd) (E : Eh) : Option (D × Eh) := bnd (ev cf b e σ E) kReg
def cndF (cf : Cf) (b : Nat) (c : Exo) (σ : Sd) (E : Eh) : Option (Bool × Eh) := evc cf b c σ E
def itrF (cf : Cf) (b : Nat) (i : It) (σ : Sd) (E : Eh) : Option ItR := evi cf b i σ E
def kLc (cf : Cf) (b : Nat) (elt : Ex) (tg : Tg) (c : Exo) (own : List (Str × Nat)) (σ : Sd) (p : ItR) : Option (Rv × Eh) :=
  bnd (lcL (asgT tg) (cndF cf b c) (eltF cf b elt) (chk p.2.1) (wipeD σ (own.map (·.2))) p.1 [] p.2.2) kNew
theorem kLc_e (cf : Cf) (b : Nat) (elt : Ex) (tg : Tg) (c : Exo) (own : List (Str × Nat)) (σ : Sd) (ds : List D) (src : Option (Nat × List D)) (E : Eh) : kLc cf b elt tg c own σ (ds, src, E) =
  bnd (lcL (asgT tg) (cndF cf b c) (eltF cf b elt) (chk src) (wipeD σ (own.map (·.2))) ds [] E) kNew := rfl
def kLc2 (cf : Cf) (b : Nat) (elt : Ex) (tg : Tg) (tg1 : Tg) (it1 : It) (own : List (Str × Nat)) (own1 : List Nat) (σ : Sd) (p : ItR) : Option (Rv × Eh) :=
  bnd (lc2L (asgT tg) (innerL (asgT tg1) (itrF cf b it1) (eltF cf b elt) own1) (chk p.2.1) (wipeD σ (own.map (·.2))) p.1 [] p.2.2) kNew
theorem kLc2_e (cf : Cf) (b : Nat) (elt : Ex) (tg : Tg) (tg1 : Tg) (it1 : It) (own : List (Str × Nat)) (own1 : List Nat) (σ : Sd) (ds : List D) (src : Option (Nat × List D)) (E : Eh) : kLc2 cf b elt tg tg1 it1 own own1 σ (ds, src, E) =
  bnd (lc2L (asgT tg) (innerL (asgT tg1) (itrF cf b it1) (eltF cf b elt) own1) (chk src) (wipeD σ (own.map (·.2))) ds [] E) kNew := rfl
def kAnd (cf : Cf) (b : Nat) (r : Exs) (σ : Sd) (p : Bool × Eh) : Option (Bool × Eh) := match p.1 with
  | true => evb cf b true r σ p.2
  | false => some (false, p.2)
theorem kAnd_t (cf : Cf) (b : Nat) (r : Exs) (σ : Sd) (E : Eh) : kAnd cf b r σ (true, E) = evb cf b true r σ E := rfl
theorem kAnd_f (cf : Cf) (b : Nat) (r : Exs) (σ : Sd) (E : Eh) : kAnd cf b r σ (false, E) = some (false, E) := rfl
def kOr (cf : Cf) (b : Nat) (r : Exs) (σ : Sd) (p : Bool × Eh) : Option (Bool × Eh) := match p.1 with
  | true => some (true, p.2)
  | false => evb cf b false r σ p.2
theorem kOr_t (cf : Cf) (b : Nat) (r : Exs) (σ : Sd) (E : Eh) : kOr cf b r σ (true, E) = some (true, E) := rfl
theorem kOr_f (cf : Cf) (b : Nat) (r : Exs) (σ : Sd) (E : Eh) : kOr cf b r σ (false, E) = evb cf b false r σ E := rfl
def kVarB (E : Eh) (d : D) : Option (Bool × Eh) := match d with
  | .bl c => some (c, E)
  | _ => none
theorem kVarB_e (E : Eh) (c : Bool) : kVarB E (.bl c) = some (c, E) := rfl
def asB (p : Rv × Eh) : Option (Bool × Eh) := match p with
  | (.val (.bl c), E) => some (c, E)
  | _ => none
theorem asB_bl (c : Bool) (E : Eh) : asB (.val (.bl c), E) = some (c, E) := rfl
def asBE (E : Eh) (r : Rv) : Option (Bool × Eh) := asB (r, E)
theorem asBE_bl (c : Bool) (E : Eh) : asBE E (.val (.bl c)) = some (c, E) := rfl
def kCallT (f : String) (p : List Rv × Eh) : Option (Bool × Eh) := bnd (callb p.2 f p.1) (asBE p.2)
theorem kCallT_e (f : String) (rs : List Rv) (E : Eh) : kCallT f (rs, E) = bnd (callb E f rs) (asBE E) := rfl
def kTcall (cf : Cf) (j : Nat) (p : List D × Eh) : Option (Bool × Eh) := bnd (cf j p.1 p.2) asB
theorem kTcall_e (cf : Cf) (j : Nat) (ds : List D) (E : Eh) : kTcall cf j (ds, E) = bnd (cf j ds E) asB := rfl
def kCons2 (d : D) (q : List D × Eh) : Option (List D × Eh) := some (d :: q.1, q.2)
theorem kCons2_e (d : D) (ds : List D) (E : Eh) : kCons2 d (ds, E) = some (d :: ds, E) := rfl
def kCons (cf : Cf) (b : Nat) (r : Exs) (σ : Sd) (p : Rv × Eh) : Option (List D × Eh) := bnd (evs cf b r σ (reg p.1 p.2).2) (kCons2 (reg p.1 p.2).1)
theorem kCons_v (cf : Cf) (b : Nat) (r : Exs) (σ : Sd) (d : D) (E : Eh) : kCons cf b r σ (.val d, E) = bnd (evs cf b r σ E) (kCons2 d) := rfl
theorem kCons_n (cf : Cf) (b : Nat) (r : Exs) (σ : Sd) (o : O) (E : Eh) : kCons cf b r σ (.new o, E) = bnd (evs cf b r σ (E ++ [o])) (kCons2 (.ref E.length)) := rfl
def kRs2 (r : Rv) (q : List Rv × Eh) : Option (List Rv × Eh) := some (r :: q.1, q.2)
theorem kRs2_e (r : Rv) (ds : List Rv) (E : Eh) : kRs2 r (ds, E) = some (r :: ds, E) := rfl
def kRs (cf : Cf) (b : Nat) (r : Exs) (σ : Sd) (p : Rv × Eh) : Option (List Rv × Eh) := bnd (evr cf b r σ p.2) (kRs2 p.1)
theorem kRs_e (cf : Cf) (b : Nat) (r : Exs) (σ : Sd) (v : Rv) (E : Eh) : kRs cf b r σ (v, E) = bnd (evr cf b r σ E) (kRs2 v) := rfl
def kPr2 (k : Key) (d : D) (q : List (Key × D) × Eh) : Option (List (Key × D) × Eh) := some ((k, d) :: q.1, q.2)
theorem kPr2_e (k : Key) (d : D) (ds : List (Key × D)) (E : Eh) : kPr2 k d (ds, E) = some ((k, d) :: ds, E) := rfl
def kPr (cf : Cf) (b : Nat) (x : Str) (ks vs : Exs) (σ : Sd) (p : Rv × Eh) : Option (List (Key × D) × Eh) := bnd (evp cf b ks vs σ (reg p.1 p.2).2) (kPr2 (.inr x) (reg p.1 p.2).1)
theorem kPr_v (cf : Cf) (b : Nat) (x : Str) (ks vs : Exs) (σ : Sd) (d : D) (E : Eh) : kPr cf b x ks vs σ (.val d, E) = bnd (evp cf b ks vs σ E) (kPr2 (.inr x) d) := rfl
theorem kPr_n (cf : Cf) (b : Nat) (x : Str) (ks vs : Exs) (σ : Sd) (o : O) (E : Eh) : kPr cf b x ks vs σ (.new o, E) = bnd (evp cf b ks vs σ (E ++ [o])) (kPr2 (.inr x) (.ref E.length)) := rfl
/-! what lies at a ref -/
def kL (o : O) : Option (List D) := match o with
  | .lst xs => some xs
  | _ => none
theorem kL_e (xs : List D) : kL (.lst xs) = some xs := rfl
def getL (E : Eh) (n : Nat) : Option (List D) := bnd E[n]? kL
theorem getL_e (E : Eh) (n : Nat) : getL E n = bnd E[n]? kL := rfl
def kK (o : O) : Option (List (Key × D)) := match o with
  | .dct xs => some xs
  | _ => none
theorem kK_e (xs : List (Key × D)) : kK (.dct xs) = some xs := rfl
theorem asL_ref (E : Eh) (n : Nat) : asL E (.val (.ref n)) = bnd E[n]? kL := by
  simp only [asL]
  rcases E[n]? with _ | o
  · rfl
  · cases o <;> rfl
section
variable (cf : Cf) (wf b : Nat)
theorem s_var (i : Nat) (σ : Sd) (E : Eh) : ev cf b (.var i) σ E = bnd (getv σ i) (kVal E) := by
  rw [ev]; unfold getv bnd
  rcases σ[i]? with _ | _ | d <;> rfl
theorem s_int (i : Int) (σ : Sd) (E : Eh) : ev cf b (.int i) σ E = some (.val (.int i), E) := by rw [ev]
theorem s_str (x : Str) (σ : Sd) (E : Eh) : ev cf b (.str x) σ E = some (.val (.str x), E) := by rw [ev]
theorem s_bl (x : Bool) (σ : Sd) (E : Eh) : ev cf b (.bl x) σ E = some (.val (.bl x), E) := by rw [ev]
theorem s_non (σ : Sd) (E : Eh) : ev cf b .non σ E = some (.val .non, E) := by rw [ev]
theorem s_tup (es : Exs) (σ : Sd) (E : Eh) : ev cf b (.tup es) σ E = bnd (evs cf b es σ E) kTup := by
  rw [ev]; unfold bnd
  rcases evs cf b es σ E with _ | ⟨ds, E1⟩ <;> rfl
theorem s_lst (es : Exs) (σ : Sd) (E : Eh) : ev cf b (.lst es) σ E = bnd (evs cf b es σ E) kLst := by
  rw [ev]; unfold bnd
  rcases evs cf b es σ E with _ | ⟨ds, E1⟩ <;> rfl
theorem s_dct (ks vs : Exs) (σ : Sd) (E : Eh) : ev cf b (.dct ks vs) σ E = bnd (evp cf b ks vs σ E) kDct := by
  rw [ev]; unfold bnd
  rcases evp cf b ks vs σ E with _ | ⟨ds, E1⟩ <;> rfl
theorem s_bin (op : Operator) (x y : Ex) (σ : Sd) (E : Eh) : ev cf b (.bin op x y) σ E = bnd (ev cf b x σ E) (kBin cf b op y σ) := by
  rw [ev]
  rcases ev cf b x σ E with _ | ⟨r1, E1⟩
  · rfl
  · show (match ev cf b y σ E1 with | none => none | some (r2, E2) => _) = bnd (ev cf b y σ E1) (kBin2 op r1)
    rcases ev cf b y σ E1 with _ | ⟨r2, E2⟩
    · rfl
    · show Option.map _ (binop E2 op r1 r2) = bnd (binop E2 op r1 r2) (kRv E2)
      rcases binop E2 op r1 r2 with _ | r <;> rfl
theorem s_neg (x : Ex) (σ : Sd) (E : Eh) : ev cf b (.neg x) σ E = bnd (ev cf b x σ E) kNeg := by
  rw [ev]; unfold bnd
  rcases ev cf b x σ E with _ | ⟨r1, E1⟩
  · rfl
  · rcases r1 with d | o
    · cases d <;> rfl
    · rfl
theorem s_not (x : Ex) (σ : Sd) (E : Eh) : ev cf b (.not x) σ E = bnd (ts cf b x σ E) kNot := by
  rw [ev]; unfold bnd
  rcases ts cf b x σ E with _ | ⟨c, E1⟩ <;> rfl
theorem s_bop (a : Bool) (es : Exs) (σ : Sd) (E : Eh) : ev cf b (.bop a es) σ E = bnd (evb cf b a es σ E) kBop := by
  rw [ev]; unfold bnd
  rcases evb cf b a es σ E with _ | ⟨c, E1⟩ <;> rfl
theorem s_cmp (op : CmpOp) (x y : Ex) (σ : Sd) (E : Eh) : ev cf b (.cmp op x y) σ E = bnd (ev cf b x σ E) (kCmp cf b op y σ) := by
  rw [ev]
  rcases ev cf b x σ E with _ | ⟨r1, E1⟩
  · rfl
  · show (match ev cf b y σ E1 with | none => none | some (r2, E2) => _) = bnd (ev cf b y σ E1) (kCmp2 op r1)
    rcases ev cf b y σ E1 with _ | ⟨r2, E2⟩
    · rfl
    · show Option.map _ (cmpop E2 op r1 r2) = bnd (cmpop E2 op r1 r2) (kBl E2)
      rcases cmpop E2 op r1 r2 with _ | r <;> rfl
theorem s_ifx (t x y : Ex) (σ : Sd) (E : Eh) : ev cf b (.ifx t x y) σ E = bnd (ts cf b t σ E) (kIfx cf b x y σ) := by
  rw [ev]; unfold bnd
  rcases ts cf b t σ E with _ | ⟨_ | _, E1⟩ <;> rfl
theorem s_call (j : Nat) (es : Exs) (σ : Sd) (E : Eh) : ev cf b (.call j es) σ E = bnd (evs cf b es σ E) (kCall cf j) := by
  rw [ev]; unfold bnd
  rcases evs cf b es σ E with _ | ⟨ds, E1⟩ <;> rfl
theorem s_callB (f : String) (es : Exs) (σ : Sd) (E : Eh) : ev cf b (.callB f es) σ E = bnd (evr cf b es σ E) (kCallB f) := by
  rw [ev]
  rcases evr cf b es σ E with _ | ⟨ds, E1⟩
  · rfl
  · show Option.map _ (callb E1 f ds) = bnd (callb E1 f ds) (kRv E1)
    rcases callb E1 f ds with _ | r <;> rfl
theorem s_meth (m : String) (o : Ex) (es : Exs) (σ : Sd) (E : Eh) : ev cf b (.meth m o es) σ E = bnd (ev cf b o σ E) (kMeth cf b m es σ) := by
  rw [ev]
  rcases ev cf b o σ E with _ | ⟨r1, E1⟩
  · rfl
  · show (if recv m E1 r1 = true then _ else none) = if recv m E1 r1 = true then bnd (evr cf b es σ E1) (kMeth2 b m r1) else none
    by_cases h : recv m E1 r1 = true
    · rw [if_pos h, if_pos h]
      rcases evr cf b es σ E1 with _ | ⟨rs, E2⟩ <;> rfl
    · rw [if_neg h, if_neg h]
theorem s_idx (x y : Ex) (σ : Sd) (E : Eh) : ev cf b (.idx x y) σ E = bnd (ev cf b x σ E) (kIdx cf b y σ) := by
  rw [ev]
  rcases ev cf b x σ E with _ | ⟨r1, E1⟩
  · rfl
  · show (match ev cf b y σ E1 with | none => none | some (r2, E2) => _) = bnd (ev cf b y σ E1) (kIdx2 r1)
    rcases ev cf b y σ E1 with _ | ⟨r2, E2⟩
    · rfl
    · show Option.map _ (idxop E2 r1 r2) = bnd (idxop E2 r1 r2) (kVal E2)
      rcases idxop E2 r1 r2 with _ | r <;> rfl
theorem s_slc (x : Ex) (lo hi : Exo) (σ : Sd) (E : Eh) : ev cf b (.slc x lo hi) σ E = bnd (ev cf b x σ E) (kSlc cf b lo hi σ) := by
  rw [ev]
  rcases ev cf b x σ E with _ | ⟨r1, E1⟩
  · rfl
  · show (match evo cf b lo σ E1 with | none => none | some (r2, E2) => _) = bnd (evo cf b lo σ E1) (kSlc2 cf b hi σ r1)
    rcases evo cf b lo σ E1 with _ | ⟨r2, E2⟩
    · rfl
    · show (match evo cf b hi σ E2 with | none => none | some (r2, E2) => _) = bnd (evo cf b hi σ E2) (kSlc3 r1 r2)
      rcases evo cf b hi σ E2 with _ | ⟨r3, E3⟩
      · rfl
      · show Option.map _ (slcop E3 r1 r2 r3) = bnd (slcop E3 r1 r2 r3) (kRv E3)
        rcases slcop E3 r1 r2 r3 with _ | r <;> rfl
theorem s_rev (x : Ex) (σ : Sd) (E : Eh) : ev cf b (.rev x) σ E = bnd (ev cf b x σ E) kRev := by
  rw [ev]
  rcases ev cf b x σ E with _ | ⟨ds, E1⟩
  · rfl
  · show Option.map _ (revop E1 ds) = bnd (revop E1 ds) (kRv E1)
    rcases revop E1 ds with _ | r <;> rfl
theorem s_lc (elt : Ex) (tg : Tg) (it : It) (c : Exo) (own : List (Str × Nat)) (σ : Sd) (E : Eh) : ev cf b (.lc elt tg it c own) σ E =
    bnd (evi cf b it σ E) (kLc cf b elt tg c own σ) := by
  rw [ev]
  have e : (fun σ E => (ev cf b elt σ E).map fun p => reg p.1 p.2) = eltF cf b elt := by
    funext σ E
    unfold eltF
    rcases ev cf b elt σ E with _ | r <;> rfl
  rw [e]
  rcases evi cf b it σ E with _ | ⟨ds, src, E1⟩
  · rfl
  · rw [bnd_some, kLc_e]
    show (match lcL (asgT tg) (cndF cf b c) (eltF cf b elt) (chk src) (wipeD σ (own.map (·.2))) ds [] E1 with | some (xs, E2) => _ | none => none) = _
    generalize lcL (asgT tg) (cndF cf b c) (eltF cf b elt) (chk src) (wipeD σ (own.map (·.2))) ds [] E1 = x
    rcases x with _ | ⟨xs, E2⟩ <;> rfl
theorem s_lc2 (elt : Ex) (tg : Tg) (it : It) (tg1 : Tg) (it1 : It) (own : List (Str × Nat)) (own1 : List Nat) (σ : Sd) (E : Eh) : ev cf b (.lc2 elt tg it tg1 it1 own own1) σ E =
    bnd (evi cf b it σ E) (kLc2 cf b elt tg tg1 it1 own own1 σ) := by
  rw [ev]
  have e : (fun σ E => (ev cf b elt σ E).map fun p => reg p.1 p.2) = eltF cf b elt := by
    funext σ E
    unfold eltF
    rcases ev cf b elt σ E with _ | r <;> rfl
  rw [e]
  rcases evi cf b it σ E with _ | ⟨ds, src, E1⟩
  · rfl
  · rw [bnd_some, kLc2_e]
    show (match lc2L (asgT tg) (innerL (asgT tg1) (itrF cf b it1) (eltF cf b elt) own1) (chk src) (wipeD σ (own.map (·.2))) ds [] E1 with | some (xs, E2) => _ | none => none) = _
    generalize lc2L (asgT tg) (innerL (asgT tg1) (itrF cf b it1) (eltF cf b elt) own1) (chk src) (wipeD σ (own.map (·.2))) ds [] E1 = x
    rcases x with _ | ⟨xs, E2⟩ <;> rfl
/-! tests -/
theorem t_not (x : Ex) (σ : Sd) (E : Eh) : ts cf b (.not x) σ E = bnd (ts cf b x σ E) kNotB := by
  rw [ts]; unfold bnd
  rcases ts cf b x σ E with _ | ⟨c, E1⟩ <;> rfl
theorem t_bop (a : Bool) (es : Exs) (σ : Sd) (E : Eh) : ts cf b (.bop a es) σ E = evb cf b a es σ E := by rw [ts]
theorem t_bl (x : Bool) (σ : Sd) (E : Eh) : ts cf b (.bl x) σ E = some (x, E) := by rw [ts]
theorem t_var (i : Nat) (σ : Sd) (E : Eh) : ts cf b (.var i) σ E = bnd (getv σ i) (kVarB E) := by
  rw [ts]; unfold getv bnd
  rcases σ[i]? with _ | _ | d
  · rfl
  · rfl
  · cases d <;> rfl
theorem t_cmp (op : CmpOp) (x y : Ex) (σ : Sd) (E : Eh) : ts cf b (.cmp op x y) σ E = bnd (ev cf b x σ E) (kTst cf b op y σ) := by
  rw [ts]
  rcases ev cf b x σ E with _ | ⟨r1, E1⟩
  · rfl
  · show (match ev cf b y σ E1 with | none => none | some (r2, E2) => _) = bnd (ev cf b y σ E1) (kTst2 op r1)
    rcases ev cf b y σ E1 with _ | ⟨r2, E2⟩
    · rfl
    · show Option.map _ (cmpop E2 op r1 r2) = bnd (cmpop E2 op r1 r2) (kBo E2)
      rcases cmpop E2 op r1 r2 with _ | r <;> rfl
theorem t_call (j : Nat) (es : Exs) (σ : Sd) (E : Eh) : ts cf b (.call j es) σ E = bnd (evs cf b es σ E) (kTcall cf j) := by
  rw [ts]
  rcases evs cf b es σ E with _ | ⟨ds, E1⟩
  · rfl
  · show (match cf j ds E1 with | some (Rv.val (D.bl c), E2) => some (c, E2) | _ => none) = bnd (cf j ds E1) asB
    rcases cf j ds E1 with _ | ⟨r, E2⟩
    · rfl
    · rcases r with d | o
      · cases d <;> rfl
      · rfl
theorem t_callB (f : String) (es : Exs) (σ : Sd) (E : Eh) : ts cf b (.callB f es) σ E = bnd (evr cf b es σ E) (kCallT f) := by
  rw [ts]
  rcases evr cf b es σ E with _ | ⟨ds, E1⟩
  · rfl
  · show (match callb E1 f ds with | some (Rv.val (D.bl c)) => some (c, E1) | _ => none) = bnd (callb E1 f ds) (asBE E1)
    rcases callb E1 f ds with _ | r
    · rfl
    · rcases r with d | o
      · cases d <;> rfl
      · rfl
theorem b_one (a : Bool) (e : Ex) (σ : Sd) (E : Eh) : evb cf b a (.cons e .nil) σ E = ts cf b e σ E := by rw [evb]
theorem b_and (e e1 : Ex) (r : Exs) (σ : Sd) (E : Eh) : evb cf b true (.cons e (.cons e1 r)) σ E = bnd (ts cf b e σ E) (kAnd cf b (.cons e1 r) σ) := by
  rw [evb]; unfold bnd
  rcases ts cf b e σ E with _ | ⟨_ | _, E1⟩ <;> rfl
theorem b_or (e e1 : Ex) (r : Exs) (σ : Sd) (E : Eh) : evb cf b false (.cons e (.cons e1 r)) σ E = bnd (ts cf b e σ E) (kOr cf b (.cons e1 r) σ) := by
  rw [evb]; unfold bnd
  rcases ts cf b e σ E with _ | ⟨_ | _, E1⟩ <;> rfl
theorem es_nil (σ : Sd) (E : Eh) : evs cf b .nil σ E = some ([], E) := by rw [evs]
theorem es_cons (e : Ex) (r : Exs) (σ : Sd) (E : Eh) : evs cf b (.cons e r) σ E = bnd (ev cf b e σ E) (kCons cf b r σ) := by
  rw [evs]
  rcases ev cf b e σ E with _ | ⟨v, E1⟩
  · rfl
  · show (match evs cf b r σ (reg v E1).2 with | none => none | some (ds, E2) => _) = bnd (evs cf b r σ (reg v E1).2) (kCons2 (reg v E1).1)
    rcases evs cf b r σ (reg v E1).2 with _ | ⟨ds, E2⟩ <;> rfl
theorem er_nil (σ : Sd) (E : Eh) : evr cf b .nil σ E = some ([], E) := by rw [evr]
theorem er_cons (e : Ex) (r : Exs) (σ : Sd) (E : Eh) : evr cf b (.cons e r) σ E = bnd (ev cf b e σ E) (kRs cf b r σ) := by
  rw [evr]
  rcases ev cf b e σ E with _ | ⟨v, E1⟩
  · rfl
  · show (match evr cf b r σ E1 with | none => none | some (ds, E2) => _) = bnd (evr cf b r σ E1) (kRs2 v)
    rcases evr cf b r σ E1 with _ | ⟨ds, E2⟩ <;> rfl
theorem eo_none (σ : Sd) (E : Eh) : evo cf b .none σ E = some (none, E) := by rw [evo]
def asI (p : Rv × Eh) : Option (Option Int × Eh) := match p with
  | (.val (.int i), E) => some (some i, E)
  | _ => none
theorem asI_int (i : Int) (E : Eh) : asI (.val (.int i), E) = some (some i, E) := rfl
theorem eo_some (e : Ex) (σ : Sd) (E : Eh) : evo cf b (.some e) σ E = bnd (ev cf b e σ E) asI := by
  rw [evo]; unfold bnd asI
  rcases ev cf b e σ E with _ | ⟨r, E1⟩
  · rfl
  · rcases r with d | o
    · cases d <;> rfl
    · rfl
theorem ec_none (σ : Sd) (E : Eh) : evc cf b .none σ E = some (true, E) := by rw [evc]
theorem ec_some (e : Ex) (σ : Sd) (E : Eh) : evc cf b (.some e) σ E = ts cf b e σ E := by rw [evc]
theorem ep_nil (σ : Sd) (E : Eh) : evp cf b .nil .nil σ E = some ([], E) := by rw [evp]
theorem ep_cons (x : Str) (ks : Exs) (v : Ex) (vs : Exs) (σ : Sd) (E : Eh) : evp cf b (.cons (.str x) ks) (.cons v vs) σ E = bnd (ev cf b v σ E) (kPr cf b x ks vs σ) := by
  rw [evp]
  rcases ev cf b v σ E with _ | ⟨v, E1⟩
  · rfl
  · show (match evp cf b ks vs σ (reg v E1).2 with | none => none | some (ds, E2) => _) = bnd (evp cf b ks vs σ (reg v E1).2) (kPr2 (.inr x) (reg v E1).1)
    rcases evp cf b ks vs σ (reg v E1).2 with _ | ⟨ds, E2⟩ <;> rfl
/-- what is gone through -/
def asIt (p : Rv × Eh) : Option ItR := match asS p.2 p.1 with
  | some (xs, n) => some (xs, n.map fun n => (n, xs), p.2)
  | none => match p.1 with
    | .val (.str x) => if x.length ≤ sizeLine then some (x.cps.toList.map fun c => .str (sign c), none, p.2) else none
    | .val (.dct ks _) => some (ks.map keyD, none, p.2)
    | _ => none
theorem asIt_dct (ks : List Key) (vs : List D) (E : Eh) : asIt (.val (.dct ks vs), E) = some (ks.map keyD, none, E) := rfl
theorem asIt_tup (ds : List D) (E : Eh) : asIt (.val (.tup ds), E) = some (ds, none, E) := rfl
theorem asIt_new (ds : List D) (E : Eh) : asIt (.new (.lst ds), E) = some (ds, none, E) := rfl
def kItR (E : Eh) (n : Nat) (xs : List D) : Option ItR := some (xs, some (n, xs), E)
theorem kItR_e (E : Eh) (n : Nat) (xs : List D) : kItR E n xs = some (xs, some (n, xs), E) := rfl
theorem asIt_ref (n : Nat) (E : Eh) : asIt (.val (.ref n), E) = bnd (bnd E[n]? kL) (kItR E n) := by
  simp only [asIt, asS]
  rcases E[n]? with _ | o
  · rfl
  · cases o <;> rfl
theorem asIt_str {x : Str} {E : Eh} (h : x.length ≤ sizeLine) : asIt (.val (.str x), E) = some (x.cps.toList.map fun c => .str (sign c), none, E) := by
  simp only [asIt, asS, h, if_true]
theorem ei_seq (e : Ex) (σ : Sd) (E : Eh) : evi cf b (.seq e) σ E = bnd (ev cf b e σ E) asIt := by
  rw [evi]; unfold bnd asIt
  rcases ev cf b e σ E with _ | ⟨r, E1⟩ <;> rfl
def asRg (p : List D × Eh) : Option ItR := match p with
  | ([.int j], E1) => if -4611686018427387904 ≤ j ∧ j < 4611686018427387904 then some (rangeD 0 j.toNat, none, E1) else none
  | ([.int i, .int j], E1) => if -4611686018427387904 ≤ i ∧ i < 4611686018427387904 ∧ -4611686018427387904 ≤ j ∧ j < 4611686018427387904 then some (rangeD i (j - i).toNat, none, E1) else none
  | _ => none
theorem asRg_one {j : Int} {E : Eh} (h : -4611686018427387904 ≤ j ∧ j < 4611686018427387904) : asRg ([.int j], E) = some (rangeD 0 j.toNat, none, E) := by
  simp only [asRg, h, and_self, if_true]
theorem asRg_nat {j : Nat} {E : Eh} (h : j < 4611686018427387904) : asRg ([.int j], E) = some (rangeD 0 j, none, E) := by
  rw [asRg_one (by omega), Int.toNat_natCast]
theorem ei_range (es : Exs) (σ : Sd) (E : Eh) : evi cf b (.range es) σ E = bnd (evs cf b es σ E) asRg := by
  rw [evi]
  rcases evs cf b es σ E with _ | ⟨ds, E1⟩
  · rfl
  · rw [bnd_some]
    rcases ds with _ | ⟨d, _ | ⟨d2, _ | ⟨d3, r⟩⟩⟩
    · rfl
    · cases d <;> rfl
    · cases d <;> first | rfl | (cases d2 <;> rfl)
    · cases d <;> first | rfl | (cases d2 <;> rfl)
def asEn (p : Rv × Eh) : Option ItR := match p.1 with
  | .val (.tup _) => none
  | r => match asS p.2 r with
    | some (xs, n) => some (enumD 0 xs, n.map fun n => (n, xs), p.2)
    | none => none
def kEnR (E : Eh) (n : Nat) (xs : List D) : Option ItR := some (enumD 0 xs, some (n, xs), E)
theorem kEnR_e (E : Eh) (n : Nat) (xs : List D) : kEnR E n xs = some (enumD 0 xs, some (n, xs), E) := rfl
theorem asEn_ref (n : Nat) (E : Eh) : asEn (.val (.ref n), E) = bnd (bnd E[n]? kL) (kEnR E n) := by
  simp only [asEn, asS]
  rcases E[n]? with _ | o
  · rfl
  · cases o <;> rfl
theorem asEn_new (xs : List D) (E : Eh) : asEn (.new (.lst xs), E) = some (enumD 0 xs, none, E) := rfl
theorem ei_enum (e : Ex) (σ : Sd) (E : Eh) : evi cf b (.enum e) σ E = bnd (ev cf b e σ E) asEn := by
  rw [evi]
  rcases ev cf b e σ E with _ | ⟨r, E1⟩ <;> rfl
/-! statements -/
def kPut (p : Sd × Eh) : Option (Fl × Eh) := some (.nx p.1, p.2)
theorem kPut_e (σ : Sd) (E : Eh) : kPut (σ, E) = some (.nx σ, E) := rfl
def kAsg (t : Tg) (σ : Sd) (p : Rv × Eh) : Option (Fl × Eh) := bnd (asgT t (reg p.1 p.2).1 σ (reg p.1 p.2).2) kPut
theorem kAsg_v (t : Tg) (σ : Sd) (d : D) (E : Eh) : kAsg t σ (.val d, E) = bnd (asgT t d σ E) kPut := rfl
theorem kAsg_n (t : Tg) (σ : Sd) (o : O) (E : Eh) : kAsg t σ (.new o, E) = bnd (asgT t (.ref E.length) σ (E ++ [o])) kPut := rfl
theorem x_asg (t : Tg) (e : Ex) (σ : Sd) (E : Eh) : ex cf wf b (.asg t e) σ E = bnd (ev cf b e σ E) (kAsg t σ) := by
  rw [ex]
  rcases ev cf b e σ E with _ | ⟨r, E1⟩
  · rfl
  · show Option.map _ (asgT t (reg r E1).1 σ (reg r E1).2) = bnd (asgT t (reg r E1).1 σ (reg r E1).2) kPut
    rcases asgT t (reg r E1).1 σ (reg r E1).2 with _ | ⟨a, c⟩ <;> rfl
def kPar (is : List Nat) (σ : Sd) (p : List D × Eh) : Option (Fl × Eh) := some (.nx (setAll σ is p.1), p.2)
theorem kPar_e (is : List Nat) (σ : Sd) (ds : List D) (E : Eh) : kPar is σ (ds, E) = some (.nx (setAll σ is ds), E) := rfl
theorem x_par (is : List Nat) (es : Exs) (σ : Sd) (E : Eh) : ex cf wf b (.par is es) σ E = bnd (evs cf b es σ E) (kPar is σ) := by
  rw [ex]
  rcases evs cf b es σ E with _ | ⟨r, E1⟩ <;> rfl
def kHeap (σ : Sd) (E : Eh) : Option (Fl × Eh) := some (.nx σ, E)
theorem kHeap_e (σ : Sd) (E : Eh) : kHeap σ E = some (.nx σ, E) := rfl
def kSto3 (b : Nat) (σ : Sd) (d : D) (ro : Rv) (p : Rv × Eh) : Option (Fl × Eh) := bnd (stoop b p.2 ro p.1 d) (kHeap σ)
theorem kSto3_e (b : Nat) (σ : Sd) (d : D) (ro ri : Rv) (E : Eh) : kSto3 b σ d ro (ri, E) = bnd (stoop b E ro ri d) (kHeap σ) := rfl
def kSto2 (cf : Cf) (b : Nat) (i : Ex) (σ : Sd) (d : D) (p : Rv × Eh) : Option (Fl × Eh) := bnd (ev cf b i σ p.2) (kSto3 b σ d p.1)
theorem kSto2_e (cf : Cf) (b : Nat) (i : Ex) (σ : Sd) (d : D) (ro : Rv) (E : Eh) : kSto2 cf b i σ d (ro, E) = bnd (ev cf b i σ E) (kSto3 b σ d ro) := rfl
def kSto (cf : Cf) (b : Nat) (o i : Ex) (σ : Sd) (p : Rv × Eh) : Option (Fl × Eh) := bnd (ev cf b o σ (reg p.1 p.2).2) (kSto2 cf b i σ (reg p.1 p.2).1)
theorem kSto_v (cf : Cf) (b : Nat) (o i : Ex) (σ : Sd) (d : D) (E : Eh) : kSto cf b o i σ (.val d, E) = bnd (ev cf b o σ E) (kSto2 cf b i σ d) := rfl
theorem kSto_n (cf : Cf) (b : Nat) (o i : Ex) (σ : Sd) (d : O) (E : Eh) : kSto cf b o i σ (.new d, E) = bnd (ev cf b o σ (E ++ [d])) (kSto2 cf b i σ (.ref E.length)) := rfl
theorem x_sto (o i e : Ex) (σ : Sd) (E : Eh) : ex cf wf b (.sto o i e) σ E = bnd (ev cf b e σ E) (kSto cf b o i σ) := by
  rw [ex]
  rcases ev cf b e σ E with _ | ⟨r, E1⟩
  · rfl
  · show (match ev cf b o σ (reg r E1).2 with | none => none | some (ro, E2) => _) = bnd (ev cf b o σ (reg r E1).2) (kSto2 cf b i σ (reg r E1).1)
    rcases ev cf b o σ (reg r E1).2 with _ | ⟨ro, E2⟩
    · rfl
    · show (match ev cf b i σ E2 with | none => none | some (ri, E3) => _) = bnd (ev cf b i σ E2) (kSto3 b σ (reg r E1).1 ro)
      rcases ev cf b i σ E2 with _ | ⟨ri, E3⟩
      · rfl
      · show Option.map _ (stoop b E3 ro ri (reg r E1).1) = bnd (stoop b E3 ro ri (reg r E1).1) (kHeap σ)
        rcases stoop b E3 ro ri (reg r E1).1 with _ | E4 <;> rfl
def kExpr (σ : Sd) (p : Rv × Eh) : Option (Fl × Eh) := some (.nx σ, p.2)
theorem kExpr_e (σ : Sd) (r : Rv) (E : Eh) : kExpr σ (r, E) = some (.nx σ, E) := rfl
theorem x_expr (e : Ex) (σ : Sd) (E : Eh) : ex cf wf b (.expr e) σ E = bnd (ev cf b e σ E) (kExpr σ) := by
  rw [ex]
  rcases ev cf b e σ E with _ | ⟨r, E1⟩ <;> rfl
def kRet (p : Rv × Eh) : Option (Fl × Eh) := some (.rt p.1, p.2)
theorem kRet_e (r : Rv) (E : Eh) : kRet (r, E) = some (.rt r, E) := rfl
theorem x_ret (e : Ex) (σ : Sd) (E : Eh) : ex cf wf b (.ret e) σ E = bnd (ev cf b e σ E) kRet := by
  rw [ex]
  rcases ev cf b e σ E with _ | ⟨r, E1⟩ <;> rfl
def kIf (cf : Cf) (wf b : Nat) (x y : Stms) (σ : Sd) (p : Bool × Eh) : Option (Fl × Eh) := match p.1 with
  | true => exs cf wf b x σ p.2
  | false => exs cf wf b y σ p.2
theorem kIf_t (cf : Cf) (wf b : Nat) (x y : Stms) (σ : Sd) (E : Eh) : kIf cf wf b x y σ (true, E) = exs cf wf b x σ E := rfl
theorem kIf_f (cf : Cf) (wf b : Nat) (x y : Stms) (σ : Sd) (E : Eh) : kIf cf wf b x y σ (false, E) = exs cf wf b y σ E := rfl
theorem x_if (t : Ex) (x y : Stms) (σ : Sd) (E : Eh) : ex cf wf b (.ife t x y) σ E = bnd (ts cf b t σ E) (kIf cf wf b x y σ) := by
  rw [ex]
  rcases ts cf b t σ E with _ | ⟨_ | _, E1⟩ <;> rfl
def bodF (cf : Cf) (wf b : Nat) (body : Stms) (σ : Sd) (E : Eh) : Option (Fl × Eh) := exs cf wf b body σ E
def tstF (cf : Cf) (b : Nat) (t : Ex) (σ : Sd) (E : Eh) : Option (Bool × Eh) := ts cf b t σ E
def kFor (cf : Cf) (wf b : Nat) (tg : Tg) (body : Stms) (σ : Sd) (p : ItR) : Option (Fl × Eh) := forL (asgT tg) (bodF cf wf b body) (chk p.2.1) p.1 σ p.2.2
theorem kFor_e (cf : Cf) (wf b : Nat) (tg : Tg) (body : Stms) (σ : Sd) (ds : List D) (src : Option (Nat × List D)) (E : Eh) : kFor cf wf b tg body σ (ds, src, E) = forL (asgT tg) (bodF cf wf b body) (chk src) ds σ E := rfl
theorem x_for (tg : Tg) (it : It) (body : Stms) (σ : Sd) (E : Eh) : ex cf wf b (.loop tg it body) σ E = bnd (evi cf b it σ E) (kFor cf wf b tg body σ) := by
  rw [ex]
  rcases evi cf b it σ E with _ | ⟨r, s, E1⟩ <;> rfl
theorem x_whl (t : Ex) (body : Stms) (σ : Sd) (E : Eh) : ex cf wf b (.whl t body) σ E = whileL (tstF cf b t) (bodF cf wf b body) wf σ E := by
  rw [ex]; rfl
theorem x_pass (σ : Sd) (E : Eh) : ex cf wf b .pass σ E = some (.nx σ, E) := by rw [ex]
theorem x_brk (σ : Sd) (E : Eh) : ex cf wf b .brk σ E = some (.bk σ, E) := by rw [ex]
theorem x_cont (σ : Sd) (E : Eh) : ex cf wf b .cont σ E = some (.ct σ, E) := by rw [ex]
def kSeq (cf : Cf) (wf b : Nat) (r : Stms) (p : Fl × Eh) : Option (Fl × Eh) := match p.1 with
  | .nx σ => exs cf wf b r σ p.2
  | f => some (f, p.2)
theorem kSeq_nx (cf : Cf) (wf b : Nat) (r : Stms) (σ : Sd) (E : Eh) : kSeq cf wf b r (.nx σ, E) = exs cf wf b r σ E := rfl
theorem kSeq_rt (cf : Cf) (wf b : Nat) (r : Stms) (v : Rv) (E : Eh) : kSeq cf wf b r (.rt v, E) = some (.rt v, E) := rfl
theorem kSeq_bk (cf : Cf) (wf b : Nat) (r : Stms) (σ : Sd) (E : Eh) : kSeq cf wf b r (.bk σ, E) = some (.bk σ, E) := rfl
theorem kSeq_ct (cf : Cf) (wf b : Nat) (r : Stms) (σ : Sd) (E : Eh) : kSeq cf wf b r (.ct σ, E) = some (.ct σ, E) := rfl
theorem xs_nil (σ : Sd) (E : Eh) : exs cf wf b .nil σ E = some (.nx σ, E) := by rw [exs]
theorem xs_cons (s : Stm) (r : Stms) (σ : Sd) (E : Eh) : exs cf wf b (.cons s r) σ E = bnd (ex cf wf b s σ E) (kSeq cf wf b r) := by
  rw [exs]
  rcases ex cf wf b s σ E with _ | ⟨f, E1⟩
  · rfl
  · cases f <;> rfl
end
/-! targets -/
theorem a_nm (i : Nat) (d : D) (σ : Sd) (E : Eh) : asgT (.nm i) d σ E = some (σ.set i (some d), E) := by rw [asgT]
theorem a_tp (ts : Tgs) (ds : List D) (σ : Sd) (E : Eh) : asgT (.tp ts) (.tup ds) σ E = asgTs ts ds σ E := by rw [asgT]
theorem a_star {is : List Nat} {j : Nat} {ds : List D} {σ : Sd} {E : Eh} (h : is.length ≤ ds.length) : asgT (.star is j) (.tup ds) σ E = some ((setAll σ is ds).set j (some (.ref E.length)), E ++ [.lst (ds.drop is.length)]) := by
  rw [asgT]
  simp only [h, if_true]
theorem as_nil (σ : Sd) (E : Eh) : asgTs .nil [] σ E = some (σ, E) := by rw [asgTs]
def kTs (r : Tgs) (ds : List D) (p : Sd × Eh) : Option (Sd × Eh) := asgTs r ds p.1 p.2
theorem kTs_e (r : Tgs) (ds : List D) (σ : Sd) (E : Eh) : kTs r ds (σ, E) = asgTs r ds σ E := rfl
theorem as_cons (t : Tg) (r : Tgs) (d : D) (ds : List D) (σ : Sd) (E : Eh) : asgTs (.cons t r) (d :: ds) σ E = bnd (asgT t d σ E) (kTs r ds) := by
  rw [asgTs]
  show (match asgT t d σ E with | some (σ1, E1) => _ | none => none) = _
  rcases asgT t d σ E with _ | ⟨a, c⟩ <;> rfl
/-! operators -/
theorem o_addi (E : Eh) (i j : Int) : binop E .Add (.val (.int i)) (.val (.int j)) = some (.val (.int (i + j))) := rfl
theorem o_adds {E : Eh} {x y : Str} (h : x.length + y.length ≤ sizeLine) : binop E .Add (.val (.str x)) (.val (.str y)) = some (.val (.str (x ++ y))) := if_pos h
theorem o_addt {E : Eh} {x y : List D} (h : x.length + y.length ≤ sizeLine) : binop E .Add (.val (.tup x)) (.val (.tup y)) = some (.val (.tup (x ++ y))) := if_pos h
theorem o_addnn {E : Eh} {x y : List D} (h : x.length + y.length ≤ sizeLine) : binop E .Add (.new (.lst x)) (.new (.lst y)) = some (.new (.lst (x ++ y))) := if_pos h
def kAddN (ys : List D) (xs : List D) : Option Rv := grd (xs.length + ys.length ≤ sizeLine) (some (.new (.lst (xs ++ ys))))
theorem kAddN_e (xs ys : List D) : kAddN ys xs = grd (xs.length + ys.length ≤ sizeLine) (some (.new (.lst (xs ++ ys)))) := rfl
theorem o_addrn (E : Eh) (n : Nat) (y : List D) : binop E .Add (.val (.ref n)) (.new (.lst y)) = bnd (bnd E[n]? kL) (kAddN y) := by
  simp only [binop, asL]
  rcases E[n]? with _ | o
  · rfl
  · cases o <;> rfl
def kAddX (xs : List D) (ys : List D) : Option Rv := grd (xs.length + ys.length ≤ sizeLine) (some (.new (.lst (xs ++ ys))))
theorem kAddX_e (xs ys : List D) : kAddX xs ys = grd (xs.length + ys.length ≤ sizeLine) (some (.new (.lst (xs ++ ys)))) := rfl
theorem o_addnr (E : Eh) (n : Nat) (x : List D) : binop E .Add (.new (.lst x)) (.val (.ref n)) = bnd (bnd E[n]? kL) (kAddX x) := by
  simp only [binop, asL]
  rcases E[n]? with _ | o
  · rfl
  · cases o <;> rfl
def kAddR (E : Eh) (n : Nat) (xs : List D) : Option Rv := bnd (bnd E[n]? kL) (kAddX xs)
theorem kAddR_e (E : Eh) (n : Nat) (xs : List D) : kAddR E n xs = bnd (bnd E[n]? kL) (kAddX xs) := rfl
theorem o_addrr (E : Eh) (n m : Nat) : binop E .Add (.val (.ref n)) (.val (.ref m)) = bnd (bnd E[n]? kL) (kAddR E m) := by
  simp only [binop, asL]
  rcases E[n]? with _ | o
  · rfl
  · cases o with
    | lst xs =>
      show _ = bnd (bnd E[m]? kL) (kAddX xs)
      rcases E[m]? with _ | o
      · rfl
      · cases o <;> rfl
    | dct _ => rfl
theorem o_subi (E : Eh) (i j : Int) : binop E .Sub (.val (.int i)) (.val (.int j)) = some (.val (.int (i - j))) := rfl
theorem o_muli {E : Eh} {i j : Int} (h : -big < i ∧ i < big) : binop E .Mult (.val (.int i)) (.val (.int j)) = some (.val (.int (i * j))) := if_pos h
theorem o_mult {E : Eh} {xs : List D} {j : Int} (h : 2 ≤ j ∧ j ≤ 1000 ∧ xs.length ≤ 1000) : binop E .Mult (.val (.tup xs)) (.val (.int j)) = some (.val (.tup (List.replicate j.toNat xs).flatten)) := if_pos h
theorem o_div {E : Eh} {i j : Int} (h : 0 < j) (h2 : j < 1073741824) : binop E .FloorDiv (.val (.int i)) (.val (.int j)) = some (.val (.int (i.fdiv j))) := if_pos (by omega)
theorem o_mod {E : Eh} {i j : Int} (h : j ≠ 0) : binop E .Mod (.val (.int i)) (.val (.int j)) = some (.val (.int (i.fmod j))) := if_pos h
theorem o_pow {E : Eh} {i j : Int} (h0 : 0 ≤ j) (h1 : j ≤ 1000) (h2 : -18446744073709551616 < i) (h3 : i < 18446744073709551616) : binop E .Pow (.val (.int i)) (.val (.int j)) = some (.val (.int (i ^ j.toNat))) := by
  simp only [binop]
  rw [if_pos (by omega)]
theorem c_lt (E : Eh) (i j : Int) : cmpop E .Lt (.val (.int i)) (.val (.int j)) = some (decide (i < j)) := rfl
theorem c_lts (E : Eh) (x y : Str) : cmpop E .Lt (.val (.str x)) (.val (.str y)) = some (decide (x.cps.toList < y.cps.toList)) := rfl
theorem c_le (E : Eh) (i j : Int) : cmpop E .LtE (.val (.int i)) (.val (.int j)) = some (decide (i ≤ j)) := rfl
theorem c_gt (E : Eh) (i j : Int) : cmpop E .Gt (.val (.int i)) (.val (.int j)) = some (decide (j < i)) := rfl
theorem c_ge (E : Eh) (i j : Int) : cmpop E .GtE (.val (.int i)) (.val (.int j)) = some (decide (j ≤ i)) := rfl
theorem c_is (E : Eh) (x : D) : cmpop E .Is (.val x) (.val .non) = some (decide (x = .non)) := rfl
theorem c_isn (E : Eh) (x : D) : cmpop E .IsNot (.val x) (.val .non) = some (!decide (x = .non)) := rfl
def kNeq (c : Bool) : Option Bool := some (!c)
theorem kNeq_e (c : Bool) : kNeq c = some (!c) := rfl
theorem c_eq (E : Eh) (a b : Rv) : cmpop E .Eq a b = eqRv E a b := rfl
theorem c_ne (E : Eh) (a b : Rv) : cmpop E .NotEq a b = bnd (eqRv E a b) kNeq := by
  show Option.map _ (eqRv E a b) = _
  rcases eqRv E a b with _ | c <;> rfl
theorem c_in (E : Eh) (a b : Rv) : cmpop E .In a b = inRv E a b := rfl
theorem c_nin (E : Eh) (a b : Rv) : cmpop E .NotIn a b = bnd (inRv E a b) kNeq := by
  show Option.map _ (inRv E a b) = _
  rcases inRv E a b with _ | c <;> rfl
theorem q_str (E : Eh) (x y : Str) : eqRv E (.val (.str x)) (.val (.str y)) = some (decide (x = y)) := rfl
theorem q_int (E : Eh) (i j : Int) : eqRv E (.val (.int i)) (.val (.int j)) = some (decide (i = j)) := rfl
theorem n_tup {E : Eh} {x : D} {ds : List D} (h : (x.flat && ds.all D.flat) = true) : inRv E (.val x) (.val (.tup ds)) = some (ds.any fun y => D.eqf y x) := if_pos h
theorem i_tup (E : Eh) (ds : List D) (i : Int) : idxop E (.val (.tup ds)) (.val (.int i)) = L2.atI ds i := rfl
theorem i_new (E : Eh) (ds : List D) (i : Int) : idxop E (.new (.lst ds)) (.val (.int i)) = L2.atI ds i := rfl
theorem i_scr (E : Eh) (ns : List Int) (i : Int) : idxop E (.val (.scr ns)) (.val (.int i)) = L2.atI (ns.map .int) i := rfl
def kAt (i : Int) (xs : List D) : Option D := L2.atI xs i
theorem kAt_e (i : Int) (xs : List D) : kAt i xs = L2.atI xs i := rfl
theorem i_ref (E : Eh) (n : Nat) (i : Int) (h : (bnd E[n]? kL).isSome = true) : idxop E (.val (.ref n)) (.val (.int i)) = bnd (bnd E[n]? kL) (kAt i) := by
  simp only [idxop, asS]
  rcases hE : E[n]? with _ | o
  · rw [hE] at h; exact absurd h (by decide)
  · cases o with
    | lst xs => rfl
    | dct kvs => rw [hE] at h; exact absurd h (by simp [bnd, kL])
def kLook (x : Str) (kvs : List (Key × D)) : Option D := Ev.look kvs (.inr x)
theorem kLook_e (x : Str) (kvs : List (Key × D)) : kLook x kvs = Ev.look kvs (.inr x) := rfl
theorem i_dct (E : Eh) (n : Nat) (x : Str) : idxop E (.val (.ref n)) (.val (.str x)) = bnd (bnd E[n]? kK) (kLook x) := by
  simp only [idxop, asS, asK, D.keyOf]
  rcases E[n]? with _ | o
  · rfl
  · cases o <;> rfl
theorem i_dnew (E : Eh) (kvs : List (Key × D)) (x : Str) : idxop E (.new (.dct kvs)) (.val (.str x)) = look kvs (.inr x) := rfl
theorem l_tup (E : Eh) (ds : List D) (lo hi : Option Int) : slcop E (.val (.tup ds)) lo hi = some (.val (.tup (cut ds lo hi))) := rfl
theorem l_new (E : Eh) (ds : List D) (lo hi : Option Int) : slcop E (.new (.lst ds)) lo hi = some (.new (.lst (cut ds lo hi))) := rfl
theorem l_scr (E : Eh) (ns : List Int) (lo hi : Option Int) : slcop E (.val (.scr ns)) lo hi = some (.new (.lst (cut (ns.map .int) lo hi))) := rfl
def kCut (lo hi : Option Int) (xs : List D) : Option Rv := some (.new (.lst (cut xs lo hi)))
theorem kCut_e (lo hi : Option Int) (xs : List D) : kCut lo hi xs = some (.new (.lst (cut xs lo hi))) := rfl
theorem l_ref (E : Eh) (n : Nat) (lo hi : Option Int) : slcop E (.val (.ref n)) lo hi = bnd (bnd E[n]? kL) (kCut lo hi) := by
  simp only [slcop, asS]
  rcases E[n]? with _ | o
  · rfl
  · cases o <;> rfl
theorem v_tup (E : Eh) (ds : List D) : revop E (.val (.tup ds)) = some (.val (.tup ds.reverse)) := rfl
theorem v_new (E : Eh) (ds : List D) : revop E (.new (.lst ds)) = some (.new (.lst ds.reverse)) := rfl
def kRvs (xs : List D) : Option Rv := some (.new (.lst xs.reverse))
theorem kRvs_e (xs : List D) : kRvs xs = some (.new (.lst xs.reverse)) := rfl
theorem v_ref (E : Eh) (n : Nat) : revop E (.val (.ref n)) = bnd (bnd E[n]? kL) kRvs := by
  simp only [revop, asL]
  rcases E[n]? with _ | o
  · rfl
  · cases o <;> rfl
theorem f_len (E : Eh) (rs : List Rv) : callb E "len" rs = lenB E rs := rfl
theorem f_tup (E : Eh) (rs : List Rv) : callb E "tuple" rs = tupB E rs := rfl
theorem f_lst (E : Eh) (rs : List Rv) : callb E "list" rs = lstB E rs := rfl
theorem f_rep (E : Eh) (rs : List Rv) : callb E "repr" rs = reprB E rs := rfl
theorem f_len_t (E : Eh) (ds : List D) : lenB E [.val (.tup ds)] = some (.val (.int ds.length)) := rfl
theorem f_len_n (E : Eh) (ds : List D) : lenB E [.new (.lst ds)] = some (.val (.int ds.length)) := rfl
theorem f_tup_t (E : Eh) (ds : List D) : tupB E [.val (.tup ds)] = some (.val (.tup ds)) := rfl
theorem f_tup_n (E : Eh) (ds : List D) : tupB E [.new (.lst ds)] = some (.val (.tup ds)) := rfl
theorem f_lst_t (E : Eh) (ds : List D) : lstB E [.val (.tup ds)] = some (.new (.lst ds)) := rfl
theorem f_lst_n (E : Eh) (ds : List D) : lstB E [.new (.lst ds)] = some (.new (.lst ds)) := rfl
def kLen (xs : List D) : Option Rv := some (.val (.int xs.length))
theorem kLen_e (xs : List D) : kLen xs = some (.val (.int xs.length)) := rfl
theorem f_len_r (E : Eh) (n : Nat) : lenB E [.val (.ref n)] = bnd (bnd E[n]? kL) kLen := by
  simp only [lenB, asS]
  rcases E[n]? with _ | o
  · rfl
  · cases o <;> rfl
def kTupB (xs : List D) : Option Rv := some (.val (.tup xs))
theorem kTupB_e (xs : List D) : kTupB xs = some (.val (.tup xs)) := rfl
theorem f_tup_r (E : Eh) (n : Nat) : tupB E [.val (.ref n)] = bnd (bnd E[n]? kL) kTupB := by
  simp only [tupB, asS]
  rcases E[n]? with _ | o
  · rfl
  · cases o <;> rfl
def kLstB (xs : List D) : Option Rv := some (.new (.lst xs))
theorem kLstB_e (xs : List D) : kLstB xs = some (.new (.lst xs)) := rfl
theorem f_lst_r (E : Eh) (n : Nat) : lstB E [.val (.ref n)] = bnd (bnd E[n]? kL) kLstB := by
  simp only [lstB, asS]
  rcases E[n]? with _ | o
  · rfl
  · cases o <;> rfl
theorem m_app (b : Nat) (E : Eh) (o : Rv) (rs : List Rv) : methop b E "append" o rs = appM b E o rs := rfl
theorem m_ext (b : Nat) (E : Eh) (o : Rv) (rs : List Rv) : methop b E "extend" o rs = extM b E o rs := rfl
theorem m_pop (b : Nat) (E : Eh) (o : Rv) (rs : List Rv) : methop b E "pop" o rs = popM E o rs := rfl
theorem m_spl (b : Nat) (E : Eh) (o : Rv) (rs : List Rv) : methop b E "split" o rs = splitM E o rs := rfl
theorem mayPut_own {b n : Nat} {d : D} (h : b ≤ n) : mayPut b n d = true := by
  simp only [mayPut, decide_eq_false (Nat.not_lt.mpr h), Bool.not_false, Bool.true_or]
theorem mayPut_low {b n : Nat} {d : D} (h : d.low 0 = true) : mayPut b n d = true := by
  simp only [mayPut, h, Bool.or_true]
def kApp (b : Nat) (E : Eh) (n : Nat) (d : D) (xs : List D) : Option (Rv × Eh) := grd (xs.length < sizeLine ∧ mayPut b n d = true) (some (.val .non, E.set n (.lst (xs ++ [d]))))
theorem kApp_e (b : Nat) (E : Eh) (n : Nat) (d : D) (xs : List D) : kApp b E n d xs = grd (xs.length < sizeLine ∧ mayPut b n d = true) (some (.val .non, E.set n (.lst (xs ++ [d])))) := rfl
theorem m_app_e (b n : Nat) (E : Eh) (d : D) : appM b E (.val (.ref n)) [.val d] = bnd (bnd E[n]? kL) (kApp b E n d) := by
  simp only [appM]
  rcases E[n]? with _ | o
  · rfl
  · cases o <;> rfl
def kExt (b : Nat) (E : Eh) (n : Nat) (ys xs : List D) : Option (Rv × Eh) := grd (xs.length + ys.length ≤ sizeLine ∧ mayPut b n (.tup ys) = true) (some (.val .non, E.set n (.lst (xs ++ ys))))
theorem kExt_e (b : Nat) (E : Eh) (n : Nat) (ys xs : List D) : kExt b E n ys xs = grd (xs.length + ys.length ≤ sizeLine ∧ mayPut b n (.tup ys) = true) (some (.val .non, E.set n (.lst (xs ++ ys)))) := rfl
theorem m_ext_n (b n : Nat) (E : Eh) (ys : List D) : extM b E (.val (.ref n)) [.new (.lst ys)] = bnd (bnd E[n]? kL) (kExt b E n ys) := by
  simp only [extM, asL]
  rcases E[n]? with _ | o
  · rfl
  · cases o <;> rfl
def kPop (E : Eh) (n : Nat) (xs : List D) : Option (Rv × Eh) := bnd xs.getLast? (fun d => some (.val d, E.set n (.lst xs.dropLast)))
theorem kPop_e (E : Eh) (n : Nat) (xs : List D) (d : D) : kPop E n (xs ++ [d]) = some (.val d, E.set n (.lst xs)) := by
  simp [kPop, bnd]
theorem m_pop_e (n : Nat) (E : Eh) : popM E (.val (.ref n)) [] = bnd (bnd E[n]? kL) (kPop E n) := by
  simp only [popM]
  rcases E[n]? with _ | o
  · rfl
  · cases o with
    | lst xs =>
      show _ = bnd xs.getLast? (fun d => some (Rv.val d, E.set n (O.lst xs.dropLast)))
      rw [List.getLast?_eq_getElem?]
      simp only []
      rcases xs[xs.length - 1]? with _ | d <;> rfl
    | dct _ => rfl
theorem r_app (E : Eh) (n : Nat) : recv "append" E (.val (.ref n)) = (bnd E[n]? kL).isSome := by rw [← asL_ref]; rfl
theorem r_ext (E : Eh) (n : Nat) : recv "extend" E (.val (.ref n)) = (bnd E[n]? kL).isSome := by rw [← asL_ref]; rfl
theorem r_pop (E : Eh) (n : Nat) : recv "pop" E (.val (.ref n)) = (bnd E[n]? kL).isSome := by rw [← asL_ref]; rfl
def kStL (b : Nat) (E : Eh) (n : Nat) (i : Int) (d : D) (xs : List D) : Option Eh := bnd (L2.ixN xs.length i) (fun j => grd (mayPut b n d = true) (some (E.set n (.lst (xs.set j d)))))
theorem kStL_e {b : Nat} {E : Eh} {n : Nat} {i : Int} {d : D} {xs : List D} : kStL b E n i d xs = bnd (L2.ixN xs.length i) (fun j => grd (mayPut b n d = true) (some (E.set n (.lst (xs.set j d))))) := rfl
theorem st_lst {b n : Nat} {E : Eh} {i : Int} {d : D} (h : (bnd E[n]? kL).isSome = true) : stoop b E (.val (.ref n)) (.val (.int i)) d = bnd (bnd E[n]? kL) (kStL b E n i d) := by
  simp only [stoop]
  rcases hE : E[n]? with _ | o
  · rfl
  · cases o with
    | lst xs =>
      show _ = bnd (L2.ixN xs.length i) _
      simp only []
      rcases L2.ixN xs.length i with _ | j <;> rfl
    | dct kvs => rw [hE] at h; exact absurd h (by simp [bnd, kL])
theorem r_spl (E : Eh) (x : Str) : recv "split" E (.val (.str x)) = true := rfl
def kLv (c : Bool) (b : Nat) (r : Rv) (E : Eh) : Rv × Eh := match c with
  | true => (r, E.take b)
  | false => leave b r E
theorem kLv_t (b : Nat) (r : Rv) (E : Eh) : kLv true b r E = (r, E.take b) := rfl
theorem leave_low (b : Nat) (r : Rv) (E : Eh) : leave b r E = kLv (r.low b) b r E := by
  by_cases h : r.low b = true
  · rw [h, kLv_t]
    exact if_pos h
  · rw [Bool.not_eq_true] at h
    rw [h]
    rfl
theorem leave_new (b : Nat) (xs : List D) (E : Eh) : leave b (.new (.lst xs)) E = kLv (D.lows b xs) b (.new (.lst xs)) E := leave_low b _ E
theorem leave_val (b : Nat) (d : D) (E : Eh) : leave b (.val d) E = kLv (d.low b) b (.val d) E := leave_low b _ E
end Ev
end EvStep
section EvStep2
namespace Ev
open PySem
def kFrz (p : Rv × Eh) : Option (Rv × Eh) := some (freeze p.1, p.2)
theorem kFrz_v (d : D) (E : Eh) : kFrz (.val d, E) = some (.val d, E) := rfl
theorem kFrz_l (xs : List D) (E : Eh) : kFrz (.new (.lst xs), E) = some (.val (.lst xs), E) := rfl
theorem kFrz_d (kvs : List (Key × D)) (E : Eh) : kFrz (.new (.dct kvs), E) = some (.val (.dct (kvs.map (·.1)) (kvs.map (·.2))), E) := rfl
def kIsi (T : String) (p : Rv × Eh) : Option (Rv × Eh) := (tyName p.2 p.1).map fun t => (.val (.bl (isiB t T)), p.2)
def kIsiT (T : String) (p : Rv × Eh) : Option (Bool × Eh) := (tyName p.2 p.1).map fun t => (isiB t T, p.2)
theorem kIsi_non (T : String) (E : Eh) : kIsi T (.val .non, E) = some (.val (.bl (isiB "NoneType" T)), E) := rfl
theorem kIsi_bl (T : String) (x : Bool) (E : Eh) : kIsi T (.val (.bl x), E) = some (.val (.bl (isiB "bool" T)), E) := rfl
theorem kIsi_int (T : String) (x : Int) (E : Eh) : kIsi T (.val (.int x), E) = some (.val (.bl (isiB "int" T)), E) := rfl
theorem kIsi_str (T : String) (x : Str) (E : Eh) : kIsi T (.val (.str x), E) = some (.val (.bl (isiB "str" T)), E) := rfl
theorem kIsi_tup (T : String) (x : List D) (E : Eh) : kIsi T (.val (.tup x), E) = some (.val (.bl (isiB "tuple" T)), E) := rfl
theorem kIsi_lst (T : String) (x : List D) (E : Eh) : kIsi T (.val (.lst x), E) = some (.val (.bl (isiB "list" T)), E) := rfl
theorem kIsiT_non (T : String) (E : Eh) : kIsiT T (.val .non, E) = some (isiB "NoneType" T, E) := rfl
theorem kIsiT_bl (T : String) (x : Bool) (E : Eh) : kIsiT T (.val (.bl x), E) = some (isiB "bool" T, E) := rfl
theorem kIsiT_int (T : String) (x : Int) (E : Eh) : kIsiT T (.val (.int x), E) = some (isiB "int" T, E) := rfl
theorem kIsiT_str (T : String) (x : Str) (E : Eh) : kIsiT T (.val (.str x), E) = some (isiB "str" T, E) := rfl
theorem kIsiT_tup (T : String) (x : List D) (E : Eh) : kIsiT T (.val (.tup x), E) = some (isiB "tuple" T, E) := rfl
theorem kIsiT_lst (T : String) (x : List D) (E : Eh) : kIsiT T (.val (.lst x), E) = some (isiB "list" T, E) := rfl
/-- d.get(k, x) of a dict that is written there -/
def lookR (kvs : List (Key × D)) (k : Key) (r : Rv) : Rv := match look kvs k with
  | some d => .val d
  | none => r
def kDgA (kvs : List (Key × D)) (kd : D) (rd : Rv) (E : Eh) : Option (Rv × Eh) := match kd.keyOf with
  | none => none
  | some key => some (lookR kvs key rd, E)
theorem kDgA_str (kvs : List (Key × D)) (x : Str) (rd : Rv) (E : Eh) : kDgA kvs (.str x) rd E = some (lookR kvs (.inr x) rd, E) := rfl
def kDg3 (kvs : List (Key × D)) (rk : Rv) (p : Rv × Eh) : Option (Rv × Eh) := match rk with
  | .val kd => kDgA kvs kd p.1 p.2
  | _ => none
theorem kDg3_e (kvs : List (Key × D)) (kd : D) (r : Rv) (E : Eh) : kDg3 kvs (.val kd) (r, E) = kDgA kvs kd r E := rfl
def kDg2 (cf : Cf) (b : Nat) (y : Ex) (σ : Sd) (kvs : List (Key × D)) (p : Rv × Eh) : Option (Rv × Eh) := bnd (ev cf b y σ p.2) (kDg3 kvs p.1)
theorem kDg2_e (cf : Cf) (b : Nat) (y : Ex) (σ : Sd) (kvs : List (Key × D)) (r : Rv) (E : Eh) : kDg2 cf b y σ kvs (r, E) = bnd (ev cf b y σ E) (kDg3 kvs r) := rfl
section
variable (cf : Cf) (wf b : Nat)
theorem s_frz (x : Ex) (σ : Sd) (E : Eh) : ev cf b (.frz x) σ E = bnd (ev cf b x σ E) kFrz := by
  rw [ev]; rcases ev cf b x σ E with _ | ⟨r, E1⟩ <;> rfl
theorem s_isi (x : Ex) (T : String) (σ : Sd) (E : Eh) : ev cf b (.isi x T) σ E = bnd (ev cf b x σ E) (kIsi T) := by
  rw [ev]; rcases ev cf b x σ E with _ | ⟨r, E1⟩ <;> rfl
theorem t_isi (x : Ex) (T : String) (σ : Sd) (E : Eh) : ts cf b (.isi x T) σ E = bnd (ev cf b x σ E) (kIsiT T) := by
  rw [ts]; rcases ev cf b x σ E with _ | ⟨r, E1⟩ <;> rfl
theorem s_dgetD (ks vs : Exs) (x y : Ex) (σ : Sd) (E E1 : Eh) (kvs : List (Key × D)) (h : ev cf b (.dct ks vs) σ E = some (.new (.dct kvs), E1)) : ev cf b (.dget (.dct ks vs) x y) σ E = bnd (ev cf b x σ E1) (kDg2 cf b y σ kvs) := by
  rw [ev, h]
  show (match ev cf b x σ E1 with | none => none | some (rk, E2) => _) = _
  rcases ev cf b x σ E1 with _ | ⟨rk, E2⟩
  · rfl
  · show (match ev cf b y σ E2 with | none => none | some (rd, E3) => _) = bnd (ev cf b y σ E2) (kDg3 kvs rk)
    rcases ev cf b y σ E2 with _ | ⟨rd, E3⟩
    · rfl
    · rcases rk with kd | o
      · show (match kd.keyOf with | none => none | some key => _) = kDgA kvs kd rd E3
        unfold kDgA
        rcases kd.keyOf with _ | key
        · rfl
        · show (match look kvs key with | some d => some (Rv.val d, E3) | none => some (rd, E3)) = some (lookR kvs key rd, E3)
          unfold lookR
          rcases look kvs key with _ | d <;> rfl
      · rfl
end
theorem a_starF {is : List Nat} {j : Nat} {ds : List D} {σ : Sd} {E : Eh} (h : is.length ≤ ds.length) : asgT (.starF is j) (.tup ds) σ E = some ((setAll σ is ds).set j (some (.lst (ds.drop is.length))), E) := by
  rw [asgT, if_pos h]
/-! lists that stand as values -/
theorem o_addll {E : Eh} {x y : List D} (h : x.length + y.length ≤ sizeLine) : binop E .Add (.val (.lst x)) (.val (.lst y)) = some (.new (.lst (x ++ y))) := if_pos h
theorem o_addln {E : Eh} {x y : List D} (h : x.length + y.length ≤ sizeLine) : binop E .Add (.val (.lst x)) (.new (.lst y)) = some (.new (.lst (x ++ y))) := if_pos h
theorem o_addnl {E : Eh} {x y : List D} (h : x.length + y.length ≤ sizeLine) : binop E .Add (.new (.lst x)) (.val (.lst y)) = some (.new (.lst (x ++ y))) := if_pos h
theorem o_addrl (E : Eh) (n : Nat) (y : List D) : binop E .Add (.val (.ref n)) (.val (.lst y)) = bnd (bnd E[n]? kL) (kAddN y) := by
  show (match asL E (.val (.ref n)), some y with | some xs, some ys => if xs.length + ys.length ≤ sizeLine then some (Rv.new (.lst (xs ++ ys))) else none | _, _ => none) = _
  rw [asL_ref]
  rcases E[n]? with _ | o
  · rfl
  · cases o <;> rfl
theorem o_multn {E : Eh} {xs : List D} {j : Int} (h : 0 ≤ j ∧ j ≤ 1000 ∧ xs.length ≤ 1000) : binop E .Mult (.new (.lst xs)) (.val (.int j)) = some (.new (.lst (List.replicate j.toNat xs).flatten)) := if_pos h
theorem n_lst {E : Eh} {x : D} {ds : List D} (h : (x.flat && ds.all D.flat) = true) : inRv E (.val x) (.val (.lst ds)) = some (ds.any fun y => D.eqf y x) := if_pos h
theorem n_new {E : Eh} {x : D} {ds : List D} (h : (x.flat && ds.all D.flat) = true) : inRv E (.val x) (.new (.lst ds)) = some (ds.any fun y => D.eqf y x) := if_pos h
theorem i_lst (E : Eh) (ds : List D) (i : Int) : idxop E (.val (.lst ds)) (.val (.int i)) = L2.atI ds i := rfl
theorem i_dctv (E : Eh) (ks : List Key) (vs : List D) (x : Str) : idxop E (.val (.dct ks vs)) (.val (.str x)) = look (ks.zip vs) (.inr x) := rfl
theorem l_lst (E : Eh) (ds : List D) (lo hi : Option Int) : slcop E (.val (.lst ds)) lo hi = some (.new (.lst (cut ds lo hi))) := rfl
theorem v_lst (E : Eh) (ds : List D) : revop E (.val (.lst ds)) = some (.new (.lst ds.reverse)) := rfl
theorem f_len_l (E : Eh) (ds : List D) : lenB E [.val (.lst ds)] = some (.val (.int ds.length)) := rfl
theorem f_tup_l (E : Eh) (ds : List D) : tupB E [.val (.lst ds)] = some (.val (.tup ds)) := rfl
theorem f_lst_l (E : Eh) (ds : List D) : lstB E [.val (.lst ds)] = some (.new (.lst ds)) := rfl
theorem asIt_lst (ds : List D) (E : Eh) : asIt (.val (.lst ds), E) = some (ds, none, E) := rfl
theorem asEn_lst (xs : List D) (E : Eh) : asEn (.val (.lst xs), E) = some (enumD 0 xs, none, E) := rfl
theorem m_ext_l (b n : Nat) (E : Eh) (ys : List D) : extM b E (.val (.ref n)) [.val (.lst ys)] = bnd (bnd E[n]? kL) (kExt b E n ys) := by
  unfold extM
  show (match E[n]? with | some (.lst xs) => _ | _ => none) = _
  rcases E[n]? with _ | o
  · rfl
  · cases o <;> rfl
theorem f_str (E : Eh) (rs : List Rv) : callb E "str" rs = strB E rs := rfl
theorem f_int (E : Eh) (rs : List Rv) : callb E "int" rs = intB E rs := rfl
theorem f_all (E : Eh) (rs : List Rv) : callb E "all" rs = allB E rs := rfl
theorem f_any (E : Eh) (rs : List Rv) : callb E "any" rs = anyB E rs := rfl
theorem f_srt (E : Eh) (rs : List Rv) : callb E "sorted" rs = sortB E rs := rfl
theorem f_str_i {E : Eh} {i : Int} (h : i.natAbs.log2 < 1920) : strB E [.val (.int i)] = some (.val (.str (toString i : String))) := if_pos h
theorem f_str_s (E : Eh) (x : Str) : strB E [.val (.str x)] = some (.val (.str x)) := rfl
theorem f_str_n (E : Eh) : strB E [.val .non] = some (.val (.str "None")) := rfl
theorem f_int_i (E : Eh) (i : Int) : intB E [.val (.int i)] = some (.val (.int i)) := rfl
theorem f_int_b (E : Eh) (c : Bool) : intB E [.val (.bl c)] = some (.val (.int (if c then 1 else 0))) := rfl
theorem m_join (b : Nat) (E : Eh) (o : Rv) (rs : List Rv) : methop b E "join" o rs = joinM E o rs := rfl
theorem r_join (E : Eh) (x : Str) : recv "join" E (.val (.str x)) = true := rfl
theorem mapM_asStr : ∀ ys : List Str, (ys.map D.str).mapM D.asStr = some ys
  | [] => rfl
  | y :: ys => by rw [List.map_cons, List.mapM_cons, mapM_asStr ys]; rfl
/-- how long a joined text is at most -/
def joinLen (a : Str) (ys : List Str) : Nat := (ys.map (·.length)).sum + ys.length * a.length
theorem join_n {E : Eh} {a : Str} {ds : List D} {ys : List Str} (hd : ds = ys.map D.str) (h : joinLen a ys ≤ 16777216) : joinM E (.val (.str a)) [.new (.lst ds)] = some (.val (.str (Txt.join a ys)), E) := by
  subst hd
  simp only [joinM, asS, mapM_asStr]
  exact if_pos h
theorem join_l {E : Eh} {a : Str} {ds : List D} {ys : List Str} (hd : ds = ys.map D.str) (h : joinLen a ys ≤ 16777216) : joinM E (.val (.str a)) [.val (.lst ds)] = some (.val (.str (Txt.join a ys)), E) := by
  subst hd
  simp only [joinM, asS, mapM_asStr]
  exact if_pos h
theorem join_t {E : Eh} {a : Str} {ds : List D} {ys : List Str} (hd : ds = ys.map D.str) (h : joinLen a ys ≤ 16777216) : joinM E (.val (.str a)) [.val (.tup ds)] = some (.val (.str (Txt.join a ys)), E) := by
  subst hd
  simp only [joinM, asS, mapM_asStr]
  exact if_pos h
theorem sort_n {E : Eh} {ys : List Str} (h : ys.length < 64) : sortB E [.new (.lst (ys.map .str))] = some (.new (.lst ((sortS ys).map .str))) := by
  simp only [sortB, asL, mapM_asStr, h, if_true]
theorem sort_l {E : Eh} {ys : List Str} (h : ys.length < 64) : sortB E [.val (.lst (ys.map .str))] = some (.new (.lst ((sortS ys).map .str))) := by
  simp only [sortB, asL, mapM_asStr, h, if_true]
theorem toP_lst (E : Eh) (k : Nat) (xs : List D) : toP E (k + 1) (.lst xs) = (xs.mapM (toP E k)).map .list := by simp only [toP]
/-- a list of texts and the list of none -/
theorem eqRv_lstrs {E : Eh} {xs : List Str} (ho : stsOk xs = true) : eqRv E (.val (.lst (xs.map .str))) (.new (.lst [])) = some xs.isEmpty := by
  obtain ⟨h1, h2⟩ := stsOk_can xs ho
  have h3 : SeqAt.shaped (PyData.list (xs.map .str)) = true := by
    simp only [SeqAt.shaped, PyData.canLay0, h1, PyData.depth, h2]
    rfl
  have e1 : toPr E (.val (.lst (xs.map .str))) = some (.list (xs.map .str)) := by
    rw [toPr, show (80 : Nat) = 79 + 1 from rfl, toP_lst, mapM_str E 78]
    rfl
  simp only [eqRv, e1, toPr_nil, h3]
  simp [SeqAt.shaped, PyData.canLay0, PyData.canLayAll0, PyData.depth, PyData.depthAll, PyData.eqv, eqvAll_nil, List.isEmpty_map]
theorem eqRv_lints {E : Eh} {xs : List Int} : eqRv E (.val (.lst (xs.map .int))) (.new (.lst [])) = some xs.isEmpty := by
  obtain ⟨h1, h2⟩ := ints_can xs
  have h3 : SeqAt.shaped (PyData.list (xs.map .int)) = true := by
    simp only [SeqAt.shaped, PyData.canLay0, h1, PyData.depth, h2]
    rfl
  have e1 : toPr E (.val (.lst (xs.map .int))) = some (.list (xs.map .int)) := by
    rw [toPr, show (80 : Nat) = 79 + 1 from rfl, toP_lst, mapM_int E 78]
    rfl
  simp only [eqRv, e1, toPr_nil, h3]
  simp [SeqAt.shaped, PyData.canLay0, PyData.canLayAll0, PyData.depth, PyData.depthAll, PyData.eqv, eqvAll_nil, List.isEmpty_map]
end Ev
end EvStep2
section EvStep3
namespace Ev
open PySem
section
variable (cf : Cf) (wf b : Nat)
/-! sorted(set(x)), len(set(x)) -/
def kSset (p : Rv × Eh) : Option (Rv × Eh) := match asS p.2 p.1 with
  | none => none
  | some (xs, _) => match xs.mapM D.asStr with
    | none => none
    | some ys => if ys.length < 4000 ∧ (once ys).length < 64 then some (.new (.lst ((sortS (once ys)).map .str)), p.2) else none
def kLset (p : Rv × Eh) : Option (Rv × Eh) := match asS p.2 p.1 with
  | none => none
  | some (xs, _) => match xs.mapM D.asStr with
    | none => none
    | some ys => if ys.length < 4000 then some (.val (.int (once ys).length), p.2) else none
theorem s_sset (x : Ex) (σ : Sd) (E : Eh) : ev cf b (.sset x) σ E = bnd (ev cf b x σ E) kSset := by
  rw [ev]; unfold bnd kSset
  rcases ev cf b x σ E with _ | ⟨r, E1⟩ <;> rfl
theorem s_lset (x : Ex) (σ : Sd) (E : Eh) : ev cf b (.lset x) σ E = bnd (ev cf b x σ E) kLset := by
  rw [ev]; unfold bnd kLset
  rcases ev cf b x σ E with _ | ⟨r, E1⟩ <;> rfl
/-! displays with computed keys -/
def kPx2 (k : Key) (d : D) (p : List (Key × D) × Eh) : Option (List (Key × D) × Eh) := some ((k, d) :: p.1, p.2)
theorem kPx2_e (k : Key) (d : D) (ds : List (Key × D)) (E : Eh) : kPx2 k d (ds, E) = some ((k, d) :: ds, E) := rfl
def kPx1 (k : Key) (r : Exs) (σ : Sd) (p : Rv × Eh) : Option (List (Key × D) × Eh) := bnd (evx cf b r σ (reg p.1 p.2).2) (kPx2 k (reg p.1 p.2).1)
theorem kPx1_v (k : Key) (r : Exs) (σ : Sd) (d : D) (E : Eh) : kPx1 cf b k r σ (.val d, E) = bnd (evx cf b r σ E) (kPx2 k d) := rfl
theorem kPx1_n (k : Key) (r : Exs) (σ : Sd) (o : O) (E : Eh) : kPx1 cf b k r σ (.new o, E) = bnd (evx cf b r σ (E ++ [o])) (kPx2 k (.ref E.length)) := rfl
def kPx (v : Ex) (r : Exs) (σ : Sd) (p : Rv × Eh) : Option (List (Key × D) × Eh) := match p.1 with
  | .val kd => match kd.keyOf with
    | some k => bnd (ev cf b v σ p.2) (kPx1 cf b k r σ)
    | none => none
  | _ => none
theorem kPx_s (v : Ex) (r : Exs) (σ : Sd) (x : Str) (E : Eh) : kPx cf b v r σ (.val (.str x), E) = bnd (ev cf b v σ E) (kPx1 cf b (.inr x) r σ) := rfl
theorem kPx_i (v : Ex) (r : Exs) (σ : Sd) (i : Int) (E : Eh) : kPx cf b v r σ (.val (.int i), E) = bnd (ev cf b v σ E) (kPx1 cf b (.inl i) r σ) := rfl
theorem ex_nil (σ : Sd) (E : Eh) : evx cf b .nil σ E = some ([], E) := by rw [evx]
theorem ex_cons (k v : Ex) (r : Exs) (σ : Sd) (E : Eh) : evx cf b (.cons k (.cons v r)) σ E = bnd (ev cf b k σ E) (kPx cf b v r σ) := by
  rw [evx]
  rcases ev cf b k σ E with _ | ⟨w, E0⟩
  · rfl
  · cases w with
    | new o => rfl
    | val kd =>
      rw [bnd_some]
      show (match kd.keyOf with | some key => _ | none => none) = (match kd.keyOf with | some k => _ | none => none)
      rcases kd.keyOf with _ | key
      · rfl
      · simp only []
        rcases ev cf b v σ E0 with _ | ⟨r1, E1⟩
        · rfl
        · rw [bnd_some]
          show (match evx cf b r σ (reg r1 E1).2 with | none => none | some (kvs, E2) => _) = bnd (evx cf b r σ (reg r1 E1).2) _
          rcases evx cf b r σ (reg r1 E1).2 with _ | ⟨ds, E2⟩ <;> rfl
theorem s_dcx (es : Exs) (σ : Sd) (E : Eh) : ev cf b (.dcx es) σ E = bnd (evx cf b es σ E) kDct := by
  rw [ev]; unfold bnd
  rcases evx cf b es σ E with _ | ⟨ds, E1⟩ <;> rfl
/-! dict comprehensions -/
def kvF (k v : Ex) (σ : Sd) (E : Eh) : Option ((Key × D) × Eh) := kvR (ev cf b k σ E) (fun E => ev cf b v σ E)
def kNewD (p : List (Key × D) × Eh) : Option (Rv × Eh) := some (.new (.dct p.1), p.2)
theorem kNewD_e (kvs : List (Key × D)) (E : Eh) : kNewD (kvs, E) = some (.new (.dct kvs), E) := rfl
def kDcm (k v : Ex) (tg : Tg) (c : Exo) (own : List (Str × Nat)) (σ : Sd) (p : ItR) : Option (Rv × Eh) :=
  bnd (dcL (asgT tg) (cndF cf b c) (kvF cf b k v) (chk p.2.1) (wipeD σ (own.map (·.2))) p.1 [] p.2.2) kNewD
theorem kDcm_e (k v : Ex) (tg : Tg) (c : Exo) (own : List (Str × Nat)) (σ : Sd) (ds : List D) (src : Option (Nat × List D)) (E : Eh) : kDcm cf b k v tg c own σ (ds, src, E) =
  bnd (dcL (asgT tg) (cndF cf b c) (kvF cf b k v) (chk src) (wipeD σ (own.map (·.2))) ds [] E) kNewD := rfl
theorem s_dcm (k v : Ex) (tg : Tg) (it : It) (c : Exo) (own : List (Str × Nat)) (σ : Sd) (E : Eh) : ev cf b (.dcm k v tg it c own) σ E = bnd (evi cf b it σ E) (kDcm cf b k v tg c own σ) := by
  rw [ev]; unfold bnd
  rcases evi cf b it σ E with _ | ⟨ds, src, E1⟩
  · rfl
  · unfold kDcm bnd kvF cndF
    simp only []
    generalize dcL (asgT tg) (fun σ E => evc cf b c σ E) (fun σ E => kvR (ev cf b k σ E) fun E => ev cf b v σ E) (chk src) (wipeD σ (own.map (·.2))) ds [] E1 = z
    rcases z with _ | ⟨xs, E2⟩ <;> rfl
end
/-! dicts -/
theorem f_dic (E : Eh) (rs : List Rv) : callb E "dict" rs = dicB E rs := rfl
theorem m_upd (b : Nat) (E : Eh) (o : Rv) (rs : List Rv) : methop b E "update" o rs = updM b E o rs := rfl
theorem r_upd (E : Eh) (n : Nat) : recv "update" E (.val (.ref n)) = (bnd E[n]? kK).isSome := by
  show (match E[n]? with | some (.dct _) => true | _ => false) = _
  rcases E[n]? with _ | o
  · rfl
  · cases o <;> rfl
def kUpd (b : Nat) (E : Eh) (n : Nat) (ms kvs : List (Key × D)) : Option (Rv × Eh) := grd (kvs.length + ms.length ≤ sizeLine ∧ mayPut b n (.tup (ms.map (·.2))) = true) (some (.val .non, E.set n (.dct (putAll kvs ms))))
theorem kUpd_e (b : Nat) (E : Eh) (n : Nat) (ms kvs : List (Key × D)) : kUpd b E n ms kvs = grd (kvs.length + ms.length ≤ sizeLine ∧ mayPut b n (.tup (ms.map (·.2))) = true) (some (.val .non, E.set n (.dct (putAll kvs ms)))) := rfl
theorem m_upd_n (b n : Nat) (E : Eh) (ms : List (Key × D)) : updM b E (.val (.ref n)) [.new (.dct ms)] = bnd (bnd E[n]? kK) (kUpd b E n ms) := by
  simp only [updM]
  rcases E[n]? with _ | o
  · rfl
  · cases o <;> rfl
def kStK (b : Nat) (E : Eh) (n : Nat) (k : Key) (d : D) (kvs : List (Key × D)) : Option Eh := grd (mayPut b n d = true ∧ kvs.length < sizeLine) (some (E.set n (.dct (put kvs k d))))
theorem kStK_e (b : Nat) (E : Eh) (n : Nat) (k : Key) (d : D) (kvs : List (Key × D)) : kStK b E n k d kvs = grd (mayPut b n d = true ∧ kvs.length < sizeLine) (some (E.set n (.dct (put kvs k d)))) := rfl
theorem st_dct {b n : Nat} {E : Eh} {x : Str} {d : D} (h : (bnd E[n]? kK).isSome = true) : stoop b E (.val (.ref n)) (.val (.str x)) d = bnd (bnd E[n]? kK) (kStK b E n (.inr x) d) := by
  simp only [stoop]
  rcases hE : E[n]? with _ | o
  · rfl
  · cases o with
    | lst xs => rw [hE] at h; exact absurd h (by simp [bnd, kK])
    | dct kvs => rfl
def kHas (x : Str) (kvs : List (Key × D)) : Option Bool := some (look kvs (.inr x)).isSome
theorem kHas_e (x : Str) (kvs : List (Key × D)) : kHas x kvs = some (look kvs (.inr x)).isSome := rfl
theorem n_dref {E : Eh} {n : Nat} {x : Str} (h : (bnd E[n]? kK).isSome = true) : inRv E (.val (.str x)) (.val (.ref n)) = bnd (bnd E[n]? kK) (kHas x) := by
  simp only [inRv, asS, asK]
  rcases hE : E[n]? with _ | o
  · rfl
  · cases o with
    | lst xs => rw [hE] at h; exact absurd h (by simp [bnd, kK])
    | dct kvs => rfl
theorem n_dctv (E : Eh) (ks : List Key) (vs : List D) (x : Str) : inRv E (.val (.str x)) (.val (.dct ks vs)) = some (look (ks.zip vs) (.inr x)).isSome := rfl
theorem sset_f {E : Eh} {r : Rv} {ys : List Str} {n : Option Nat} (h : asS E r = some (ys.map .str, n)) (h1 : ys.length < 4000) (h2 : (once ys).length < 64) : kSset (r, E) = some (.new (.lst ((sortS (once ys)).map .str)), E) := by
  simp only [kSset, h, mapM_asStr, h1, h2, and_self, if_true]
theorem lset_f {E : Eh} {r : Rv} {ys : List Str} {n : Option Nat} (h : asS E r = some (ys.map .str, n)) (h1 : ys.length < 4000) : kLset (r, E) = some (.val (.int (once ys).length), E) := by
  simp only [kLset, h, mapM_asStr, h1, if_true]
theorem mapM_pair {α : Type} (f : α → Str) (g : α → D) : ∀ as : List α, (as.map fun a => D.tup [.str (f a), g a]).mapM D.asPair = some (as.map fun a => (Sum.inr (f a), g a))
  | [] => rfl
  | a :: as => by
    rw [List.map_cons, List.mapM_cons, mapM_pair f g as]
    rfl
theorem dic_f {α : Type} {E : Eh} {r : Rv} {as : List α} (f : α → Str) (g : α → D) (h : asL E r = some (as.map fun a => D.tup [.str (f a), g a])) : dicB E [r] = some (.new (.dct (putAll [] (as.map fun a => (Sum.inr (f a), g a))))) := by
  simp only [dicB, h, mapM_pair]
theorem mapM_keyS {α : Type} (f : α → Str) (g : α → D) : ∀ as : List α, (as.map fun a => ((Sum.inr (f a) : Key), g a)).mapM (fun p => keyS p.1) = some (as.map f)
  | [] => rfl
  | a :: as => by
    rw [List.map_cons, List.mapM_cons, mapM_keyS f g as]
    rfl
theorem sort_d {α : Type} {E : Eh} {n : Nat} {as : List α} (f : α → Str) (g : α → D) (h : E[n]? = some (.dct (as.map fun a => (Sum.inr (f a), g a)))) (hl : as.length < 64) : sortB E [.val (.ref n)] = some (.new (.lst ((sortS (as.map f)).map .str))) := by
  simp only [sortB, asL, asK, h, mapM_keyS, List.length_map, hl, if_true]
/-- what a dict comprehension makes that does nothing to the heap -/
theorem dcL_map {α : Type} (tg : D → Sd → Eh → Option (Sd × Eh)) (tst : Sd → Eh → Option (Bool × Eh)) (elt : Sd → Eh → Option ((Key × D) × Eh)) (σ : Sd) (E : Eh) (f : α → D) (sg : α → Sd) (g : α → Key × D) :
    ∀ (as : List α) (acc : List (Key × D)), acc.length + as.length ≤ 16777216 → (∀ a ∈ as, tg (f a) σ E = some (sg a, E)) → (∀ a ∈ as, tst (sg a) E = some (true, E)) → (∀ a ∈ as, elt (sg a) E = some (g a, E)) →
    dcL tg tst elt (chk none) σ (as.map f) acc E = some (putAll acc (as.map g), E)
  | [], acc, _, _, _, _ => by rw [List.map_nil, dcL, if_pos (show chk none E = true from rfl)]; rfl
  | a :: as, acc, hl, h1, h2, h3 => by
    simp only [List.length_cons] at hl
    have hp : (put acc (g a).1 (g a).2).length ≤ acc.length + 1 := by
      unfold put; split
      · rw [List.length_map]; omega
      · rw [List.length_append]; simp
    rw [List.map_cons, dcL, if_pos (show chk none E = true from rfl), h1 a (List.mem_cons_self ..)]
    simp only [h2 a (List.mem_cons_self ..), h3 a (List.mem_cons_self ..)]
    rw [if_pos (by rw [sizeLine_eq]; omega), dcL_map tg tst elt σ E f sg g as _ (by omega) (fun x hx => h1 x (List.mem_cons_of_mem _ hx)) (fun x hx => h2 x (List.mem_cons_of_mem _ hx)) (fun x hx => h3 x (List.mem_cons_of_mem _ hx))]
    rfl
end Ev
end EvStep3
section EvGen
/-! what the makers of stories have in common: the feed, the pool, comprehensions that draw -/
namespace Ev
open PySem
/-- E' is E but for what lies at f and l -/
def Fr (f l : Nat) (E E' : Eh) : Prop := E'.length = E.length ∧ ∀ i, i ≠ f → i ≠ l → E'[i]? = E[i]?
theorem Fr.refl (f l : Nat) (E : Eh) : Fr f l E E := ⟨rfl, fun _ _ _ => rfl⟩
theorem Fr.trans {f l : Nat} {E E1 E2 : Eh} (h : Fr f l E E1) (g : Fr f l E1 E2) : Fr f l E E2 :=
  ⟨g.1.trans h.1, fun i a b => (g.2 i a b).trans (h.2 i a b)⟩
theorem Fr.wide {f l : Nat} {E E1 : Eh} (h : Fr f f E E1) : Fr f l E E1 := ⟨h.1, fun i a _ => h.2 i a a⟩
theorem Fr.set (f l : Nat) (E : Eh) (o : O) : Fr f l E (E.set f o) :=
  ⟨List.length_set .., fun i a _ => List.getElem?_set_ne (Ne.symm a)⟩
theorem take_fr {f l : Nat} {E E' : Eh} (h : Fr f l E E') : E'.take E.length = E' := List.take_of_length_le (by rw [h.1]; exact Nat.le_refl _)
theorem ltE {E : Eh} {n : Nat} {o : O} (h : E[n]? = some o) : n < E.length := (List.getElem?_eq_some_iff.mp h).1
theorem getE_app {E : Eh} {n : Nat} {o : O} (h : E[n]? = some o) (os : List O) : (E ++ os)[n]? = some o := by
  rw [List.getElem?_append_left (ltE h)]
  exact h
theorem getE_take {E : Eh} {n b : Nat} {o : O} (h : E[n]? = some o) (hb : n < b) : (E.take b)[n]? = some o := by
  rw [List.getElem?_take_of_lt hb]
  exact h
/-- the feed lies at f, at most c draws were made -/
def Fd (f c : Nat) (E : Eh) : Prop := ∃ (ns : List Int) (p r n : Int), E[f]? = some (.lst [.lst (ns.map .int), .int p, .int r, .int n]) ∧ 0 ≤ n ∧ n ≤ c ∧ 0 ≤ p
theorem Fd.lt {f c : Nat} {E : Eh} (h : Fd f c E) : f < E.length := by
  obtain ⟨ns, p, r, n, h1, _⟩ := h
  exact ltE h1
theorem Fd.app {f c : Nat} {E : Eh} (h : Fd f c E) (os : List O) : Fd f c (E ++ os) := by
  obtain ⟨ns, p, r, n, h1, h3⟩ := h
  exact ⟨ns, p, r, n, getE_app h1 os, h3⟩
theorem Fd.take {f c b : Nat} {E : Eh} (h : Fd f c E) (hf : f < b) : Fd f c (E.take b) := by
  obtain ⟨ns, p, r, n, h1, h3⟩ := h
  exact ⟨ns, p, r, n, getE_take h1 hf, h3⟩
theorem Fd.le {f c c' : Nat} {E : Eh} (h : Fd f c E) (hc : c ≤ c') : Fd f c' E := by
  obtain ⟨ns, p, r, n, h2, h3, h4, h5⟩ := h
  exact ⟨ns, p, r, n, h2, h3, by omega, h5⟩
theorem Fd.set {f c n : Nat} {E : Eh} (h : Fd f c E) (o : O) (hf : n ≠ f) : Fd f c (E.set n o) := by
  obtain ⟨ns, p, r, m, h2, h3⟩ := h
  exact ⟨ns, p, r, m, by rw [List.getElem?_set_ne hf]; exact h2, h3⟩
theorem Fd.put {f c : Nat} {E : Eh} {ns : List Int} {p r n : Int} (hf : f < E.length) (h3 : 0 ≤ n) (h4 : n ≤ c) (h5 : 0 ≤ p) :
    Fd f c (E.set f (.lst [.lst (ns.map .int), .int p, .int r, .int n])) :=
  ⟨ns, p, r, n, by rw [List.getElem?_set_self hf], h3, h4, h5⟩
theorem fmod_lt' (a : Int) {m : Int} (h : 0 < m) : 0 ≤ a.fmod m ∧ a.fmod m < m :=
  ⟨Int.fmod_nonneg_of_pos a h, Int.fmod_lt_of_pos a h⟩
theorem atI_mem {α : Type} (xs : List α) (i : Int) (h0 : 0 ≤ i) (h1 : i < xs.length) : ∃ x, L2.atI xs i = some x ∧ x ∈ xs := by
  obtain ⟨n, rfl⟩ := Int.eq_ofNat_of_zero_le h0
  have hn : n < xs.length := by omega
  refine ⟨xs[n], ?_, List.getElem_mem hn⟩
  show L2.atI xs (n : Int) = _
  rw [atI_nat, List.getElem?_eq_getElem hn]
/-- a good name -/
def gd (x : Str) : Bool := PyData.strOk x && decide ((reprText x).length ≤ 20) && decide (x.length ≤ 20)
def goodL (xs : List Str) : Prop := xs.length < 60 ∧ ∀ x ∈ xs, gd x = true
theorem goodL.ok {xs : List Str} (h : goodL xs) : stsOk xs = true := by
  unfold stsOk
  rw [List.all_eq_true]
  intro x hx
  have := h.2 x hx
  simp only [gd, Bool.and_eq_true] at this
  exact this.1.1
/-- where feed and pool lie, and what the pool holds -/
structure Wp where
  f : Nat
  l : Nat
  ks : List Key
  vs : List D
  sc : List Str
  nu : List Str
  pl : List Str
  fi : List Str
def Wp.q (w : Wp) : D := .dct w.ks w.vs
def Wp.at (w : Wp) (x : Str) : Option D := look (w.ks.zip w.vs) (.inr x)
structure Wp.ok (w : Wp) : Prop where
  a : w.at "scene" = some (.lst (w.sc.map .str))
  b : w.at "number" = some (.lst (w.nu.map .str))
  c : w.at "place" = some (.lst (w.pl.map .str))
  d : w.at "figure" = some (.lst (w.fi.map .str))
  l : w.at "left" = some (.ref w.l)
  ga : goodL w.sc
  gb : goodL w.nu
  gc : goodL w.pl
  gdd : goodL w.fi
  ne : w.f ≠ w.l
theorem q_at (w : Wp) (E : Eh) (x : Str) : idxop E (.val w.q) (.val (.str x)) = w.at x := rfl
structure St (w : Wp) (c : Nat) (E : Eh) : Prop where
  fd : Fd w.f c E
  l : ∃ x : Int, E[w.l]? = some (.lst [.int x])
theorem St.draw {w : Wp} (hw : w.ok) {c c' : Nat} {E E' : Eh} (h : St w c E) (g : Fr w.f w.f E E') (hf : Fd w.f c' E') : St w c' E' :=
  ⟨hf, by obtain ⟨x, hx⟩ := h.l; exact ⟨x, by rw [g.2 _ (Ne.symm hw.ne) (Ne.symm hw.ne)]; exact hx⟩⟩
theorem St.le {w : Wp} {c c' : Nat} {E : Eh} (h : St w c E) (hc : c ≤ c') : St w c' E := ⟨h.fd.le hc, h.l⟩
theorem St.app {w : Wp} {c : Nat} {E : Eh} (h : St w c E) (os : List O) : St w c (E ++ os) := ⟨h.fd.app os, by obtain ⟨x, hx⟩ := h.l; exact ⟨x, getE_app hx os⟩⟩
theorem rangeD_length (i : Int) : ∀ n : Nat, (rangeD i n).length = n := by
  intro n
  induction n generalizing i with
  | zero => rfl
  | succ n ih => rw [rangeD, List.length_cons, ih]
/-- a comprehension that draws, by any target that leaves the heap -/
theorem lcL_gen (w : Wp) (cf : Cf) (b J B : Nat) (tg : Tg) (e : Ex) (cn : Exo) (σ : Sd) (sg : D → Sd) (P : D → Prop) :
    ∀ (ds acc : List D) (c : Nat) (E : Eh), St w c E → c + J * ds.length ≤ B → acc.length + ds.length ≤ 16777216 →
    (∀ (d : D) (E1 : Eh), d ∈ ds → asgT tg d σ E1 = some (sg d, E1)) →
    (∀ (d : D) (c' : Nat) (E1 : Eh), d ∈ ds → St w c' E1 → c' + J ≤ B → ∃ (t : Bool) (E2 : Eh), cndF cf b cn (sg d) E1 = some (t, E2) ∧
      (t = false → St w (c' + J) E2 ∧ Fr w.f w.l E1 E2) ∧
      (t = true → ∃ (y : D) (E3 : Eh), eltF cf b e (sg d) E2 = some (y, E3) ∧ P y ∧ St w (c' + J) E3 ∧ Fr w.f w.l E1 E3)) →
    ∃ (ys : List D) (E' : Eh), lcL (asgT tg) (cndF cf b cn) (eltF cf b e) (chk none) σ ds acc E = some (acc ++ ys, E') ∧ (∀ y ∈ ys, P y) ∧ ys.length ≤ ds.length ∧ St w (c + J * ds.length) E' ∧ Fr w.f w.l E E'
  | [], acc, c, E, hS, _, _, _, _ => by
    refine ⟨[], E, ?_, by simp, Nat.le_refl _, hS, Fr.refl ..⟩
    rw [lcL, if_pos (show chk none E = true from rfl), List.append_nil]
  | d :: ds, acc, c, E, hS, hc, hl, hsg, hst => by
    simp only [List.length_cons, Nat.mul_succ] at hc hl ⊢
    obtain ⟨t, E2, e2, hf, ht⟩ := hst d c E (List.mem_cons_self ..) hS (by omega)
    rw [lcL, if_pos (show chk none E = true from rfl), hsg d E (List.mem_cons_self ..)]
    simp only [e2]
    cases t with
    | false =>
      obtain ⟨S2, F2⟩ := hf rfl
      obtain ⟨ys, E', e', hP, hlen, S', F'⟩ := lcL_gen w cf b J B tg e cn σ sg P ds acc (c + J) E2 S2 (by omega) (by omega) (fun d' E1 hd => hsg d' E1 (List.mem_cons_of_mem _ hd))
        (fun d' c' E1 hd h1 h2 => hst d' c' E1 (List.mem_cons_of_mem _ hd) h1 h2)
      exact ⟨ys, E', e', hP, by omega, by rw [show c + (J * ds.length + J) = c + J + J * ds.length by omega]; exact S', F2.trans F'⟩
    | true =>
      obtain ⟨y, E3, e3, hy, S3, F3⟩ := ht rfl
      obtain ⟨ys, E', e', hP, hlen, S', F'⟩ := lcL_gen w cf b J B tg e cn σ sg P ds (acc ++ [y]) (c + J) E3 S3 (by omega) (by rw [List.length_append, List.length_singleton]; omega) (fun d' E1 hd => hsg d' E1 (List.mem_cons_of_mem _ hd))
        (fun d' c' E1 hd h1 h2 => hst d' c' E1 (List.mem_cons_of_mem _ hd) h1 h2)
      refine ⟨y :: ys, E', ?_, ?_, by simp only [List.length_cons]; omega, by rw [show c + (J * ds.length + J) = c + J + J * ds.length by omega]; exact S', F3.trans F'⟩
      · simp only [e3]
        rw [if_pos (by rw [sizeLine_eq]; omega), e', List.append_assoc]
        rfl
      · intro z hz
        rcases List.mem_cons.mp hz with rfl | hz
        · exact hy
        · exact hP z hz
/-- comprehensions that do nothing to the heap -/
theorem lcL_map {α : Type} (tg : D → Sd → Eh → Option (Sd × Eh)) (tst : Sd → Eh → Option (Bool × Eh)) (elt : Sd → Eh → Option (D × Eh)) (src : Option (Nat × List D)) (σ : Sd) (E : Eh) (hch : chk src E = true) (f : α → D) (sg : α → Sd) (g : α → D) :
    ∀ (as : List α) (acc : List D), acc.length + as.length ≤ 16777216 → (∀ a ∈ as, tg (f a) σ E = some (sg a, E)) → (∀ a ∈ as, tst (sg a) E = some (true, E)) → (∀ a ∈ as, elt (sg a) E = some (g a, E)) →
    lcL tg tst elt (chk src) σ (as.map f) acc E = some (acc ++ as.map g, E)
  | [], acc, _, _, _, _ => by rw [List.map_nil, lcL, hch, if_pos rfl, List.map_nil, List.append_nil]
  | a :: as, acc, hl, h1, h2, h3 => by
    simp only [List.length_cons] at hl
    rw [List.map_cons, lcL, hch, if_pos rfl, h1 a (List.mem_cons_self ..)]
    simp only [h2 a (List.mem_cons_self ..), h3 a (List.mem_cons_self ..)]
    rw [if_pos (by rw [sizeLine_eq]; omega), lcL_map tg tst elt src σ E hch f sg g as (acc ++ [g a]) (by rw [List.length_append, List.length_singleton]; omega) (fun x hx => h1 x (List.mem_cons_of_mem _ hx)) (fun x hx => h2 x (List.mem_cons_of_mem _ hx)) (fun x hx => h3 x (List.mem_cons_of_mem _ hx)), List.append_assoc]
    rfl
theorem lcL_filter {α : Type} (tg : D → Sd → Eh → Option (Sd × Eh)) (tst : Sd → Eh → Option (Bool × Eh)) (elt : Sd → Eh → Option (D × Eh)) (src : Option (Nat × List D)) (σ : Sd) (E : Eh) (hch : chk src E = true) (f : α → D) (sg : α → Sd) (p : α → Bool) (g : α → D) :
    ∀ (as : List α) (acc : List D), acc.length + as.length ≤ 16777216 → (∀ a ∈ as, tg (f a) σ E = some (sg a, E)) → (∀ a ∈ as, tst (sg a) E = some (p a, E)) → (∀ a ∈ as, p a = true → elt (sg a) E = some (g a, E)) →
    lcL tg tst elt (chk src) σ (as.map f) acc E = some (acc ++ (as.filter p).map g, E)
  | [], acc, _, _, _, _ => by rw [List.map_nil, lcL, hch, if_pos rfl, List.filter_nil, List.map_nil, List.append_nil]
  | a :: as, acc, hl, h1, h2, h3 => by
    simp only [List.length_cons] at hl
    rw [List.map_cons, lcL, hch, if_pos rfl, h1 a (List.mem_cons_self ..)]
    cases hp : p a with
    | false =>
      simp only [h2 a (List.mem_cons_self ..), hp]
      rw [lcL_filter tg tst elt src σ E hch f sg p g as acc (by omega) (fun x hx => h1 x (List.mem_cons_of_mem _ hx)) (fun x hx => h2 x (List.mem_cons_of_mem _ hx)) (fun x hx => h3 x (List.mem_cons_of_mem _ hx)), List.filter_cons_of_neg (by simp [hp])]
    | true =>
      simp only [h2 a (List.mem_cons_self ..), hp, h3 a (List.mem_cons_self ..) hp]
      rw [if_pos (by rw [sizeLine_eq]; omega), lcL_filter tg tst elt src σ E hch f sg p g as (acc ++ [g a]) (by rw [List.length_append, List.length_singleton]; omega) (fun x hx => h1 x (List.mem_cons_of_mem _ hx)) (fun x hx => h2 x (List.mem_cons_of_mem _ hx)) (fun x hx => h3 x (List.mem_cons_of_mem _ hx)), List.filter_cons_of_pos hp, List.map_cons, List.append_assoc]
      rfl
theorem lc2L_map {α : Type} (tg : D → Sd → Eh → Option (Sd × Eh)) (inner : Sd → List D → Eh → Option (List D × Eh)) (σ : Sd) (E : Eh) (f : α → D) (sg : α → Sd) (g : α → List D) :
    ∀ (as : List α) (acc : List D), (∀ a ∈ as, tg (f a) σ E = some (sg a, E)) → (∀ a ∈ as, ∀ acc : List D, acc.length + (g a).length ≤ 16777216 → inner (sg a) acc E = some (acc ++ g a, E)) → acc.length + (as.flatMap g).length ≤ 16777216 →
    lc2L tg inner (chk none) σ (as.map f) acc E = some (acc ++ as.flatMap g, E)
  | [], acc, _, _, _ => by rw [List.map_nil, lc2L, if_pos (show chk none E = true from rfl), List.flatMap_nil, List.append_nil]
  | d :: ds, acc, h1, h2, hl => by
    rw [List.flatMap_cons, List.length_append] at hl
    rw [List.map_cons, lc2L, if_pos (show chk none E = true from rfl), h1 d (List.mem_cons_self ..)]
    simp only [h2 d (List.mem_cons_self ..) acc (by omega)]
    rw [lc2L_map tg inner σ E f sg g ds (acc ++ g d) (fun x hx => h1 x (List.mem_cons_of_mem _ hx)) (fun x hx => h2 x (List.mem_cons_of_mem _ hx)) (by rw [List.length_append]; omega), List.flatMap_cons, List.append_assoc]
/-- the inner walk of a double comprehension that hands on what it walks -/
theorem innerL_id (cf : Cf) (b j : Nat) (it1 : It) (own1 : List Nat) (σ : Sd) (E : Eh) (ys : List D) (acc : List D) (hj : j < (wipeD σ own1).length)
    (hi : itrF cf b it1 σ E = some (ys, none, E)) (hl : acc.length + ys.length ≤ 16777216) :
    innerL (asgT (.nm j)) (itrF cf b it1) (eltF cf b (.var j)) own1 σ acc E = some (acc ++ ys, E) := by
  simp only [innerL, hi]
  have := lcL_map (asgT (.nm j)) (fun _ E => some (true, E)) (eltF cf b (.var j)) none (wipeD σ own1) E rfl (fun d : D => d) (fun d => (wipeD σ own1).set j (some d)) (fun d => d) ys acc hl (fun d _ => by rw [a_nm]) (fun d _ => rfl) (fun d _ => by
    unfold eltF
    rw [s_var]
    have : getv ((wipeD σ own1).set j (some d)) j = some d := by unfold getv; rw [List.getElem?_set_self hj]
    rw [this, bnd_some, kVal_e, bnd_some, kReg_v])
  rw [List.map_id'] at this
  exact this
theorem cut_map {α β : Type} (f : α → β) (xs : List α) (lo hi : Option Int) : cut (xs.map f) lo hi = (cut xs lo hi).map f := by
  simp only [cut, List.length_map, List.map_take, List.map_drop]
theorem cut_mem {α : Type} {xs : List α} {lo hi : Option Int} {x : α} (h : x ∈ cut xs lo hi) : x ∈ xs :=
  List.mem_of_mem_drop (List.mem_of_mem_take h)
theorem cut_len {α : Type} (xs : List α) (lo hi : Option Int) : (cut xs lo hi).length ≤ xs.length := by
  simp only [cut, List.length_take, List.length_drop]; omega
theorem lows_strs (m : Nat) : ∀ xs : List Str, D.lows m (xs.map .str) = true
  | [] => rfl
  | x :: xs => by simp only [List.map_cons, D.lows, D.low, lows_strs m xs, Bool.and_self]
theorem enumD_len : ∀ (ds : List D) (n : Nat), (enumD n ds).length = ds.length
  | [], _ => rfl
  | d :: ds, n => by rw [enumD, List.length_cons, List.length_cons, enumD_len ds]
theorem enumD_mem : ∀ (ds : List D) (n : Nat) (z : D), z ∈ enumD n ds → ∃ (i : Nat) (d : D), z = .tup [.int i, d] ∧ d ∈ ds ∧ i < n + ds.length
  | [], _, _, h => by simp [enumD] at h
  | d :: ds, n, z, h => by
    rw [enumD] at h
    rcases List.mem_cons.mp h with rfl | h
    · exact ⟨n, d, rfl, List.mem_cons_self .., by simp only [List.length_cons]; omega⟩
    · obtain ⟨i, x, h1, h2, h3⟩ := enumD_mem ds (n + 1) z h
      exact ⟨i, x, h1, List.mem_cons_of_mem _ h2, by simp only [List.length_cons]; omega⟩
end Ev
end EvGen
section GA11
open PySem Ev
local macro_rules | `(tactic| walk_at "ev") => `(tactic| simp only [bnd_some, fin_rt, fin_nx, getv_zero, getv_succ, kVal_e, kTup_e, kLst_e, kDct_e, kRv_e, kBl_e, kBo_e, kBin2_e, kBin_e, kNeg_e, kNot_e, kNotB_e, kBop_e, kCmp2_e, kCmp_e, kTst2_e, kTst_e, kIfx_t, kIfx_f, kCall_e, kCallB_e, kMeth2_e, kMeth_e, kIdx2_e, kIdx_e, kSlc3_e, kSlc2_e, kSlc_e, kRev_e, kNew_e, kReg_v, kReg_n, kLc_e, kLc2_e, kAnd_t, kAnd_f, kOr_t, kOr_f, kVarB_e, asB_bl, asBE_bl, kCallT_e, kTcall_e, kCons2_e, kCons_v, kCons_n, kRs2_e, kRs_e, kPr2_e, kPr_v, kPr_n, kL_e, getL_e, kK_e, asL_ref, s_var, s_int, s_str, s_bl, s_non, s_tup, s_lst, s_dct, s_bin, s_neg, s_not, s_bop, s_cmp, s_ifx, s_call, s_callB, s_meth, s_idx, s_slc, s_rev, s_lc, s_lc2, t_not, t_bop, t_bl, t_var, t_cmp, t_call, t_callB, b_one, b_and, b_or, es_nil, es_cons, er_nil, er_cons, eo_none, asI_int, eo_some, ec_none, ec_some, ep_nil, ep_cons, asIt_dct, asIt_tup, asIt_new, kItR_e, asIt_ref, asIt_str, ei_seq, asRg_one, asRg_nat, ei_range, kEnR_e, asEn_ref, asEn_new, ei_enum, kPut_e, kAsg_v, kAsg_n, x_asg, kPar_e, x_par, kHeap_e, kSto3_e, kSto2_e, kSto_v, kSto_n, x_sto, kExpr_e, x_expr, kRet_e, x_ret, kIf_t, kIf_f, x_if, kFor_e, x_for, x_whl, x_pass, x_brk, x_cont, kSeq_nx, kSeq_rt, kSeq_bk, kSeq_ct, xs_nil, xs_cons, a_nm, a_tp, a_star, as_nil, kTs_e, as_cons, o_addi, o_adds, o_addt, o_addnn, kAddN_e, o_addrn, kAddX_e, o_addnr, kAddR_e, o_addrr, o_subi, o_muli, o_mult, o_div, o_mod, o_pow, c_lt, c_lts, c_le, c_gt, c_ge, c_is, c_isn, kNeq_e, c_eq, c_ne, c_in, c_nin, q_str, q_int, n_tup, i_tup, i_new, i_scr, kAt_e, i_ref, kLook_e, i_dct, i_dnew, l_tup, l_new, l_scr, kCut_e, l_ref, v_tup, v_new, kRvs_e, v_ref, f_len, f_tup, f_lst, f_rep, f_len_t, f_len_n, f_tup_t, f_tup_n, f_lst_t, f_lst_n, kLen_e, f_len_r, kTupB_e, f_tup_r, kLstB_e, f_lst_r, m_app, m_ext, m_pop, m_spl, kApp_e, m_app_e, kExt_e, m_ext_n, kPop_e, m_pop_e, r_app, r_ext, r_pop, kStL_e, st_lst, r_spl, kLv_t, leave_new, leave_val, kFrz_v, kFrz_l, kFrz_d, kIsi_non, kIsi_bl, kIsi_int, kIsi_str, kIsi_tup, kIsi_lst, kIsiT_non, kIsiT_bl, kIsiT_int, kIsiT_str, kIsiT_tup, kIsiT_lst, kDgA_str, kDg3_e, kDg2_e, s_frz, s_isi, t_isi, a_starF, o_addll, o_addln, o_addnl, o_addrl, o_multn, n_lst, n_new, i_lst, i_dctv, l_lst, v_lst, f_len_l, f_tup_l, f_lst_l, asIt_lst, asEn_lst, m_ext_l, f_str, f_int, f_all, f_any, f_srt, f_str_i, f_str_s, f_str_n, f_int_i, f_int_b, m_join, r_join, s_sset, s_lset, kPx2_e, kPx1_v, kPx1_n, kPx_s, kPx_i, ex_nil, ex_cons, s_dcx, kNewD_e, kDcm_e, s_dcm, f_dic, m_upd, r_upd, kUpd_e, m_upd_n, kStK_e, st_dct, kHas_e, n_dref, n_dctv, q_at, Ev.setAll, wipeD, D.low, D.lows, Rv.low, O.low, D.flat, D.eqf, D.keyOf, Ev.look, Ev.put, ofString_inj, sizeLine_eq, atI0, atI1, atI2, atI3, atI4, atI5, lows_app, isiB, lookR,
  List.map_cons, List.map_nil, List.length_cons, List.length_nil, List.getElem?_cons_zero, List.getElem?_cons_succ, List.replicate, List.cons_append, List.nil_append, List.append_nil, List.set_cons_succ, List.set_cons_zero, List.drop_succ_cons, List.drop_zero, List.take_left, List.take_length, List.all_cons, List.all_nil, List.any_cons, List.any_nil, List.getElem?_nil, List.foldl_cons, List.foldl_nil, List.zip_cons_cons, List.zip_nil_right, List.zip_nil_left, List.flatten_cons, List.flatten_nil,
  Nat.reduceAdd, Nat.reduceSub, Nat.zero_add, Nat.add_zero, Nat.reduceLeDiff, Nat.reduceLT, Int.reduceLE, Int.reduceLT, Int.reduceToNat, Int.reduceNeg, decide_true, decide_false, Bool.not_true, Bool.not_false, Bool.and_true, Bool.true_and, Bool.and_false, Bool.false_and, Bool.or_true, Bool.true_or, Bool.or_false, Bool.false_or, if_true, if_false, reduceIte, Bool.false_eq_true, String.reduceEq, and_true, true_and, and_self, reduceCtorEq, ne_eq, not_true_eq_false, not_false_eq_true, List.getElem?_append_right, Nat.sub_self, Nat.le_refl, List.length_append, grd_pos, Sum.inr.injEq, eq_self, Ev.big, Int.reduceEq, Int.reduceNe, Int.reducePow, Int.reduceMul, Int.reduceAdd, Int.reduceSub, List.length_map, List.isEmpty_nil, List.isEmpty_cons, List.set_set, take_set, List.getElem?_set_self, List.getElem?_set_ne, List.length_set, List.getElem?_append_left, Option.isSome_some, mayPut, ixN_lit])
local macro_rules | `(tactic| walk_at "evh") => `(tactic| simp only [*, bnd_some, fin_rt, fin_nx, getv_zero, getv_succ, kVal_e, kTup_e, kLst_e, kDct_e, kRv_e, kBl_e, kBo_e, kBin2_e, kBin_e, kNeg_e, kNot_e, kNotB_e, kBop_e, kCmp2_e, kCmp_e, kTst2_e, kTst_e, kIfx_t, kIfx_f, kCall_e, kCallB_e, kMeth2_e, kMeth_e, kIdx2_e, kIdx_e, kSlc3_e, kSlc2_e, kSlc_e, kRev_e, kNew_e, kReg_v, kReg_n, kLc_e, kLc2_e, kAnd_t, kAnd_f, kOr_t, kOr_f, kVarB_e, asB_bl, asBE_bl, kCallT_e, kTcall_e, kCons2_e, kCons_v, kCons_n, kRs2_e, kRs_e, kPr2_e, kPr_v, kPr_n, kL_e, getL_e, kK_e, asL_ref, s_var, s_int, s_str, s_bl, s_non, s_tup, s_lst, s_dct, s_bin, s_neg, s_not, s_bop, s_cmp, s_ifx, s_call, s_callB, s_meth, s_idx, s_slc, s_rev, s_lc, s_lc2, t_not, t_bop, t_bl, t_var, t_cmp, t_call, t_callB, b_one, b_and, b_or, es_nil, es_cons, er_nil, er_cons, eo_none, asI_int, eo_some, ec_none, ec_some, ep_nil, ep_cons, asIt_dct, asIt_tup, asIt_new, kItR_e, asIt_ref, asIt_str, ei_seq, asRg_one, asRg_nat, ei_range, kEnR_e, asEn_ref, asEn_new, ei_enum, kPut_e, kAsg_v, kAsg_n, x_asg, kPar_e, x_par, kHeap_e, kSto3_e, kSto2_e, kSto_v, kSto_n, x_sto, kExpr_e, x_expr, kRet_e, x_ret, kIf_t, kIf_f, x_if, kFor_e, x_for, x_whl, x_pass, x_brk, x_cont, kSeq_nx, kSeq_rt, kSeq_bk, kSeq_ct, xs_nil, xs_cons, a_nm, a_tp, a_star, as_nil, kTs_e, as_cons, o_addi, o_adds, o_addt, o_addnn, kAddN_e, o_addrn, kAddX_e, o_addnr, kAddR_e, o_addrr, o_subi, o_muli, o_mult, o_div, o_mod, o_pow, c_lt, c_lts, c_le, c_gt, c_ge, c_is, c_isn, kNeq_e, c_eq, c_ne, c_in, c_nin, q_str, q_int, n_tup, i_tup, i_new, i_scr, kAt_e, i_ref, kLook_e, i_dct, i_dnew, l_tup, l_new, l_scr, kCut_e, l_ref, v_tup, v_new, kRvs_e, v_ref, f_len, f_tup, f_lst, f_rep, f_len_t, f_len_n, f_tup_t, f_tup_n, f_lst_t, f_lst_n, kLen_e, f_len_r, kTupB_e, f_tup_r, kLstB_e, f_lst_r, m_app, m_ext, m_pop, m_spl, kApp_e, m_app_e, kExt_e, m_ext_n, kPop_e, m_pop_e, r_app, r_ext, r_pop, kStL_e, st_lst, r_spl, kLv_t, leave_new, leave_val, kFrz_v, kFrz_l, kFrz_d, kIsi_non, kIsi_bl, kIsi_int, kIsi_str, kIsi_tup, kIsi_lst, kIsiT_non, kIsiT_bl, kIsiT_int, kIsiT_str, kIsiT_tup, kIsiT_lst, kDgA_str, kDg3_e, kDg2_e, s_frz, s_isi, t_isi, a_starF, o_addll, o_addln, o_addnl, o_addrl, o_multn, n_lst, n_new, i_lst, i_dctv, l_lst, v_lst, f_len_l, f_tup_l, f_lst_l, asIt_lst, asEn_lst, m_ext_l, f_str, f_int, f_all, f_any, f_srt, f_str_i, f_str_s, f_str_n, f_int_i, f_int_b, m_join, r_join, s_sset, s_lset, kPx2_e, kPx1_v, kPx1_n, kPx_s, kPx_i, ex_nil, ex_cons, s_dcx, kNewD_e, kDcm_e, s_dcm, f_dic, m_upd, r_upd, kUpd_e, m_upd_n, kStK_e, st_dct, kHas_e, n_dref, n_dctv, q_at, Ev.setAll, wipeD, D.low, D.lows, Rv.low, O.low, D.flat, D.eqf, D.keyOf, Ev.look, Ev.put, ofString_inj, sizeLine_eq, atI0, atI1, atI2, atI3, atI4, atI5, lows_app, isiB, lookR,
  List.map_cons, List.map_nil, List.length_cons, List.length_nil, List.getElem?_cons_zero, List.getElem?_cons_succ, List.replicate, List.cons_append, List.nil_append, List.append_nil, List.set_cons_succ, List.set_cons_zero, List.drop_succ_cons, List.drop_zero, List.take_left, List.take_length, List.all_cons, List.all_nil, List.any_cons, List.any_nil, List.getElem?_nil, List.foldl_cons, List.foldl_nil, List.zip_cons_cons, List.zip_nil_right, List.zip_nil_left, List.flatten_cons, List.flatten_nil,
  Nat.reduceAdd, Nat.reduceSub, Nat.zero_add, Nat.add_zero, Nat.reduceLeDiff, Nat.reduceLT, Int.reduceLE, Int.reduceLT, Int.reduceToNat, Int.reduceNeg, decide_true, decide_false, Bool.not_true, Bool.not_false, Bool.and_true, Bool.true_and, Bool.and_false, Bool.false_and, Bool.or_true, Bool.true_or, Bool.or_false, Bool.false_or, if_true, if_false, reduceIte, Bool.false_eq_true, String.reduceEq, and_true, true_and, and_self, reduceCtorEq, ne_eq, not_true_eq_false, not_false_eq_true, List.getElem?_append_right, Nat.sub_self, Nat.le_refl, List.length_append, grd_pos, Sum.inr.injEq, eq_self, Ev.big, Int.reduceEq, Int.reduceNe, Int.reducePow, Int.reduceMul, Int.reduceAdd, Int.reduceSub, List.length_map, List.isEmpty_nil, List.isEmpty_cons, List.set_set, take_set, List.getElem?_set_self, List.getElem?_set_ne, List.length_set, List.getElem?_append_left, Option.isSome_some, mayPut, ixN_lit])
namespace K11
open PySem Ev
set_option maxHeartbeats 2000000 in
theorem draw_ok (wf k f c : Nat) (E : Eh) (m : Nat) (hF : Fd f c E) (hc : c < 1000000000) (hm : 0 < m) (hm2 : m < 1000000) :
    ∃ (v : Nat) (E' : Eh), callF prog wf (k + 1) 3 [.ref f, .int m] E = some (.val (.int v), E') ∧ v < m ∧ Fd f (c + 1) E' ∧ Fr f f E E' := by
  obtain ⟨ns, p, r, n, h2, h3, h4, h5⟩ := hF
  have hf : f < E.length := ltE h2
  have hmz : ¬ ((m : Int) = 0) := by omega
  have hma : (0 : Int) < m := by omega
  have hmb : (m : Int) < 1073741824 := by omega
  rw [call_step pg3 _ _ _ _ rfl]
  simp only [b__law_draw, b__law_draw_1, b__law_draw_2, b__law_draw_3, b__law_draw_4, b__law_draw_5, b__law_draw_6, b__law_draw_7]
  walk_at "evh"
  by_cases hr : 0 < r
  · walk_at "evh"
    obtain ⟨g1, g2⟩ := fmod_lt' r (show (0 : Int) < m by omega)
    refine ⟨(r.fmod m).toNat, _, by rw [Int.toNat_of_nonneg g1], by omega, Fd.put hf (by omega) (by omega) h5, Fr.set ..⟩
  have hq : ∀ E' : Eh, eqRv E' (Rv.val (D.lst (ns.map .int))) (Rv.new (O.lst [])) = some ns.isEmpty := fun E' => eqRv_lints
  walk_at "evh"
  have hcase : ns = [] ∨ ns ≠ [] := by cases ns <;> simp
  have fin_ok : ∀ (x p' r' : Int), 0 ≤ p' → 0 ≤ x.fmod m ∧ (x.fmod m).toNat < m ∧ Fd f (c + 1) (E.set f (.lst [.lst (ns.map .int), .int p', .int r', .int (n + 1)])) ∧ Fr f f E (E.set f (.lst [.lst (ns.map .int), .int p', .int r', .int (n + 1)])) := by
    intro x p' r' hp
    obtain ⟨g1, g2⟩ := fmod_lt' x hma
    exact ⟨g1, by omega, Fd.put hf (by omega) (by omega) hp, Fr.set ..⟩
  have mix : ∀ x : Int, -18446744073709551616 < x.fmod 2147483629 + 7919 * (n + 1) + 1 ∧ x.fmod 2147483629 + 7919 * (n + 1) + 1 < 18446744073709551616 := by
    intro x
    have := fmod_lt' x (m := 2147483629) (by decide)
    omega
  have mix2 : ∀ x : Int, -18446744073709551616 < x.fmod 2147483647 + 104729 * (n + 1) ∧ x.fmod 2147483647 + 104729 * (n + 1) < 18446744073709551616 := by
    intro x
    have := fmod_lt' x (m := 2147483647) (by decide)
    omega
  have a1 := fun x => (mix x).1
  have a2 := fun x => (mix x).2
  have a3 := fun x => (mix2 x).1
  have a4 := fun x => (mix2 x).2
  clear mix mix2
  rcases hcase with rfl | hns
  · simp only [List.isEmpty_nil, List.map_nil] at hq fin_ok
    walk_at "evh"
    obtain ⟨b1, b2, b3, b4⟩ := fin_ok _ (p + 1) r (by omega)
    exact ⟨_, _, by rw [Int.toNat_of_nonneg b1], b2, b3, b4⟩
  · have hi : ns.isEmpty = false := by cases ns <;> simp_all
    have hln : 0 < ns.length := List.length_pos_iff.mpr hns
    have hlz : ¬ ((ns.length : Int) = 0) := by omega
    obtain ⟨g1, g2⟩ := fmod_lt' p (m := (ns.length : Int)) (by omega)
    obtain ⟨y, hy, hm⟩ := atI_mem (ns.map D.int) (p.fmod ns.length) g1 (by rw [List.length_map]; exact g2)
    obtain ⟨x, _, rfl⟩ := List.mem_map.mp hm
    walk_at "evh"
    by_cases hx : 1000000000000000000 ≤ x
    · walk_at "evh"
      by_cases hp : p + 1 ≤ ns.length
      · walk_at "evh"
        obtain ⟨b1, b2, b3, b4⟩ := fin_ok x (p + 1) (x.fdiv m) (by omega)
        exact ⟨_, _, by rw [Int.toNat_of_nonneg b1], b2, b3, b4⟩
      · walk_at "evh"
        obtain ⟨b1, b2, b3, b4⟩ := fin_ok _ (p + 1) r (by omega)
        exact ⟨_, _, by rw [Int.toNat_of_nonneg b1], b2, b3, b4⟩
    · walk_at "evh"
      obtain ⟨b1, b2, b3, b4⟩ := fin_ok _ (p + 1) r (by omega)
      exact ⟨_, _, by rw [Int.toNat_of_nonneg b1], b2, b3, b4⟩
theorem drf (wf : Nat) {f c : Nat} {E : Eh} (h : Fd f c E) (hc : c < 1000000000) (k : Nat) (hk : 0 < k) (m : Int) (h0 : 0 < m) (h1 : m < 1000000) :
    ∃ (v : Int) (E' : Eh), callF prog wf k 3 [.ref f, .int m] E = some (.val (.int v), E') ∧ (0 ≤ v ∧ v < m) ∧ Fd f (c + 1) E' ∧ Fr f f E E' := by
  obtain ⟨v, E', e1, e2, e3, e4⟩ := draw_ok wf (k - 1) f c E m.toNat h hc (by omega) (by omega)
  rw [Int.toNat_of_nonneg (by omega), show k - 1 + 1 = k by omega] at e1
  exact ⟨v, E', e1, by omega, e3, e4⟩
theorem pkf (wf : Nat) {f c : Nat} {E : Eh} (h : Fd f c E) (hc : c < 1000000000) (k : Nat) (hk : 1 < k) (xs : List Str) (hg : goodL xs) (hx : xs ≠ []) :
    ∃ (x : Str) (E' : Eh), callF prog wf k 4 [.ref f, .lst (xs.map .str)] E = some (.val (.str x), E') ∧ x ∈ xs ∧ Fd f (c + 1) E' ∧ Fr f f E E' := by
  obtain ⟨k, rfl⟩ : ∃ k', k = k' + 1 := ⟨k - 1, by omega⟩
  have hl := List.length_pos_iff.mpr hx
  have hl2 := hg.1
  obtain ⟨v, E', h1, h2, h3, h4⟩ := drf wf h hc k (by omega) xs.length (by omega) (by omega)
  obtain ⟨y, hy, hm⟩ := atI_mem (xs.map D.str) v h2.1 (by rw [List.length_map]; exact h2.2)
  obtain ⟨x, hxm, rfl⟩ := List.mem_map.mp hm
  have ht := take_fr h4
  rw [call_step pg4 _ _ _ _ rfl]
  simp only [b__law_pick]
  walk_at "evh"
  exact ⟨x, E', rfl, hxm, h3, h4⟩
theorem dr (wf : Nat) {w : Wp} (hw : w.ok) {c : Nat} {E : Eh} (h : St w c E) (hc : c < 1000000000) (k : Nat) (hk : 0 < k) (m : Int) (h0 : 0 < m) (h1 : m < 1000000) :
    ∃ (v : Int) (E' : Eh), callF prog wf k 3 [.ref w.f, .int m] E = some (.val (.int v), E') ∧ (0 ≤ v ∧ v < m) ∧ St w (c + 1) E' ∧ Fr w.f w.l E E' := by
  obtain ⟨v, E', e1, e2, e3, e4⟩ := drf wf h.fd hc k hk m h0 h1
  exact ⟨v, E', e1, e2, h.draw hw e4 e3, e4.wide⟩
theorem pk (wf : Nat) {w : Wp} (hw : w.ok) {c : Nat} {E : Eh} (h : St w c E) (hc : c < 1000000000) (k : Nat) (hk : 1 < k) (xs : List Str) (hg : goodL xs) (hx : xs.isEmpty = false) :
    ∃ (x : Str) (E' : Eh), callF prog wf k 4 [.ref w.f, .lst (xs.map .str)] E = some (.val (.str x), E') ∧ x ∈ xs ∧ St w (c + 1) E' ∧ Fr w.f w.l E E' := by
  obtain ⟨x, E', e1, e2, e3, e4⟩ := pkf wf h.fd hc k hk xs hg (by intro z; rw [z] at hx; cases hx)
  exact ⟨x, E', e1, e2, h.draw hw e4 e3, e4.wide⟩
theorem sp (wf : Nat) {w : Wp} (hw : w.ok) {c : Nat} {E : Eh} (h : St w c E) (k : Nat) (hk : 0 < k) :
    ∃ (t : Bool) (E' : Eh), callF prog wf k 5 [w.q] E = some (.val (.bl t), E') ∧ St w c E' ∧ Fr w.f w.l E E' := by
  obtain ⟨k, rfl⟩ : ∃ k', k = k' + 1 := ⟨k - 1, by omega⟩
  obtain ⟨x, hx⟩ := h.l
  have hl := ltE hx
  have hq := hw.l
  rw [call_step pg5 _ _ _ _ rfl]
  simp only [b__law_spent, b__law_spent_1]
  walk_at "evh"
  exact ⟨_, _, rfl, ⟨h.fd.set _ (Ne.symm hw.ne), ⟨_, List.getElem?_set_self hl⟩⟩, ⟨List.length_set .., fun i _ b => List.getElem?_set_ne (Ne.symm b)⟩⟩
end K11
end GA11
section EvTale
/-! the parts of stories as the makers make them -/
namespace Ev
open PySem
inductive Sm where
  | num (i : Int) | of (n : Str) | seen (n : Str) | plus (a b : Sm) | minus (a b : Sm)
def Sm.d : Sm → D
  | .num i => .tup [.str "num", .int i]
  | .of n => .tup [.str "of", .str n]
  | .seen n => .tup [.str "seen", .str n]
  | .plus a b => .tup [.str "plus", a.d, b.d]
  | .minus a b => .tup [.str "minus", a.d, b.d]
def Sm.ok (w : Wp) : Nat → Sm → Bool
  | _, .num i => decide (-100 ≤ i ∧ i ≤ 100)
  | _, .of n => decide (n ∈ w.nu)
  | _, .seen n => decide (n ∈ w.sc)
  | d + 1, .plus a b => Sm.ok w d a && Sm.ok w d b
  | d + 1, .minus a b => Sm.ok w d a && Sm.ok w d b
  | 0, _ => false
theorem Sm.dlow (m : Nat) : ∀ s : Sm, s.d.low m = true
  | .num _ => rfl
  | .of _ => rfl
  | .seen _ => rfl
  | .plus a b => by simp only [Sm.d, D.low, D.lows, Sm.dlow m a, Sm.dlow m b, Bool.and_self]
  | .minus a b => by simp only [Sm.d, D.low, D.lows, Sm.dlow m a, Sm.dlow m b, Bool.and_self]
theorem Sm.ok_up {w : Wp} : ∀ (s : Sm) (d : Nat), s.ok w d = true → s.ok w (d + 1) = true
  | .num _, 0, h => by simpa only [Sm.ok] using h
  | .num _, _ + 1, h => by simpa only [Sm.ok] using h
  | .of _, 0, h => by simpa only [Sm.ok] using h
  | .of _, _ + 1, h => by simpa only [Sm.ok] using h
  | .seen _, 0, h => by simpa only [Sm.ok] using h
  | .seen _, _ + 1, h => by simpa only [Sm.ok] using h
  | .plus a b, 0, h => by simp [Sm.ok] at h
  | .minus a b, 0, h => by simp [Sm.ok] at h
  | .plus a b, d + 1, h => by
    simp only [Sm.ok, Bool.and_eq_true] at h ⊢
    exact ⟨Sm.ok_up a d h.1, Sm.ok_up b d h.2⟩
  | .minus a b, d + 1, h => by
    simp only [Sm.ok, Bool.and_eq_true] at h ⊢
    exact ⟨Sm.ok_up a d h.1, Sm.ok_up b d h.2⟩
theorem Sm.ok_le {w : Wp} (s : Sm) {d e : Nat} (hde : d ≤ e) (h : s.ok w d = true) : s.ok w e = true := by
  obtain ⟨n, rfl⟩ : ∃ n, e = d + n := ⟨e - d, by omega⟩
  clear hde
  induction n with
  | zero => exact h
  | succ n ih => exact Sm.ok_up s _ ih
mutual
inductive Te where
  | is (a : Sm) (o : Str) (b : Sm) | not (t : Te) | all (ts : Tes) | any (ts : Tes) | at (a b : Str) | wth (a b : Str)
inductive Tes where
  | nil | cons (t : Te) (r : Tes)
end
mutual
def Te.d : Te → D
  | .is a o b => .tup [.str "is", a.d, .str o, b.d]
  | .not t => .tup [.str "not", t.d]
  | .all ts => .tup [.str "all", .tup ts.ds]
  | .any ts => .tup [.str "any", .tup ts.ds]
  | .at a b => .tup [.str "at", .str a, .str b]
  | .wth a b => .tup [.str "with", .str a, .str b]
def Tes.ds : Tes → List D
  | .nil => []
  | .cons t r => t.d :: r.ds
end
def Tes.len : Tes → Nat
  | .nil => 0
  | .cons _ r => r.len + 1
theorem Tes.ds_len : ∀ ts : Tes, ts.ds.length = ts.len
  | .nil => rfl
  | .cons _ r => by simp only [Tes.ds, Tes.len, List.length_cons, Tes.ds_len r]
def sgnOk (o : Str) : Bool := decide (o = "<" ∨ o = "=" ∨ o = ">")
mutual
def Te.ok (w : Wp) : Nat → Te → Bool
  | _, .is a o b => a.ok w 1 && sgnOk o && b.ok w 1
  | _, .at a b => decide (a ∈ w.fi) && decide (b ∈ w.pl)
  | _, .wth a b => decide (a ∈ w.fi) && decide (b ∈ w.fi)
  | d + 1, .not t => t.ok w d
  | d + 1, .all ts => ts.ok w d && decide (ts.len ≤ 2)
  | d + 1, .any ts => ts.ok w d && decide (ts.len ≤ 2)
  | 0, .all .nil => true
  | 0, _ => false
def Tes.ok (w : Wp) : Nat → Tes → Bool
  | _, .nil => true
  | d, .cons t r => t.ok w d && r.ok w d
end
mutual
theorem Te.dlow (m : Nat) : ∀ t : Te, t.d.low m = true
  | .is a o b => by simp only [Te.d, D.low, D.lows, Sm.dlow m a, Sm.dlow m b, Bool.and_self]
  | .not t => by simp only [Te.d, D.low, D.lows, Te.dlow m t, Bool.and_self]
  | .all ts => by simp only [Te.d, D.low, D.lows, Tes.dlow m ts, Bool.and_self]
  | .any ts => by simp only [Te.d, D.low, D.lows, Tes.dlow m ts, Bool.and_self]
  | .at a b => rfl
  | .wth a b => rfl
theorem Tes.dlow (m : Nat) : ∀ t : Tes, D.lows m t.ds = true
  | .nil => rfl
  | .cons t r => by simp only [Tes.ds, D.lows, Te.dlow m t, Tes.dlow m r, Bool.and_self]
end
theorem Te.ok_zero {w : Wp} : ∀ (t : Te) (d : Nat), t.ok w 0 = true → t.ok w d = true
  | .is a o b, d, h => by cases d <;> simpa only [Te.ok] using h
  | .at a b, d, h => by cases d <;> simpa only [Te.ok] using h
  | .wth a b, d, h => by cases d <;> simpa only [Te.ok] using h
  | .not t, d, h => by simp [Te.ok] at h
  | .any t, d, h => by simp [Te.ok] at h
  | .all .nil, 0, h => h
  | .all .nil, d + 1, h => by simp [Te.ok, Tes.ok, Tes.len]
  | .all (.cons a b), d, h => by simp [Te.ok] at h
theorem Tes.of_list {w : Wp} (d : Nat) : ∀ ys : List D, (∀ y ∈ ys, ∃ t : Te, y = t.d ∧ t.ok w d = true) → ∃ ts : Tes, ts.ds = ys ∧ ts.ok w d = true ∧ ts.len = ys.length
  | [], _ => ⟨.nil, rfl, by simp only [Tes.ok], rfl⟩
  | y :: ys, h => by
    obtain ⟨t, rfl, ht⟩ := h y (List.mem_cons_self ..)
    obtain ⟨ts, e, h2, h3⟩ := Tes.of_list d ys (fun z hz => h z (List.mem_cons_of_mem _ hz))
    exact ⟨.cons t ts, by rw [Tes.ds, e], by simp only [Tes.ok, ht, h2, Bool.and_self], by rw [Tes.len, h3, List.length_cons]⟩
mutual
inductive Pc where
  | worth (s : Sm) | place (n : Str) | iff (t : Te) (a b : Pcs) | only (n : Str) (a : Pcs) | txt (x : Str) | fin | glue
inductive Pcs where
  | nil | cons (p : Pc) (r : Pcs)
end
mutual
def Pc.d : Pc → D
  | .worth s => .tup [.str "worth", s.d]
  | .place n => .tup [.str "place", .str n]
  | .iff t a b => .tup [.str "if", t.d, .tup a.ds, .tup b.ds]
  | .only n a => .tup [.str "only", .str n, .tup a.ds]
  | .txt x => .tup [.str "text", .str x]
  | .fin => .tup [.str "end"]
  | .glue => .tup [.str "glue"]
def Pcs.ds : Pcs → List D
  | .nil => []
  | .cons p r => p.d :: r.ds
end
def Pcs.len : Pcs → Nat
  | .nil => 0
  | .cons _ r => r.len + 1
theorem Pcs.ds_len : ∀ ts : Pcs, ts.ds.length = ts.len
  | .nil => rfl
  | .cons _ r => by simp only [Pcs.ds, Pcs.len, List.length_cons, Pcs.ds_len r]
mutual
/-- on: with "only" -/
def Pc.ok (w : Wp) (on : Bool) : Nat → Pc → Bool
  | _, .worth s => s.ok w 2
  | _, .place n => decide (n ∈ w.fi)
  | _, .txt x => gd x
  | _, .fin => true
  | _, .glue => true
  | d + 1, .iff t a b => t.ok w 1 && (a.ok w on d && decide (a.len ≤ 2)) && (b.ok w on d && decide (b.len ≤ 2))
  | d + 1, .only n a => on && gd n && (a.ok w on d && decide (a.len ≤ 2))
  | 0, _ => false
def Pcs.ok (w : Wp) (on : Bool) : Nat → Pcs → Bool
  | _, .nil => true
  | d, .cons t r => t.ok w on d && r.ok w on d
end
mutual
theorem Pc.dlow (m : Nat) : ∀ t : Pc, t.d.low m = true
  | .worth s => by simp only [Pc.d, D.low, D.lows, Sm.dlow m s, Bool.and_self]
  | .place n => rfl
  | .iff t a b => by simp only [Pc.d, D.low, D.lows, Te.dlow m t, Pcs.dlow m a, Pcs.dlow m b, Bool.and_self]
  | .only n a => by simp only [Pc.d, D.low, D.lows, Pcs.dlow m a, Bool.and_self]
  | .txt x => rfl
  | .fin => rfl
  | .glue => rfl
theorem Pcs.dlow (m : Nat) : ∀ t : Pcs, D.lows m t.ds = true
  | .nil => rfl
  | .cons t r => by simp only [Pcs.ds, D.lows, Pc.dlow m t, Pcs.dlow m r, Bool.and_self]
end
theorem Pc.ok_zero {w : Wp} {on : Bool} (t : Pc) (d : Nat) (h : t.ok w on 0 = true) : t.ok w on d = true := by
  cases d with
  | zero => exact h
  | succ d => cases t <;> simp_all [Pc.ok]
theorem Pcs.of_list {w : Wp} {on : Bool} (d : Nat) : ∀ ys : List D, (∀ y ∈ ys, ∃ t : Pc, y = t.d ∧ t.ok w on d = true) → ∃ ts : Pcs, ts.ds = ys ∧ ts.ok w on d = true ∧ ts.len = ys.length
  | [], _ => ⟨.nil, rfl, by simp only [Pcs.ok], rfl⟩
  | y :: ys, h => by
    obtain ⟨t, rfl, ht⟩ := h y (List.mem_cons_self ..)
    obtain ⟨ts, e, h2, h3⟩ := Pcs.of_list d ys (fun z hz => h z (List.mem_cons_of_mem _ hz))
    exact ⟨.cons t ts, by rw [Pcs.ds, e], by simp only [Pcs.ok, ht, h2, Bool.and_self], by rw [Pcs.len, h3, List.length_cons]⟩
inductive Ac where
  | set (n : Str) (s : Sm) | draw (n : Str) | go (a b : Str) | put (a b : Str) | join (a b : Str) | leave (a : Str)
def Ac.d : Ac → D
  | .set n s => .tup [.str "set", .str n, s.d]
  | .draw n => .tup [.str "draw", .str n]
  | .go a b => .tup [.str "go", .str a, .str b]
  | .put a b => .tup [.str "put", .str a, .str b]
  | .join a b => .tup [.str "join", .str a, .str b]
  | .leave a => .tup [.str "leave", .str a]
def Ac.ok (w : Wp) : Ac → Bool
  | .set n s => decide (n ∈ w.nu) && s.ok w 2
  | .draw n => decide (n ∈ w.nu)
  | .go a b => decide (a ∈ w.fi) && decide (b ∈ w.pl)
  | .put a b => decide (a ∈ w.fi) && decide (b ∈ w.pl)
  | .join a b => decide (a ∈ w.fi) && decide (b ∈ w.fi)
  | .leave a => decide (a ∈ w.fi)
theorem Ac.dlow (m : Nat) : ∀ a : Ac, a.d.low m = true
  | .set n s => by simp only [Ac.d, D.low, D.lows, Sm.dlow m s, Bool.and_self]
  | .draw n => rfl
  | .go a b => rfl
  | .put a b => rfl
  | .join a b => rfl
  | .leave a => rfl
/-- an act or none -/
def oAc : Option Ac → D
  | none => .non
  | some a => a.d
def oAcOk (w : Wp) : Option Ac → Bool
  | none => true
  | some a => a.ok w
theorem oAc_low (m : Nat) (a : Option Ac) : (oAc a).low m = true := by
  cases a with
  | none => rfl
  | some a => exact Ac.dlow m a
inductive Nx where
  | back | into (a b : Str) | to (a : Str)
def Nx.d : Nx → D
  | .back => .tup [.str "back"]
  | .into a b => .tup [.str "into", .str a, .str b]
  | .to a => .tup [.str "to", .str a]
def Nx.ok (w : Wp) : Nx → Bool
  | .back => true
  | .into a b => decide (a ∈ w.sc) && decide (b ∈ w.sc)
  | .to a => decide (a ∈ w.sc)
theorem Nx.dlow (m : Nat) : ∀ a : Nx, a.d.low m = true
  | .back => rfl
  | .into a b => rfl
  | .to a => rfl
structure Ch where
  name : Str
  label : Pcs
  test : Te
  once : Bool
  acts : List Ac
  next : Nx
def Ch.d (c : Ch) : D := .tup [.str c.name, .tup c.label.ds, c.test.d, .bl c.once, .tup (c.acts.map Ac.d), c.next.d]
def Ch.ok (w : Wp) (c : Ch) : Bool := gd c.name && (c.label.ok w false 1 && decide (c.label.len ≤ 2)) && c.test.ok w 2 && (c.acts.all (Ac.ok w) && decide (c.acts.length ≤ 2)) && c.next.ok w
theorem acts_low (m : Nat) : ∀ as : List Ac, D.lows m (as.map Ac.d) = true
  | [] => rfl
  | a :: as => by simp only [List.map_cons, D.lows, Ac.dlow m a, acts_low m as, Bool.and_self]
theorem Ch.dlow (m : Nat) (c : Ch) : c.d.low m = true := by
  simp only [Ch.d, D.low, D.lows, Pcs.dlow m, Te.dlow m, acts_low m, Nx.dlow m, Bool.and_self]
theorem acts_of {w : Wp} : ∀ ys : List D, (∀ y ∈ ys, ∃ a : Option Ac, y = oAc a ∧ oAcOk w a = true) → ∃ as : List Ac, (ys.filter (fun y => !decide (y = D.non))).map (fun y => y) = as.map Ac.d ∧ as.all (Ac.ok w) = true ∧ as.length ≤ ys.length
  | [], _ => ⟨[], rfl, rfl, Nat.le_refl _⟩
  | y :: ys, h => by
    obtain ⟨as, e, h2, h3⟩ := acts_of ys (fun z hz => h z (List.mem_cons_of_mem _ hz))
    obtain ⟨a, rfl, ha⟩ := h y (List.mem_cons_self ..)
    cases a with
    | none =>
      refine ⟨as, ?_, h2, by simp only [List.length_cons]; omega⟩
      rw [List.filter_cons_of_neg (by simp [oAc])]
      exact e
    | some a =>
      refine ⟨a :: as, ?_, by simp only [List.all_cons, h2, Bool.and_true]; exact ha, by simp only [List.length_cons]; omega⟩
      rw [List.filter_cons_of_pos (by cases a <;> simp [oAc, Ac.d]), List.map_cons, e]
      rfl
structure Sc where
  name : Str
  pieces : Pcs
  choices : List Ch
  woven : List Str
  ending : Option Str
def oStr : Option Str → D
  | none => .non
  | some x => .str x
def oStrOk : Option Str → Bool
  | none => true
  | some x => gd x
theorem oStr_low (m : Nat) (a : Option Str) : (oStr a).low m = true := by cases a <;> rfl
def Sc.d (c : Sc) : D := .tup [.str c.name, .tup c.pieces.ds, .tup (c.choices.map Ch.d), .tup (c.woven.map .str), oStr c.ending]
def Sc.ok (w : Wp) (c : Sc) : Bool := gd c.name && (c.pieces.ok w true 2 && decide (c.pieces.len ≤ 2)) && (c.choices.all (Ch.ok w) && decide (c.choices.length ≤ 3)) && (c.woven.all (fun x => decide (x ∈ w.sc)) && decide (c.woven.length ≤ w.sc.length)) && oStrOk c.ending
theorem chs_low (m : Nat) : ∀ as : List Ch, D.lows m (as.map Ch.d) = true
  | [] => rfl
  | a :: as => by simp only [List.map_cons, D.lows, Ch.dlow m a, chs_low m as, Bool.and_self]
theorem Sc.dlow (m : Nat) (c : Sc) : c.d.low m = true := by
  simp only [Sc.d, D.low, D.lows, Pcs.dlow m, chs_low m, lows_strs, oStr_low, Bool.and_self]
theorem chs_of {w : Wp} : ∀ ys : List D, (∀ y ∈ ys, ∃ x : Ch, y = x.d ∧ x.ok w = true) → ∃ xs : List Ch, ys = xs.map Ch.d ∧ xs.all (Ch.ok w) = true
  | [], _ => ⟨[], rfl, rfl⟩
  | y :: ys, h => by
    obtain ⟨x, rfl, hx⟩ := h y (List.mem_cons_self ..)
    obtain ⟨xs, rfl, h2⟩ := chs_of ys (fun z hz => h z (List.mem_cons_of_mem _ hz))
    exact ⟨x :: xs, rfl, by simp only [List.all_cons, hx, h2, Bool.and_self]⟩
theorem strs_of (P : Str → Prop) : ∀ ys : List D, (∀ y ∈ ys, ∃ x : Str, y = .str x ∧ P x) → ∃ xs : List Str, ys = xs.map .str ∧ (∀ x ∈ xs, P x)
  | [], _ => ⟨[], rfl, by simp⟩
  | y :: ys, h => by
    obtain ⟨x, rfl, hx⟩ := h y (List.mem_cons_self ..)
    obtain ⟨xs, rfl, h2⟩ := strs_of P ys (fun z hz => h z (List.mem_cons_of_mem _ hz))
    refine ⟨x :: xs, rfl, ?_⟩
    intro z hz
    rcases List.mem_cons.mp hz with rfl | hz
    · exact hx
    · exact h2 z hz
/-- things of any sort out of a list of data -/
theorem all_of {α : Type} (f : α → D) (P : α → Prop) : ∀ ys : List D, (∀ y ∈ ys, ∃ x : α, y = f x ∧ P x) → ∃ xs : List α, ys = xs.map f ∧ (∀ x ∈ xs, P x)
  | [], _ => ⟨[], rfl, by simp⟩
  | y :: ys, h => by
    obtain ⟨x, rfl, hx⟩ := h y (List.mem_cons_self ..)
    obtain ⟨xs, rfl, h2⟩ := all_of f P ys (fun z hz => h z (List.mem_cons_of_mem _ hz))
    refine ⟨x :: xs, rfl, ?_⟩
    intro z hz
    rcases List.mem_cons.mp hz with rfl | hz
    · exact hx
    · exact h2 z hz
end Ev
end EvTale
section GB11
open PySem Ev
local macro_rules | `(tactic| walk_at "ev") => `(tactic| simp only [bnd_some, fin_rt, fin_nx, getv_zero, getv_succ, kVal_e, kTup_e, kLst_e, kDct_e, kRv_e, kBl_e, kBo_e, kBin2_e, kBin_e, kNeg_e, kNot_e, kNotB_e, kBop_e, kCmp2_e, kCmp_e, kTst2_e, kTst_e, kIfx_t, kIfx_f, kCall_e, kCallB_e, kMeth2_e, kMeth_e, kIdx2_e, kIdx_e, kSlc3_e, kSlc2_e, kSlc_e, kRev_e, kNew_e, kReg_v, kReg_n, kLc_e, kLc2_e, kAnd_t, kAnd_f, kOr_t, kOr_f, kVarB_e, asB_bl, asBE_bl, kCallT_e, kTcall_e, kCons2_e, kCons_v, kCons_n, kRs2_e, kRs_e, kPr2_e, kPr_v, kPr_n, kL_e, getL_e, kK_e, asL_ref, s_var, s_int, s_str, s_bl, s_non, s_tup, s_lst, s_dct, s_bin, s_neg, s_not, s_bop, s_cmp, s_ifx, s_call, s_callB, s_meth, s_idx, s_slc, s_rev, s_lc, s_lc2, t_not, t_bop, t_bl, t_var, t_cmp, t_call, t_callB, b_one, b_and, b_or, es_nil, es_cons, er_nil, er_cons, eo_none, asI_int, eo_some, ec_none, ec_some, ep_nil, ep_cons, asIt_dct, asIt_tup, asIt_new, kItR_e, asIt_ref, asIt_str, ei_seq, asRg_one, asRg_nat, ei_range, kEnR_e, asEn_ref, asEn_new, ei_enum, kPut_e, kAsg_v, kAsg_n, x_asg, kPar_e, x_par, kHeap_e, kSto3_e, kSto2_e, kSto_v, kSto_n, x_sto, kExpr_e, x_expr, kRet_e, x_ret, kIf_t, kIf_f, x_if, kFor_e, x_for, x_whl, x_pass, x_brk, x_cont, kSeq_nx, kSeq_rt, kSeq_bk, kSeq_ct, xs_nil, xs_cons, a_nm, a_tp, a_star, as_nil, kTs_e, as_cons, o_addi, o_adds, o_addt, o_addnn, kAddN_e, o_addrn, kAddX_e, o_addnr, kAddR_e, o_addrr, o_subi, o_muli, o_mult, o_div, o_mod, o_pow, c_lt, c_lts, c_le, c_gt, c_ge, c_is, c_isn, kNeq_e, c_eq, c_ne, c_in, c_nin, q_str, q_int, n_tup, i_tup, i_new, i_scr, kAt_e, i_ref, kLook_e, i_dct, i_dnew, l_tup, l_new, l_scr, kCut_e, l_ref, v_tup, v_new, kRvs_e, v_ref, f_len, f_tup, f_lst, f_rep, f_len_t, f_len_n, f_tup_t, f_tup_n, f_lst_t, f_lst_n, kLen_e, f_len_r, kTupB_e, f_tup_r, kLstB_e, f_lst_r, m_app, m_ext, m_pop, m_spl, kApp_e, m_app_e, kExt_e, m_ext_n, kPop_e, m_pop_e, r_app, r_ext, r_pop, kStL_e, st_lst, r_spl, kLv_t, leave_new, leave_val, kFrz_v, kFrz_l, kFrz_d, kIsi_non, kIsi_bl, kIsi_int, kIsi_str, kIsi_tup, kIsi_lst, kIsiT_non, kIsiT_bl, kIsiT_int, kIsiT_str, kIsiT_tup, kIsiT_lst, kDgA_str, kDg3_e, kDg2_e, s_frz, s_isi, t_isi, a_starF, o_addll, o_addln, o_addnl, o_addrl, o_multn, n_lst, n_new, i_lst, i_dctv, l_lst, v_lst, f_len_l, f_tup_l, f_lst_l, asIt_lst, asEn_lst, m_ext_l, f_str, f_int, f_all, f_any, f_srt, f_str_i, f_str_s, f_str_n, f_int_i, f_int_b, m_join, r_join, s_sset, s_lset, kPx2_e, kPx1_v, kPx1_n, kPx_s, kPx_i, ex_nil, ex_cons, s_dcx, kNewD_e, kDcm_e, s_dcm, f_dic, m_upd, r_upd, kUpd_e, m_upd_n, kStK_e, st_dct, kHas_e, n_dref, n_dctv, q_at, Ev.setAll, wipeD, D.low, D.lows, Rv.low, O.low, D.flat, D.eqf, D.keyOf, Ev.look, Ev.put, ofString_inj, sizeLine_eq, atI0, atI1, atI2, atI3, atI4, atI5, lows_app, isiB, lookR,
  List.map_cons, List.map_nil, List.length_cons, List.length_nil, List.getElem?_cons_zero, List.getElem?_cons_succ, List.replicate, List.cons_append, List.nil_append, List.append_nil, List.set_cons_succ, List.set_cons_zero, List.drop_succ_cons, List.drop_zero, List.take_left, List.take_length, List.all_cons, List.all_nil, List.any_cons, List.any_nil, List.getElem?_nil, List.foldl_cons, List.foldl_nil, List.zip_cons_cons, List.zip_nil_right, List.zip_nil_left, List.flatten_cons, List.flatten_nil,
  Nat.reduceAdd, Nat.reduceSub, Nat.zero_add, Nat.add_zero, Nat.reduceLeDiff, Nat.reduceLT, Int.reduceLE, Int.reduceLT, Int.reduceToNat, Int.reduceNeg, decide_true, decide_false, Bool.not_true, Bool.not_false, Bool.and_true, Bool.true_and, Bool.and_false, Bool.false_and, Bool.or_true, Bool.true_or, Bool.or_false, Bool.false_or, if_true, if_false, reduceIte, Bool.false_eq_true, String.reduceEq, and_true, true_and, and_self, reduceCtorEq, ne_eq, not_true_eq_false, not_false_eq_true, List.getElem?_append_right, Nat.sub_self, Nat.le_refl, List.length_append, grd_pos, Sum.inr.injEq, eq_self, Ev.big, Int.reduceEq, Int.reduceNe, Int.reducePow, Int.reduceMul, Int.reduceAdd, Int.reduceSub, List.length_map, List.isEmpty_nil, List.isEmpty_cons, List.set_set, take_set, List.getElem?_set_self, List.getElem?_set_ne, List.length_set, List.getElem?_append_left, Option.isSome_some, mayPut, ixN_lit])
local macro_rules | `(tactic| walk_at "evh") => `(tactic| simp only [*, bnd_some, fin_rt, fin_nx, getv_zero, getv_succ, kVal_e, kTup_e, kLst_e, kDct_e, kRv_e, kBl_e, kBo_e, kBin2_e, kBin_e, kNeg_e, kNot_e, kNotB_e, kBop_e, kCmp2_e, kCmp_e, kTst2_e, kTst_e, kIfx_t, kIfx_f, kCall_e, kCallB_e, kMeth2_e, kMeth_e, kIdx2_e, kIdx_e, kSlc3_e, kSlc2_e, kSlc_e, kRev_e, kNew_e, kReg_v, kReg_n, kLc_e, kLc2_e, kAnd_t, kAnd_f, kOr_t, kOr_f, kVarB_e, asB_bl, asBE_bl, kCallT_e, kTcall_e, kCons2_e, kCons_v, kCons_n, kRs2_e, kRs_e, kPr2_e, kPr_v, kPr_n, kL_e, getL_e, kK_e, asL_ref, s_var, s_int, s_str, s_bl, s_non, s_tup, s_lst, s_dct, s_bin, s_neg, s_not, s_bop, s_cmp, s_ifx, s_call, s_callB, s_meth, s_idx, s_slc, s_rev, s_lc, s_lc2, t_not, t_bop, t_bl, t_var, t_cmp, t_call, t_callB, b_one, b_and, b_or, es_nil, es_cons, er_nil, er_cons, eo_none, asI_int, eo_some, ec_none, ec_some, ep_nil, ep_cons, asIt_dct, asIt_tup, asIt_new, kItR_e, asIt_ref, asIt_str, ei_seq, asRg_one, asRg_nat, ei_range, kEnR_e, asEn_ref, asEn_new, ei_enum, kPut_e, kAsg_v, kAsg_n, x_asg, kPar_e, x_par, kHeap_e, kSto3_e, kSto2_e, kSto_v, kSto_n, x_sto, kExpr_e, x_expr, kRet_e, x_ret, kIf_t, kIf_f, x_if, kFor_e, x_for, x_whl, x_pass, x_brk, x_cont, kSeq_nx, kSeq_rt, kSeq_bk, kSeq_ct, xs_nil, xs_cons, a_nm, a_tp, a_star, as_nil, kTs_e, as_cons, o_addi, o_adds, o_addt, o_addnn, kAddN_e, o_addrn, kAddX_e, o_addnr, kAddR_e, o_addrr, o_subi, o_muli, o_mult, o_div, o_mod, o_pow, c_lt, c_lts, c_le, c_gt, c_ge, c_is, c_isn, kNeq_e, c_eq, c_ne, c_in, c_nin, q_str, q_int, n_tup, i_tup, i_new, i_scr, kAt_e, i_ref, kLook_e, i_dct, i_dnew, l_tup, l_new, l_scr, kCut_e, l_ref, v_tup, v_new, kRvs_e, v_ref, f_len, f_tup, f_lst, f_rep, f_len_t, f_len_n, f_tup_t, f_tup_n, f_lst_t, f_lst_n, kLen_e, f_len_r, kTupB_e, f_tup_r, kLstB_e, f_lst_r, m_app, m_ext, m_pop, m_spl, kApp_e, m_app_e, kExt_e, m_ext_n, kPop_e, m_pop_e, r_app, r_ext, r_pop, kStL_e, st_lst, r_spl, kLv_t, leave_new, leave_val, kFrz_v, kFrz_l, kFrz_d, kIsi_non, kIsi_bl, kIsi_int, kIsi_str, kIsi_tup, kIsi_lst, kIsiT_non, kIsiT_bl, kIsiT_int, kIsiT_str, kIsiT_tup, kIsiT_lst, kDgA_str, kDg3_e, kDg2_e, s_frz, s_isi, t_isi, a_starF, o_addll, o_addln, o_addnl, o_addrl, o_multn, n_lst, n_new, i_lst, i_dctv, l_lst, v_lst, f_len_l, f_tup_l, f_lst_l, asIt_lst, asEn_lst, m_ext_l, f_str, f_int, f_all, f_any, f_srt, f_str_i, f_str_s, f_str_n, f_int_i, f_int_b, m_join, r_join, s_sset, s_lset, kPx2_e, kPx1_v, kPx1_n, kPx_s, kPx_i, ex_nil, ex_cons, s_dcx, kNewD_e, kDcm_e, s_dcm, f_dic, m_upd, r_upd, kUpd_e, m_upd_n, kStK_e, st_dct, kHas_e, n_dref, n_dctv, q_at, Ev.setAll, wipeD, D.low, D.lows, Rv.low, O.low, D.flat, D.eqf, D.keyOf, Ev.look, Ev.put, ofString_inj, sizeLine_eq, atI0, atI1, atI2, atI3, atI4, atI5, lows_app, isiB, lookR,
  List.map_cons, List.map_nil, List.length_cons, List.length_nil, List.getElem?_cons_zero, List.getElem?_cons_succ, List.replicate, List.cons_append, List.nil_append, List.append_nil, List.set_cons_succ, List.set_cons_zero, List.drop_succ_cons, List.drop_zero, List.take_left, List.take_length, List.all_cons, List.all_nil, List.any_cons, List.any_nil, List.getElem?_nil, List.foldl_cons, List.foldl_nil, List.zip_cons_cons, List.zip_nil_right, List.zip_nil_left, List.flatten_cons, List.flatten_nil,
  Nat.reduceAdd, Nat.reduceSub, Nat.zero_add, Nat.add_zero, Nat.reduceLeDiff, Nat.reduceLT, Int.reduceLE, Int.reduceLT, Int.reduceToNat, Int.reduceNeg, decide_true, decide_false, Bool.not_true, Bool.not_false, Bool.and_true, Bool.true_and, Bool.and_false, Bool.false_and, Bool.or_true, Bool.true_or, Bool.or_false, Bool.false_or, if_true, if_false, reduceIte, Bool.false_eq_true, String.reduceEq, and_true, true_and, and_self, reduceCtorEq, ne_eq, not_true_eq_false, not_false_eq_true, List.getElem?_append_right, Nat.sub_self, Nat.le_refl, List.length_append, grd_pos, Sum.inr.injEq, eq_self, Ev.big, Int.reduceEq, Int.reduceNe, Int.reducePow, Int.reduceMul, Int.reduceAdd, Int.reduceSub, List.length_map, List.isEmpty_nil, List.isEmpty_cons, List.set_set, take_set, List.getElem?_set_self, List.getElem?_set_ne, List.length_set, List.getElem?_append_left, Option.isSome_some, mayPut, ixN_lit])
namespace K11
open PySem Ev
set_option maxHeartbeats 4000000 in
theorem sum_tail (wf k b : Nat) (hk : 1 < k) {w : Wp} (hw : w.ok) {c : Nat} {E : Eh} (hS : St w c E) (hc : c < 1000000000) (d v : Int) (h0 : 0 ≤ v) (h7 : v < 7) :
    ∃ (x : Sm) (E' : Eh), exs (callF prog wf k) wf b b__law_sum_3 [some (.ref w.f), some (.int d), some w.q, some (.int v)] E = some (.rt (.val x.d), E') ∧ x.ok w 0 = true ∧ St w (c + 1) E' ∧ Fr w.f w.l E E' := by
  have hb := hw.b
  have ha := hw.a
  have qb : ∀ E, eqRv E (.val (.lst (w.nu.map .str))) (.new (.lst [])) = some w.nu.isEmpty := fun E => eqRv_lstrs hw.gb.ok
  have qa : ∀ E, eqRv E (.val (.lst (w.sc.map .str))) (.new (.lst [])) = some w.sc.isEmpty := fun E => eqRv_lstrs hw.ga.ok
  have last : ∃ (x : Sm) (E' : Eh), exs (callF prog wf k) wf b b__law_sum_5 [some (.ref w.f), some (.int d), some w.q, some (.int v)] E = some (.rt (.val x.d), E') ∧ x.ok w 0 = true ∧ St w (c + 1) E' ∧ Fr w.f w.l E E' := by
    obtain ⟨u, E1, e1, hu, S1, F1⟩ := dr wf hw hS hc k (by omega) 6 (by omega) (by omega)
    simp only [b__law_sum_5]
    have : u = 0 ∨ u = 1 ∨ u = 2 ∨ u = 3 ∨ u = 4 ∨ u = 5 := by omega
    rcases this with rfl | rfl | rfl | rfl | rfl | rfl
    · exact ⟨.num 0, E1, by walk_at "evh"; rfl, rfl, S1, F1⟩
    · exact ⟨.num 1, E1, by walk_at "evh"; rfl, rfl, S1, F1⟩
    · exact ⟨.num 2, E1, by walk_at "evh"; rfl, rfl, S1, F1⟩
    · exact ⟨.num 9, E1, by walk_at "evh"; rfl, rfl, S1, F1⟩
    · exact ⟨.num (-3), E1, by walk_at "evh"; rfl, rfl, S1, F1⟩
    · exact ⟨.num 10, E1, by walk_at "evh"; rfl, rfl, S1, F1⟩
  have mid : ∃ (x : Sm) (E' : Eh), exs (callF prog wf k) wf b b__law_sum_4 [some (.ref w.f), some (.int d), some w.q, some (.int v)] E = some (.rt (.val x.d), E') ∧ x.ok w 0 = true ∧ St w (c + 1) E' ∧ Fr w.f w.l E E' := by
    simp only [b__law_sum_4]
    by_cases h4 : v = 4
    · cases hs : w.sc.isEmpty
      · obtain ⟨x, E1, e1, hg, S1, F1⟩ := pk wf hw hS hc k hk w.sc hw.ga hs
        refine ⟨.seen x, E1, ?_, by simp only [Sm.ok, hg, decide_true], S1, F1⟩
        clear last
        walk_at "evh"
        rfl
      · walk_at "evh" <;> exact last
    · walk_at "evh" <;> exact last
  simp only [b__law_sum_3]
  by_cases h4 : v < 4
  · cases hs : w.nu.isEmpty
    · obtain ⟨x, E1, e1, hg, S1, F1⟩ := pk wf hw hS hc k hk w.nu hw.gb hs
      refine ⟨.of x, E1, ?_, by simp only [Sm.ok, hg, decide_true], S1, F1⟩
      clear last mid
      walk_at "evh"
      rfl
    · walk_at "evh" <;> exact mid
  · walk_at "evh" <;> exact mid
set_option maxHeartbeats 4000000 in
theorem sum_ok (wf : Nat) (w : Wp) (hw : w.ok) : ∀ (d k c : Nat) (E : Eh), d + 2 < k → St w c E → c + 4 ^ (d + 1) ≤ 1000000000 →
    ∃ (x : Sm) (E' : Eh), callF prog wf k 6 [.ref w.f, .int d, w.q] E = some (.val x.d, E') ∧ x.ok w d = true ∧ St w (c + 4 ^ (d + 1)) E' ∧ Fr w.f w.l E E' := by
  intro d
  induction d with
  | zero =>
    intro k c E hk hS hc
    obtain ⟨k, rfl⟩ : ∃ k', k = k' + 1 := ⟨k - 1, by omega⟩
    rw [call_step pg6 _ _ _ _ rfl]
    obtain ⟨v, E1, e1, hv, S1, F1⟩ := dr wf hw hS (by omega) k (by omega) 7 (by omega) (by omega)
    obtain ⟨t, E2, e2, S2, F2⟩ := sp wf hw S1 k (by omega)
    have F12 := F1.trans F2
    have hT := take_fr F12
    cases t with
    | true =>
      refine ⟨.num v, E2, ?_, by simp only [Sm.ok]; rw [decide_eq_true]; omega, S2.le (by omega), F12⟩
      simp only [b__law_sum, b__law_sum_1]
      walk_at "evh"
      rfl
    | false =>
      obtain ⟨x, E3, e3, hx, S3, F3⟩ := sum_tail wf k E.length (by omega) hw S2 (by omega) 0 v hv.1 hv.2
      have F13 := F12.trans F3
      have hT2 := take_fr F13
      have hlow := Sm.dlow E.length x
      refine ⟨x, E3, ?_, hx, S3.le (by omega), F13⟩
      have hd0 : ¬ ((0 : Int) < 0) := by omega
      simp only [b__law_sum, b__law_sum_1, b__law_sum_2, Int.natCast_zero]
      by_cases hv2 : v < 2
      · walk_at "evh"
      · walk_at "evh"
  | succ d ih =>
    intro k c E hk hS hc
    obtain ⟨k, rfl⟩ : ∃ k', k = k' + 1 := ⟨k - 1, by omega⟩
    rw [call_step pg6 _ _ _ _ rfl]
    have hpow : 4 ^ (d + 1 + 1) = 4 * 4 ^ (d + 1) := by rw [Nat.pow_succ]; omega
    have hpos : 4 ≤ 4 ^ (d + 1) := by rw [Nat.pow_succ]; have : 0 < 4 ^ d := Nat.pow_pos (by omega); omega
    rw [hpow] at hc ⊢
    obtain ⟨v, E1, e1, hv, S1, F1⟩ := dr wf hw hS (by omega) k (by omega) 7 (by omega) (by omega)
    obtain ⟨t, E2, e2, S2, F2⟩ := sp wf hw S1 k (by omega)
    have F12 := F1.trans F2
    have hT := take_fr F12
    have hd1 : ((d + 1 : Nat) : Int) - 1 = d := by omega
    have hd0 : (0 : Int) < ((d + 1 : Nat) : Int) := by omega
    cases t with
    | true =>
      refine ⟨.num v, E2, ?_, by simp only [Sm.ok]; rw [decide_eq_true]; omega, S2.le (by omega), F12⟩
      simp only [b__law_sum, b__law_sum_1]
      walk_at "evh"
      rfl
    | false =>
      by_cases hv2 : v < 2
      · obtain ⟨x, E3, e3, hx, S3, F3⟩ := ih k (c + 1) E2 (by omega) S2 (by omega)
        obtain ⟨y, E4, e4, hy, S4, F4⟩ := ih k _ E3 (by omega) S3 (by omega)
        have F14 := (F12.trans F3).trans F4
        have hT2 := take_fr F14
        have hlx := Sm.dlow E.length x
        have hly := Sm.dlow E.length y
        simp only [b__law_sum, b__law_sum_1, b__law_sum_2]
        have : v = 0 ∨ v = 1 := by omega
        rcases this with rfl | rfl
        · refine ⟨.plus x y, E4, ?_, by simp only [Sm.ok, hx, hy, Bool.and_self], S4.le (by omega), F14⟩
          walk_at "evh"
          rfl
        · refine ⟨.minus x y, E4, ?_, by simp only [Sm.ok, hx, hy, Bool.and_self], S4.le (by omega), F14⟩
          walk_at "evh"
          rfl
      · obtain ⟨x, E3, e3, hx, S3, F3⟩ := sum_tail wf k E.length (by omega) hw S2 (by omega) ((d + 1 : Nat) : Int) v hv.1 hv.2
        have F13 := F12.trans F3
        have hT2 := take_fr F13
        have hlow := Sm.dlow E.length x
        refine ⟨x, E3, ?_, Sm.ok_le x (Nat.zero_le _) hx, S3.le (by omega), F13⟩
        simp only [b__law_sum, b__law_sum_1, b__law_sum_2]
        walk_at "evh"
set_option maxHeartbeats 4000000 in
theorem test_tail (wf k b : Nat) (hk : 4 < k) {w : Wp} (hw : w.ok) {c : Nat} {E : Eh} (hS : St w c E) (hc : c + 40 < 1000000000) (d v : Int) (h0 : 0 ≤ v) (h9 : v < 9) :
    ∃ (x : Te) (E' : Eh), exs (callF prog wf k) wf b b__law_test_3 [some (.ref w.f), some (.int d), some w.q, some (.int v), none, none] E = some (.rt (.val x.d), E') ∧ x.ok w 0 = true ∧ St w (c + 35) E' ∧ Fr w.f w.l E E' := by
  have hd := hw.d
  have hc' := hw.c
  have qd : ∀ E, eqRv E (.val (.lst (w.fi.map .str))) (.new (.lst [])) = some w.fi.isEmpty := fun E => eqRv_lstrs hw.gdd.ok
  have qc : ∀ E, eqRv E (.val (.lst (w.pl.map .str))) (.new (.lst [])) = some w.pl.isEmpty := fun E => eqRv_lstrs hw.gc.ok
  have last : ∃ (x : Te) (E' : Eh), exs (callF prog wf k) wf b b__law_test_5 [some (.ref w.f), some (.int d), some w.q, some (.int v), none, none] E = some (.rt (.val x.d), E') ∧ x.ok w 0 = true ∧ St w (c + 35) E' ∧ Fr w.f w.l E E' := by
    simp only [b__law_test_5, b__law_test_6]
    by_cases h7 : v < 7
    · obtain ⟨x, E1, e1, hx, S1, F1⟩ := sum_ok wf w hw 1 k c E (by omega) hS (by omega)
      obtain ⟨u, E2, e2, hu, S2, F2⟩ := dr wf hw S1 (by omega) k (by omega) 3 (by omega) (by omega)
      obtain ⟨y, E3, e3, hy, S3, F3⟩ := sum_ok wf w hw 1 k _ E2 (by omega) S2 (by omega)
      have F13 := (F1.trans F2).trans F3
      simp only [show ((1 : Nat) : Int) = 1 from rfl] at e1 e3
      have : u = 0 ∨ u = 1 ∨ u = 2 := by omega
      rcases this with rfl | rfl | rfl
      · refine ⟨.is x "<" y, E3, ?_, by simp only [Te.ok, hx, hy, Bool.true_and, Bool.and_true]; rfl, S3.le (by omega), F13⟩
        walk_at "evh"
        rfl
      · refine ⟨.is x "=" y, E3, ?_, by simp only [Te.ok, hx, hy, Bool.true_and, Bool.and_true]; rfl, S3.le (by omega), F13⟩
        walk_at "evh"
        rfl
      · refine ⟨.is x ">" y, E3, ?_, by simp only [Te.ok, hx, hy, Bool.true_and, Bool.and_true]; rfl, S3.le (by omega), F13⟩
        walk_at "evh"
        rfl
    · refine ⟨.all .nil, E, ?_, by simp only [Te.ok], hS.le (by omega), Fr.refl ..⟩
      walk_at "evh"
      rfl
  have mid : ∃ (x : Te) (E' : Eh), exs (callF prog wf k) wf b b__law_test_4 [some (.ref w.f), some (.int d), some w.q, some (.int v), none, none] E = some (.rt (.val x.d), E') ∧ x.ok w 0 = true ∧ St w (c + 35) E' ∧ Fr w.f w.l E E' := by
    simp only [b__law_test_4]
    by_cases h4 : v = 4
    · subst h4
      cases hs : w.fi.isEmpty
      · obtain ⟨x, E1, e1, hg, S1, F1⟩ := pk wf hw hS (by omega) k (by omega) w.fi hw.gdd hs
        obtain ⟨y, E2, e2, hg2, S2, F2⟩ := pk wf hw S1 (by omega) k (by omega) w.fi hw.gdd hs
        refine ⟨.wth x y, E2, ?_, by simp only [Te.ok, hg, hg2, decide_true, Bool.and_self], S2.le (by omega), F1.trans F2⟩
        clear last
        walk_at "evh"
        rfl
      · walk_at "evh" <;> exact last
    · walk_at "evh" <;> exact last
  simp only [b__law_test_3]
  by_cases h4 : v = 3
  · subst h4
    cases hs : w.fi.isEmpty
    · cases hp : w.pl.isEmpty
      · obtain ⟨x, E1, e1, hg, S1, F1⟩ := pk wf hw hS (by omega) k (by omega) w.fi hw.gdd hs
        obtain ⟨y, E2, e2, hg2, S2, F2⟩ := pk wf hw S1 (by omega) k (by omega) w.pl hw.gc hp
        refine ⟨.at x y, E2, ?_, by simp only [Te.ok, hg, hg2, decide_true, Bool.and_self], S2.le (by omega), F1.trans F2⟩
        clear last mid
        walk_at "evh"
        rfl
      · walk_at "evh" <;> exact mid
    · walk_at "evh" <;> exact mid
  · walk_at "evh" <;> exact mid
set_option maxHeartbeats 4000000 in
theorem test_ok (wf : Nat) (w : Wp) (hw : w.ok) : ∀ (d k c : Nat) (E : Eh), d + 5 < k → St w c E → c + 40 * 4 ^ d ≤ 100000000 →
    ∃ (x : Te) (E' : Eh), callF prog wf k 7 [.ref w.f, .int d, w.q] E = some (.val x.d, E') ∧ x.ok w d = true ∧ St w (c + 40 * 4 ^ d) E' ∧ Fr w.f w.l E E' := by
  intro d
  induction d with
  | zero =>
    intro k c E hk hS hc
    obtain ⟨k, rfl⟩ : ∃ k', k = k' + 1 := ⟨k - 1, by omega⟩
    rw [call_step pg7 _ _ _ _ rfl]
    obtain ⟨v, E1, e1, hv, S1, F1⟩ := dr wf hw hS (by omega) k (by omega) 9 (by omega) (by omega)
    obtain ⟨t, E2, e2, S2, F2⟩ := sp wf hw S1 k (by omega)
    have F12 := F1.trans F2
    have hT := take_fr F12
    cases t with
    | true =>
      refine ⟨.all .nil, E2, ?_, by simp only [Te.ok], S2.le (by omega), F12⟩
      simp only [b__law_test, b__law_test_1]
      walk_at "evh"
      rfl
    | false =>
      obtain ⟨x, E3, e3, hx, S3, F3⟩ := test_tail wf k E.length (by omega) hw S2 (by omega) 0 v hv.1 hv.2
      have F13 := F12.trans F3
      have hT2 := take_fr F13
      have hlow := Te.dlow E.length x
      refine ⟨x, E3, ?_, hx, S3.le (by omega), F13⟩
      have hd0 : ¬ ((0 : Int) < 0) := by omega
      simp only [b__law_test, b__law_test_1, b__law_test_2, Int.natCast_zero]
      by_cases hv2 : v < 3
      · walk_at "evh"
      · walk_at "evh"
  | succ d ih =>
    intro k c E hk hS hc
    obtain ⟨k, rfl⟩ : ∃ k', k = k' + 1 := ⟨k - 1, by omega⟩
    rw [call_step pg7 _ _ _ _ rfl]
    have hpow : 4 ^ (d + 1) = 4 * 4 ^ d := by rw [Nat.pow_succ]; omega
    have hpos : 1 ≤ 4 ^ d := Nat.pow_pos (by omega)
    rw [hpow] at hc ⊢
    obtain ⟨v, E1, e1, hv, S1, F1⟩ := dr wf hw hS (by omega) k (by omega) 9 (by omega) (by omega)
    obtain ⟨t, E2, e2, S2, F2⟩ := sp wf hw S1 k (by omega)
    have F12 := F1.trans F2
    have hT := take_fr F12
    have hd1 : ((d + 1 : Nat) : Int) - 1 = d := by omega
    have hd0 : (0 : Int) < ((d + 1 : Nat) : Int) := by omega
    cases t with
    | true =>
      refine ⟨.all .nil, E2, ?_, by simp only [Te.ok, Tes.ok, Tes.len]; rfl, S2.le (by omega), F12⟩
      simp only [b__law_test, b__law_test_1]
      walk_at "evh"
      rfl
    | false =>
      by_cases hv2 : v < 3
      · obtain ⟨u, E3, e3, hu, S3, F3⟩ := dr wf hw S2 (by omega) k (by omega) 3 (by omega) (by omega)
        have hu1 : -4611686018427387904 ≤ u := by omega
        have hu2 : u < 4611686018427387904 := by omega
        have hul : (rangeD 0 u.toNat).length ≤ 2 := by rw [rangeD_length]; omega
        have hJ : 40 * 4 ^ d * (rangeD 0 u.toNat).length ≤ 40 * 4 ^ d * 2 := Nat.mul_le_mul_left _ hul
        obtain ⟨ys, E4, e4, hP, hlen, S4, F4⟩ := lcL_gen w (callF prog wf k) E.length (40 * 4 ^ d) 100000000 (.nm 5) (.frz (.call 7 (.cons (.var 0) (.cons (.bin .Sub (.var 1) (.int 1)) (.cons (.var 2) .nil))))) .none
          [some (.ref w.f), some (.int ((d + 1 : Nat) : Int)), some w.q, some (.int v), none, none] (fun z => [some (.ref w.f), some (.int ((d + 1 : Nat) : Int)), some w.q, some (.int v), none, some z]) (fun y => ∃ t : Te, y = t.d ∧ t.ok w d = true)
          (rangeD 0 u.toNat) [] _ E3 S3 (by omega) (by simp only [List.length_nil]; omega) (fun z E1 _ => by rw [a_nm]; rfl) (by
            intro z c' E1 _ h1 h2
            obtain ⟨x, E5, e5, hx, S5, F5⟩ := ih k c' E1 (by omega) h1 h2
            refine ⟨true, E1, by rw [cndF, ec_none], by simp, fun _ => ⟨x.d, E5, ?_, ⟨x, rfl, hx⟩, S5, F5⟩⟩
            unfold eltF
            walk_at "evh")
        obtain ⟨ts, rfl, hts, htl⟩ := Tes.of_list d ys hP
        obtain ⟨x, E5, e5, hx, S5, F5⟩ := ih k _ E4 (by omega) S4 (by omega)
        have F15 := ((F12.trans F3).trans F4).trans F5
        have hT2 := take_fr F15
        have hlx := Te.dlow E.length x
        have hly := Tes.dlow E.length ts
        simp only [b__law_test, b__law_test_1, b__law_test_2]
        simp only [List.nil_append] at e4
        have : v = 0 ∨ v = 1 ∨ v = 2 := by omega
        rcases this with rfl | rfl | rfl
        · refine ⟨.not x, E5, ?_, by simp only [Te.ok, hx], S5.le (by omega), F15⟩
          walk_at "evh"
          rfl
        · refine ⟨.all ts, E5, ?_, by simp only [Te.ok, hts, Bool.true_and]; rw [decide_eq_true]; omega, S5.le (by omega), F15⟩
          walk_at "evh"
          rfl
        · refine ⟨.any ts, E5, ?_, by simp only [Te.ok, hts, Bool.true_and]; rw [decide_eq_true]; omega, S5.le (by omega), F15⟩
          walk_at "evh"
          rfl
      · obtain ⟨x, E3, e3, hx, S3, F3⟩ := test_tail wf k E.length (by omega) hw S2 (by omega) ((d + 1 : Nat) : Int) v hv.1 hv.2
        have F13 := F12.trans F3
        have hT2 := take_fr F13
        have hlow := Te.dlow E.length x
        refine ⟨x, E3, ?_, Te.ok_zero x _ hx, S3.le (by omega), F13⟩
        simp only [b__law_test, b__law_test_1, b__law_test_2]
        walk_at "evh"
end K11
end GB11
section GC11
open PySem Ev
local macro_rules | `(tactic| walk_at "ev") => `(tactic| simp only [bnd_some, fin_rt, fin_nx, getv_zero, getv_succ, kVal_e, kTup_e, kLst_e, kDct_e, kRv_e, kBl_e, kBo_e, kBin2_e, kBin_e, kNeg_e, kNot_e, kNotB_e, kBop_e, kCmp2_e, kCmp_e, kTst2_e, kTst_e, kIfx_t, kIfx_f, kCall_e, kCallB_e, kMeth2_e, kMeth_e, kIdx2_e, kIdx_e, kSlc3_e, kSlc2_e, kSlc_e, kRev_e, kNew_e, kReg_v, kReg_n, kLc_e, kLc2_e, kAnd_t, kAnd_f, kOr_t, kOr_f, kVarB_e, asB_bl, asBE_bl, kCallT_e, kTcall_e, kCons2_e, kCons_v, kCons_n, kRs2_e, kRs_e, kPr2_e, kPr_v, kPr_n, kL_e, getL_e, kK_e, asL_ref, s_var, s_int, s_str, s_bl, s_non, s_tup, s_lst, s_dct, s_bin, s_neg, s_not, s_bop, s_cmp, s_ifx, s_call, s_callB, s_meth, s_idx, s_slc, s_rev, s_lc, s_lc2, t_not, t_bop, t_bl, t_var, t_cmp, t_call, t_callB, b_one, b_and, b_or, es_nil, es_cons, er_nil, er_cons, eo_none, asI_int, eo_some, ec_none, ec_some, ep_nil, ep_cons, asIt_dct, asIt_tup, asIt_new, kItR_e, asIt_ref, asIt_str, ei_seq, asRg_one, asRg_nat, ei_range, kEnR_e, asEn_ref, asEn_new, ei_enum, kPut_e, kAsg_v, kAsg_n, x_asg, kPar_e, x_par, kHeap_e, kSto3_e, kSto2_e, kSto_v, kSto_n, x_sto, kExpr_e, x_expr, kRet_e, x_ret, kIf_t, kIf_f, x_if, kFor_e, x_for, x_whl, x_pass, x_brk, x_cont, kSeq_nx, kSeq_rt, kSeq_bk, kSeq_ct, xs_nil, xs_cons, a_nm, a_tp, a_star, as_nil, kTs_e, as_cons, o_addi, o_adds, o_addt, o_addnn, kAddN_e, o_addrn, kAddX_e, o_addnr, kAddR_e, o_addrr, o_subi, o_muli, o_mult, o_div, o_mod, o_pow, c_lt, c_lts, c_le, c_gt, c_ge, c_is, c_isn, kNeq_e, c_eq, c_ne, c_in, c_nin, q_str, q_int, n_tup, i_tup, i_new, i_scr, kAt_e, i_ref, kLook_e, i_dct, i_dnew, l_tup, l_new, l_scr, kCut_e, l_ref, v_tup, v_new, kRvs_e, v_ref, f_len, f_tup, f_lst, f_rep, f_len_t, f_len_n, f_tup_t, f_tup_n, f_lst_t, f_lst_n, kLen_e, f_len_r, kTupB_e, f_tup_r, kLstB_e, f_lst_r, m_app, m_ext, m_pop, m_spl, kApp_e, m_app_e, kExt_e, m_ext_n, kPop_e, m_pop_e, r_app, r_ext, r_pop, kStL_e, st_lst, r_spl, kLv_t, leave_new, leave_val, kFrz_v, kFrz_l, kFrz_d, kIsi_non, kIsi_bl, kIsi_int, kIsi_str, kIsi_tup, kIsi_lst, kIsiT_non, kIsiT_bl, kIsiT_int, kIsiT_str, kIsiT_tup, kIsiT_lst, kDgA_str, kDg3_e, kDg2_e, s_frz, s_isi, t_isi, a_starF, o_addll, o_addln, o_addnl, o_addrl, o_multn, n_lst, n_new, i_lst, i_dctv, l_lst, v_lst, f_len_l, f_tup_l, f_lst_l, asIt_lst, asEn_lst, m_ext_l, f_str, f_int, f_all, f_any, f_srt, f_str_i, f_str_s, f_str_n, f_int_i, f_int_b, m_join, r_join, s_sset, s_lset, kPx2_e, kPx1_v, kPx1_n, kPx_s, kPx_i, ex_nil, ex_cons, s_dcx, kNewD_e, kDcm_e, s_dcm, f_dic, m_upd, r_upd, kUpd_e, m_upd_n, kStK_e, st_dct, kHas_e, n_dref, n_dctv, q_at, Ev.setAll, wipeD, D.low, D.lows, Rv.low, O.low, D.flat, D.eqf, D.keyOf, Ev.look, Ev.put, ofString_inj, sizeLine_eq, atI0, atI1, atI2, atI3, atI4, atI5, lows_app, isiB, lookR,
  List.map_cons, List.map_nil, List.length_cons, List.length_nil, List.getElem?_cons_zero, List.getElem?_cons_succ, List.replicate, List.cons_append, List.nil_append, List.append_nil, List.set_cons_succ, List.set_cons_zero, List.drop_succ_cons, List.drop_zero, List.take_left, List.take_length, List.all_cons, List.all_nil, List.any_cons, List.any_nil, List.getElem?_nil, List.foldl_cons, List.foldl_nil, List.zip_cons_cons, List.zip_nil_right, List.zip_nil_left, List.flatten_cons, List.flatten_nil,
  Nat.reduceAdd, Nat.reduceSub, Nat.zero_add, Nat.add_zero, Nat.reduceLeDiff, Nat.reduceLT, Int.reduceLE, Int.reduceLT, Int.reduceToNat, Int.reduceNeg, decide_true, decide_false, Bool.not_true, Bool.not_false, Bool.and_true, Bool.true_and, Bool.and_false, Bool.false_and, Bool.or_true, Bool.true_or, Bool.or_false, Bool.false_or, if_true, if_false, reduceIte, Bool.false_eq_true, String.reduceEq, and_true, true_and, and_self, reduceCtorEq, ne_eq, not_true_eq_false, not_false_eq_true, List.getElem?_append_right, Nat.sub_self, Nat.le_refl, List.length_append, grd_pos, Sum.inr.injEq, eq_self, Ev.big, Int.reduceEq, Int.reduceNe, Int.reducePow, Int.reduceMul, Int.reduceAdd, Int.reduceSub, List.length_map, List.isEmpty_nil, List.isEmpty_cons, List.set_set, take_set, List.getElem?_set_self, List.getElem?_set_ne, List.length_set, List.getElem?_append_left, Option.isSome_some, mayPut, ixN_lit])
local macro_rules | `(tactic| walk_at "evh") => `(tactic| simp only [*, bnd_some, fin_rt, fin_nx, getv_zero, getv_succ, kVal_e, kTup_e, kLst_e, kDct_e, kRv_e, kBl_e, kBo_e, kBin2_e, kBin_e, kNeg_e, kNot_e, kNotB_e, kBop_e, kCmp2_e, kCmp_e, kTst2_e, kTst_e, kIfx_t, kIfx_f, kCall_e, kCallB_e, kMeth2_e, kMeth_e, kIdx2_e, kIdx_e, kSlc3_e, kSlc2_e, kSlc_e, kRev_e, kNew_e, kReg_v, kReg_n, kLc_e, kLc2_e, kAnd_t, kAnd_f, kOr_t, kOr_f, kVarB_e, asB_bl, asBE_bl, kCallT_e, kTcall_e, kCons2_e, kCons_v, kCons_n, kRs2_e, kRs_e, kPr2_e, kPr_v, kPr_n, kL_e, getL_e, kK_e, asL_ref, s_var, s_int, s_str, s_bl, s_non, s_tup, s_lst, s_dct, s_bin, s_neg, s_not, s_bop, s_cmp, s_ifx, s_call, s_callB, s_meth, s_idx, s_slc, s_rev, s_lc, s_lc2, t_not, t_bop, t_bl, t_var, t_cmp, t_call, t_callB, b_one, b_and, b_or, es_nil, es_cons, er_nil, er_cons, eo_none, asI_int, eo_some, ec_none, ec_some, ep_nil, ep_cons, asIt_dct, asIt_tup, asIt_new, kItR_e, asIt_ref, asIt_str, ei_seq, asRg_one, asRg_nat, ei_range, kEnR_e, asEn_ref, asEn_new, ei_enum, kPut_e, kAsg_v, kAsg_n, x_asg, kPar_e, x_par, kHeap_e, kSto3_e, kSto2_e, kSto_v, kSto_n, x_sto, kExpr_e, x_expr, kRet_e, x_ret, kIf_t, kIf_f, x_if, kFor_e, x_for, x_whl, x_pass, x_brk, x_cont, kSeq_nx, kSeq_rt, kSeq_bk, kSeq_ct, xs_nil, xs_cons, a_nm, a_tp, a_star, as_nil, kTs_e, as_cons, o_addi, o_adds, o_addt, o_addnn, kAddN_e, o_addrn, kAddX_e, o_addnr, kAddR_e, o_addrr, o_subi, o_muli, o_mult, o_div, o_mod, o_pow, c_lt, c_lts, c_le, c_gt, c_ge, c_is, c_isn, kNeq_e, c_eq, c_ne, c_in, c_nin, q_str, q_int, n_tup, i_tup, i_new, i_scr, kAt_e, i_ref, kLook_e, i_dct, i_dnew, l_tup, l_new, l_scr, kCut_e, l_ref, v_tup, v_new, kRvs_e, v_ref, f_len, f_tup, f_lst, f_rep, f_len_t, f_len_n, f_tup_t, f_tup_n, f_lst_t, f_lst_n, kLen_e, f_len_r, kTupB_e, f_tup_r, kLstB_e, f_lst_r, m_app, m_ext, m_pop, m_spl, kApp_e, m_app_e, kExt_e, m_ext_n, kPop_e, m_pop_e, r_app, r_ext, r_pop, kStL_e, st_lst, r_spl, kLv_t, leave_new, leave_val, kFrz_v, kFrz_l, kFrz_d, kIsi_non, kIsi_bl, kIsi_int, kIsi_str, kIsi_tup, kIsi_lst, kIsiT_non, kIsiT_bl, kIsiT_int, kIsiT_str, kIsiT_tup, kIsiT_lst, kDgA_str, kDg3_e, kDg2_e, s_frz, s_isi, t_isi, a_starF, o_addll, o_addln, o_addnl, o_addrl, o_multn, n_lst, n_new, i_lst, i_dctv, l_lst, v_lst, f_len_l, f_tup_l, f_lst_l, asIt_lst, asEn_lst, m_ext_l, f_str, f_int, f_all, f_any, f_srt, f_str_i, f_str_s, f_str_n, f_int_i, f_int_b, m_join, r_join, s_sset, s_lset, kPx2_e, kPx1_v, kPx1_n, kPx_s, kPx_i, ex_nil, ex_cons, s_dcx, kNewD_e, kDcm_e, s_dcm, f_dic, m_upd, r_upd, kUpd_e, m_upd_n, kStK_e, st_dct, kHas_e, n_dref, n_dctv, q_at, Ev.setAll, wipeD, D.low, D.lows, Rv.low, O.low, D.flat, D.eqf, D.keyOf, Ev.look, Ev.put, ofString_inj, sizeLine_eq, atI0, atI1, atI2, atI3, atI4, atI5, lows_app, isiB, lookR,
  List.map_cons, List.map_nil, List.length_cons, List.length_nil, List.getElem?_cons_zero, List.getElem?_cons_succ, List.replicate, List.cons_append, List.nil_append, List.append_nil, List.set_cons_succ, List.set_cons_zero, List.drop_succ_cons, List.drop_zero, List.take_left, List.take_length, List.all_cons, List.all_nil, List.any_cons, List.any_nil, List.getElem?_nil, List.foldl_cons, List.foldl_nil, List.zip_cons_cons, List.zip_nil_right, List.zip_nil_left, List.flatten_cons, List.flatten_nil,
  Nat.reduceAdd, Nat.reduceSub, Nat.zero_add, Nat.add_zero, Nat.reduceLeDiff, Nat.reduceLT, Int.reduceLE, Int.reduceLT, Int.reduceToNat, Int.reduceNeg, decide_true, decide_false, Bool.not_true, Bool.not_false, Bool.and_true, Bool.true_and, Bool.and_false, Bool.false_and, Bool.or_true, Bool.true_or, Bool.or_false, Bool.false_or, if_true, if_false, reduceIte, Bool.false_eq_true, String.reduceEq, and_true, true_and, and_self, reduceCtorEq, ne_eq, not_true_eq_false, not_false_eq_true, List.getElem?_append_right, Nat.sub_self, Nat.le_refl, List.length_append, grd_pos, Sum.inr.injEq, eq_self, Ev.big, Int.reduceEq, Int.reduceNe, Int.reducePow, Int.reduceMul, Int.reduceAdd, Int.reduceSub, List.length_map, List.isEmpty_nil, List.isEmpty_cons, List.set_set, take_set, List.getElem?_set_self, List.getElem?_set_ne, List.length_set, List.getElem?_append_left, Option.isSome_some, mayPut, ixN_lit])
namespace K11
open PySem Ev
set_option maxHeartbeats 4000000 in
theorem piece_tail (wf k b : Nat) (hk : 6 < k) {w : Wp} (hw : w.ok) {c : Nat} {E : Eh} (hS : St w c E) (hc : c + 400 < 1000000000) (d v : Int) (o : Bool) (h0 : 0 ≤ v) (h9 : v < 9) :
    ∃ (x : Pc) (E' : Eh), exs (callF prog wf k) wf b b__law_piece_3 [some (.ref w.f), some (.int d), some w.q, some (.bl o), some (.int v), none] E = some (.rt (.val x.d), E') ∧ x.ok w o 0 = true ∧ St w (c + 64) E' ∧ Fr w.f w.l E E' := by
  have hd := hw.d
  have qd : ∀ E, eqRv E (.val (.lst (w.fi.map .str))) (.new (.lst [])) = some w.fi.isEmpty := fun E => eqRv_lstrs hw.gdd.ok
  have last : ∃ (x : Pc) (E' : Eh), exs (callF prog wf k) wf b b__law_piece_5 [some (.ref w.f), some (.int d), some w.q, some (.bl o), some (.int v), none] E = some (.rt (.val x.d), E') ∧ x.ok w o 0 = true ∧ St w (c + 64) E' ∧ Fr w.f w.l E E' := by
    simp only [b__law_piece_5, b__law_piece_6]
    by_cases h6 : v < 6
    · have hm := fmod_lt' v (m := 2) (by omega)
      have : v.fmod 2 = 0 ∨ v.fmod 2 = 1 := by omega
      rcases this with h2 | h2
      · refine ⟨.fin, E, ?_, by simp only [Pc.ok], hS.le (by omega), Fr.refl ..⟩
        walk_at "evh"
        rfl
      · refine ⟨.glue, E, ?_, by simp only [Pc.ok], hS.le (by omega), Fr.refl ..⟩
        walk_at "evh"
        rfl
    · obtain ⟨u, E1, e1, hu, S1, F1⟩ := dr wf hw hS (by omega) k (by omega) 8 (by omega) (by omega)
      obtain ⟨y, hy, hm⟩ := atI_mem ([.str "", .str " ", .str "You go.", .str "a  b ", .str "done", .str "else", .str "text x", .str "if all 0"] : List D) u hu.1 hu.2
      have : ∃ x : Str, y = .str x ∧ gd x = true := by
        simp only [List.mem_cons, List.not_mem_nil, or_false] at hm
        rcases hm with h | h | h | h | h | h | h | h <;> exact ⟨_, h, by decide +kernel⟩
      obtain ⟨x, rfl, hx⟩ := this
      refine ⟨.txt x, E1, ?_, by simp only [Pc.ok, hx], S1.le (by omega), F1⟩
      walk_at "evh"
      rfl
  have mid : ∃ (x : Pc) (E' : Eh), exs (callF prog wf k) wf b b__law_piece_4 [some (.ref w.f), some (.int d), some w.q, some (.bl o), some (.int v), none] E = some (.rt (.val x.d), E') ∧ x.ok w o 0 = true ∧ St w (c + 64) E' ∧ Fr w.f w.l E E' := by
    simp only [b__law_piece_4]
    by_cases h4 : v = 3
    · subst h4
      cases hs : w.fi.isEmpty
      · obtain ⟨x, E1, e1, hg, S1, F1⟩ := pk wf hw hS (by omega) k (by omega) w.fi hw.gdd hs
        refine ⟨.place x, E1, ?_, by simp only [Pc.ok, hg, decide_true], S1.le (by omega), F1⟩
        clear last
        walk_at "evh"
        rfl
      · walk_at "evh" <;> exact last
    · walk_at "evh" <;> exact last
  simp only [b__law_piece_3]
  by_cases h4 : v = 2
  · subst h4
    obtain ⟨x, E1, e1, hx, S1, F1⟩ := sum_ok wf w hw 2 k c E (by omega) hS (by omega)
    simp only [show ((2 : Nat) : Int) = 2 from rfl] at e1
    refine ⟨.worth x, E1, ?_, by simp only [Pc.ok]; exact hx, S1.le (by omega), F1⟩
    clear last mid
    walk_at "evh"
    rfl
  · walk_at "evh" <;> exact mid
set_option maxHeartbeats 4000000 in
theorem pieces_of (wf : Nat) (w : Wp) (hw : w.ok) (d J : Nat) (o : Bool) (k : Nat)
    (hp : ∀ (c : Nat) (E : Eh), St w c E → c + J ≤ 100000000 → ∃ (x : Pc) (E' : Eh), callF prog wf k 9 [.ref w.f, .int d, w.q, .bl o] E = some (.val x.d, E') ∧ x.ok w o d = true ∧ St w (c + J) E' ∧ Fr w.f w.l E E')
    (c : Nat) (E : Eh) (hk : 1 < k) (hS : St w c E) (hc : c + (1 + 2 * J) ≤ 100000000) :
    ∃ (x : Pcs) (E' : Eh), callF prog wf (k + 1) 8 [.ref w.f, .int d, w.q, .bl o] E = some (.val (.tup x.ds), E') ∧ x.ok w o d = true ∧ x.len ≤ 2 ∧ St w (c + (1 + 2 * J)) E' ∧ Fr w.f w.l E E' := by
  rw [call_step pg8 _ _ _ _ rfl]
  have hq := hw.l
  obtain ⟨lf, hl⟩ := hS.l
  have loop : ∀ (u : Int) (c1 : Nat) (E3 : Eh), 0 ≤ u → u < 3 → St w c1 E3 → Fr w.f w.l E E3 → c1 ≤ c + 1 → ∃ (x : Pcs) (E' : Eh),
      exs (callF prog wf k) wf E.length b__law_pieces_1 [some (.ref w.f), some (.int d), some w.q, some (.bl o), some (.int u), none] E3 = some (.rt (.val (.tup x.ds)), E') ∧ x.ok w o d = true ∧ x.len ≤ 2 ∧ St w (c + (1 + 2 * J)) E' ∧ Fr w.f w.l E E' := by
    intro u c1 E3 u0 u3 S3 F3 hc1
    have hu1 : -4611686018427387904 ≤ u := by omega
    have hu2 : u < 4611686018427387904 := by omega
    have hul : (rangeD 0 u.toNat).length ≤ 2 := by rw [rangeD_length]; omega
    have hJ : J * (rangeD 0 u.toNat).length ≤ J * 2 := Nat.mul_le_mul_left _ hul
    obtain ⟨ys, E4, e4, hP, hlen, S4, F4⟩ := lcL_gen w (callF prog wf k) E.length J 100000000 (.nm 5) (.frz (.call 9 (.cons (.var 0) (.cons (.var 1) (.cons (.var 2) (.cons (.var 3) .nil)))))) .none
      [some (.ref w.f), some (.int d), some w.q, some (.bl o), some (.int u), none] (fun z => [some (.ref w.f), some (.int d), some w.q, some (.bl o), some (.int u), some z]) (fun y => ∃ t : Pc, y = t.d ∧ t.ok w o d = true)
      (rangeD 0 u.toNat) [] _ E3 S3 (by omega) (by simp only [List.length_nil]; omega) (fun z E1 _ => by rw [a_nm]; rfl) (by
        intro z c' E1 _ h1 h2
        obtain ⟨x, E5, e5, hx, S5, F5⟩ := hp c' E1 h1 h2
        refine ⟨true, E1, by rw [cndF, ec_none], by simp, fun _ => ⟨x.d, E5, ?_, ⟨x, rfl, hx⟩, S5, F5⟩⟩
        unfold eltF
        walk_at "evh")
    obtain ⟨ts, rfl, hts, htl⟩ := Pcs.of_list d ys hP
    simp only [List.nil_append] at e4
    refine ⟨ts, E4, ?_, hts, by omega, S4.le (by omega), F3.trans F4⟩
    simp only [b__law_pieces_1]
    walk_at "evh"
  simp only [b__law_pieces]
  by_cases h : 0 < lf
  · obtain ⟨u, E3, e3, hu, S3, F3⟩ := dr wf hw hS (by omega) k (by omega) 3 (by omega) (by omega)
    obtain ⟨x, E', e', h1, h2, h3, h4⟩ := loop u (c + 1) E3 hu.1 hu.2 S3 F3 (by omega)
    have hT := take_fr h4
    have hlx := Pcs.dlow E.length x
    refine ⟨x, E', ?_, h1, h2, h3, h4⟩
    clear loop
    walk_at "evh"
  · obtain ⟨x, E', e', h1, h2, h3, h4⟩ := loop 0 c E (by omega) (by omega) hS (Fr.refl ..) (by omega)
    have hT := take_fr h4
    have hlx := Pcs.dlow E.length x
    refine ⟨x, E', ?_, h1, h2, h3, h4⟩
    clear loop
    walk_at "evh"
set_option maxHeartbeats 4000000 in
theorem piece_ok (wf : Nat) (w : Wp) (hw : w.ok) (o : Bool) : ∀ (d k c : Nat) (E : Eh), 2 * d + 8 < k → St w c E → c + 400 * 8 ^ d ≤ 100000000 →
    ∃ (x : Pc) (E' : Eh), callF prog wf k 9 [.ref w.f, .int d, w.q, .bl o] E = some (.val x.d, E') ∧ x.ok w o d = true ∧ St w (c + 400 * 8 ^ d) E' ∧ Fr w.f w.l E E' := by
  intro d
  induction d with
  | zero =>
    intro k c E hk hS hc
    obtain ⟨k, rfl⟩ : ∃ k', k = k' + 1 := ⟨k - 1, by omega⟩
    rw [call_step pg9 _ _ _ _ rfl]
    obtain ⟨v, E1, e1, hv, S1, F1⟩ := dr wf hw hS (by omega) k (by omega) 9 (by omega) (by omega)
    obtain ⟨t, E2, e2, S2, F2⟩ := sp wf hw S1 k (by omega)
    have F12 := F1.trans F2
    have hT := take_fr F12
    cases t with
    | true =>
      refine ⟨.fin, E2, ?_, by simp only [Pc.ok], S2.le (by omega), F12⟩
      simp only [b__law_piece, b__law_piece_1]
      walk_at "evh"
      rfl
    | false =>
      obtain ⟨x, E3, e3, hx, S3, F3⟩ := piece_tail wf k E.length (by omega) hw S2 (by omega) 0 v o hv.1 hv.2
      have F13 := F12.trans F3
      have hT2 := take_fr F13
      have hlow := Pc.dlow E.length x
      refine ⟨x, E3, ?_, hx, S3.le (by omega), F13⟩
      have hd0 : ¬ ((0 : Int) < 0) := by omega
      simp only [b__law_piece, b__law_piece_1, b__law_piece_2, Int.natCast_zero]
      by_cases hv2 : v < 2
      · walk_at "evh"
      · walk_at "evh"
  | succ d ih =>
    intro k c E hk hS hc
    obtain ⟨k, rfl⟩ : ∃ k', k = k' + 2 := ⟨k - 2, by omega⟩
    have ihs := pieces_of wf w hw d (400 * 8 ^ d) o k (fun c E h1 h2 => ih k c E (by omega) h1 h2)
    rw [call_step pg9 _ _ _ _ rfl]
    have hpow : 8 ^ (d + 1) = 8 * 8 ^ d := by rw [Nat.pow_succ]; omega
    have hpos : 1 ≤ 8 ^ d := Nat.pow_pos (by omega)
    rw [hpow] at hc ⊢
    obtain ⟨v, E1, e1, hv, S1, F1⟩ := dr wf hw hS (by omega) (k + 1) (by omega) 9 (by omega) (by omega)
    obtain ⟨t, E2, e2, S2, F2⟩ := sp wf hw S1 (k + 1) (by omega)
    have F12 := F1.trans F2
    have hT := take_fr F12
    have hd1 : ((d + 1 : Nat) : Int) - 1 = d := by omega
    have hd0 : (0 : Int) < ((d + 1 : Nat) : Int) := by omega
    cases t with
    | true =>
      refine ⟨.fin, E2, ?_, by simp only [Pc.ok], S2.le (by omega), F12⟩
      simp only [b__law_piece, b__law_piece_1]
      walk_at "evh"
      rfl
    | false =>
      by_cases hv2 : v < 2
      · obtain ⟨x, E3, e3, hx, hxl, S3, F3⟩ := ihs (c + 1) E2 (by omega) S2 (by omega)
        have iff_case : ∀ (hvo : (v = 1 ∧ o = true) = False), ∃ (x : Pc) (E' : Eh), bnd (exs (callF prog wf (k + 1)) wf E.length b__law_piece ([.ref w.f, .int ((d + 1 : Nat) : Int), w.q, .bl o].map some ++ List.replicate (6 - 4) none) E) (fin E.length) = some (.val x.d, E') ∧ x.ok w o (d + 1) = true ∧ St w (c + 400 * (8 * 8 ^ d)) E' ∧ Fr w.f w.l E E' := by
          intro hvo
          obtain ⟨t, E4, e4, ht, S4, F4⟩ := test_ok wf w hw 1 (k + 1) _ E3 (by omega) S3 (by omega)
          obtain ⟨y, E5, e5, hy, hyl, S5, F5⟩ := ihs _ E4 (by omega) S4 (by omega)
          simp only [show ((1 : Nat) : Int) = 1 from rfl] at e4
          have F15 := ((F12.trans F3).trans F4).trans F5
          have hT2 := take_fr F15
          have hl1 := Pcs.dlow E.length x
          have hl2 := Pcs.dlow E.length y
          have hl3 := Te.dlow E.length t
          refine ⟨.iff t x y, E5, ?_, by simp only [Pc.ok, ht, hx, hy, Bool.true_and]; rw [decide_eq_true (by omega), decide_eq_true (by omega)]; rfl, S5.le (by omega), F15⟩
          clear ih ihs
          simp only [b__law_piece, b__law_piece_1, b__law_piece_2]
          have : v = 0 ∨ v = 1 := by omega
          rcases this with rfl | rfl
          · walk_at "evh"
            rfl
          · have : o = false := by cases o <;> simp_all
            subst this
            walk_at "evh"
            rfl
        by_cases hvo : v = 1 ∧ o = true
        · obtain ⟨rfl, rfl⟩ := hvo
          obtain ⟨u, E4, e4, hu, S4, F4⟩ := dr wf hw S3 (by omega) (k + 1) (by omega) 2 (by omega) (by omega)
          have F14 := (F12.trans F3).trans F4
          have hT2 := take_fr F14
          have hl1 := Pcs.dlow E.length x
          have g1 : gd "ann" = true := by decide +kernel
          have g2 : gd "zoe" = true := by decide +kernel
          clear ih ihs iff_case
          simp only [b__law_piece, b__law_piece_1, b__law_piece_2]
          have : u = 0 ∨ u = 1 := by omega
          rcases this with rfl | rfl
          · refine ⟨.only "ann" x, E4, ?_, by simp only [Pc.ok, g1, hx, Bool.true_and]; rw [decide_eq_true (by omega)], S4.le (by omega), F14⟩
            walk_at "evh"
            rfl
          · refine ⟨.only "zoe" x, E4, ?_, by simp only [Pc.ok, g2, hx, Bool.true_and]; rw [decide_eq_true (by omega)], S4.le (by omega), F14⟩
            walk_at "evh"
            rfl
        · exact iff_case (by simp only [eq_iff_iff, iff_false]; exact hvo)
      · obtain ⟨x, E3, e3, hx, S3, F3⟩ := piece_tail wf (k + 1) E.length (by omega) hw S2 (by omega) ((d + 1 : Nat) : Int) v o hv.1 hv.2
        have F13 := F12.trans F3
        have hT2 := take_fr F13
        have hlow := Pc.dlow E.length x
        refine ⟨x, E3, ?_, Pc.ok_zero x _ hx, S3.le (by omega), F13⟩
        clear ih ihs
        simp only [b__law_piece, b__law_piece_1, b__law_piece_2]
        walk_at "evh"
theorem pieces_ok (wf : Nat) (w : Wp) (hw : w.ok) (o : Bool) (d k c : Nat) (E : Eh) (hk : 2 * d + 9 < k) (hS : St w c E) (hc : c + (1 + 800 * 8 ^ d) ≤ 100000000) :
    ∃ (x : Pcs) (E' : Eh), callF prog wf k 8 [.ref w.f, .int d, w.q, .bl o] E = some (.val (.tup x.ds), E') ∧ x.ok w o d = true ∧ x.len ≤ 2 ∧ St w (c + (1 + 800 * 8 ^ d)) E' ∧ Fr w.f w.l E E' := by
  obtain ⟨k, rfl⟩ : ∃ k', k = k' + 1 := ⟨k - 1, by omega⟩
  have := pieces_of wf w hw d (400 * 8 ^ d) o k (fun c E h1 h2 => piece_ok wf w hw o d k c E (by omega) h1 h2) c E (by omega) hS (by omega)
  rw [show 2 * (400 * 8 ^ d) = 800 * 8 ^ d by omega] at this
  exact this
end K11
end GC11
section GD11
open PySem Ev
local macro_rules | `(tactic| walk_at "ev") => `(tactic| simp only [bnd_some, fin_rt, fin_nx, getv_zero, getv_succ, kVal_e, kTup_e, kLst_e, kDct_e, kRv_e, kBl_e, kBo_e, kBin2_e, kBin_e, kNeg_e, kNot_e, kNotB_e, kBop_e, kCmp2_e, kCmp_e, kTst2_e, kTst_e, kIfx_t, kIfx_f, kCall_e, kCallB_e, kMeth2_e, kMeth_e, kIdx2_e, kIdx_e, kSlc3_e, kSlc2_e, kSlc_e, kRev_e, kNew_e, kReg_v, kReg_n, kLc_e, kLc2_e, kAnd_t, kAnd_f, kOr_t, kOr_f, kVarB_e, asB_bl, asBE_bl, kCallT_e, kTcall_e, kCons2_e, kCons_v, kCons_n, kRs2_e, kRs_e, kPr2_e, kPr_v, kPr_n, kL_e, getL_e, kK_e, asL_ref, s_var, s_int, s_str, s_bl, s_non, s_tup, s_lst, s_dct, s_bin, s_neg, s_not, s_bop, s_cmp, s_ifx, s_call, s_callB, s_meth, s_idx, s_slc, s_rev, s_lc, s_lc2, t_not, t_bop, t_bl, t_var, t_cmp, t_call, t_callB, b_one, b_and, b_or, es_nil, es_cons, er_nil, er_cons, eo_none, asI_int, eo_some, ec_none, ec_some, ep_nil, ep_cons, asIt_dct, asIt_tup, asIt_new, kItR_e, asIt_ref, asIt_str, ei_seq, asRg_one, asRg_nat, ei_range, kEnR_e, asEn_ref, asEn_new, ei_enum, kPut_e, kAsg_v, kAsg_n, x_asg, kPar_e, x_par, kHeap_e, kSto3_e, kSto2_e, kSto_v, kSto_n, x_sto, kExpr_e, x_expr, kRet_e, x_ret, kIf_t, kIf_f, x_if, kFor_e, x_for, x_whl, x_pass, x_brk, x_cont, kSeq_nx, kSeq_rt, kSeq_bk, kSeq_ct, xs_nil, xs_cons, a_nm, a_tp, a_star, as_nil, kTs_e, as_cons, o_addi, o_adds, o_addt, o_addnn, kAddN_e, o_addrn, kAddX_e, o_addnr, kAddR_e, o_addrr, o_subi, o_muli, o_mult, o_div, o_mod, o_pow, c_lt, c_lts, c_le, c_gt, c_ge, c_is, c_isn, kNeq_e, c_eq, c_ne, c_in, c_nin, q_str, q_int, n_tup, i_tup, i_new, i_scr, kAt_e, i_ref, kLook_e, i_dct, i_dnew, l_tup, l_new, l_scr, kCut_e, l_ref, v_tup, v_new, kRvs_e, v_ref, f_len, f_tup, f_lst, f_rep, f_len_t, f_len_n, f_tup_t, f_tup_n, f_lst_t, f_lst_n, kLen_e, f_len_r, kTupB_e, f_tup_r, kLstB_e, f_lst_r, m_app, m_ext, m_pop, m_spl, kApp_e, m_app_e, kExt_e, m_ext_n, kPop_e, m_pop_e, r_app, r_ext, r_pop, kStL_e, st_lst, r_spl, kLv_t, leave_new, leave_val, kFrz_v, kFrz_l, kFrz_d, kIsi_non, kIsi_bl, kIsi_int, kIsi_str, kIsi_tup, kIsi_lst, kIsiT_non, kIsiT_bl, kIsiT_int, kIsiT_str, kIsiT_tup, kIsiT_lst, kDgA_str, kDg3_e, kDg2_e, s_frz, s_isi, t_isi, a_starF, o_addll, o_addln, o_addnl, o_addrl, o_multn, n_lst, n_new, i_lst, i_dctv, l_lst, v_lst, f_len_l, f_tup_l, f_lst_l, asIt_lst, asEn_lst, m_ext_l, f_str, f_int, f_all, f_any, f_srt, f_str_i, f_str_s, f_str_n, f_int_i, f_int_b, m_join, r_join, s_sset, s_lset, kPx2_e, kPx1_v, kPx1_n, kPx_s, kPx_i, ex_nil, ex_cons, s_dcx, kNewD_e, kDcm_e, s_dcm, f_dic, m_upd, r_upd, kUpd_e, m_upd_n, kStK_e, st_dct, kHas_e, n_dref, n_dctv, q_at, Ev.setAll, wipeD, D.low, D.lows, Rv.low, O.low, D.flat, D.eqf, D.keyOf, Ev.look, Ev.put, ofString_inj, sizeLine_eq, atI0, atI1, atI2, atI3, atI4, atI5, lows_app, isiB, lookR,
  List.map_cons, List.map_nil, List.length_cons, List.length_nil, List.getElem?_cons_zero, List.getElem?_cons_succ, List.replicate, List.cons_append, List.nil_append, List.append_nil, List.set_cons_succ, List.set_cons_zero, List.drop_succ_cons, List.drop_zero, List.take_left, List.take_length, List.all_cons, List.all_nil, List.any_cons, List.any_nil, List.getElem?_nil, List.foldl_cons, List.foldl_nil, List.zip_cons_cons, List.zip_nil_right, List.zip_nil_left, List.flatten_cons, List.flatten_nil,
  Nat.reduceAdd, Nat.reduceSub, Nat.zero_add, Nat.add_zero, Nat.reduceLeDiff, Nat.reduceLT, Int.reduceLE, Int.reduceLT, Int.reduceToNat, Int.reduceNeg, decide_true, decide_false, Bool.not_true, Bool.not_false, Bool.and_true, Bool.true_and, Bool.and_false, Bool.false_and, Bool.or_true, Bool.true_or, Bool.or_false, Bool.false_or, if_true, if_false, reduceIte, Bool.false_eq_true, String.reduceEq, and_true, true_and, and_self, reduceCtorEq, ne_eq, not_true_eq_false, not_false_eq_true, List.getElem?_append_right, Nat.sub_self, Nat.le_refl, List.length_append, grd_pos, Sum.inr.injEq, eq_self, Ev.big, Int.reduceEq, Int.reduceNe, Int.reducePow, Int.reduceMul, Int.reduceAdd, Int.reduceSub, List.length_map, List.isEmpty_nil, List.isEmpty_cons, List.set_set, take_set, List.getElem?_set_self, List.getElem?_set_ne, List.length_set, List.getElem?_append_left, Option.isSome_some, mayPut, ixN_lit])
local macro_rules | `(tactic| walk_at "evh") => `(tactic| simp only [*, bnd_some, fin_rt, fin_nx, getv_zero, getv_succ, kVal_e, kTup_e, kLst_e, kDct_e, kRv_e, kBl_e, kBo_e, kBin2_e, kBin_e, kNeg_e, kNot_e, kNotB_e, kBop_e, kCmp2_e, kCmp_e, kTst2_e, kTst_e, kIfx_t, kIfx_f, kCall_e, kCallB_e, kMeth2_e, kMeth_e, kIdx2_e, kIdx_e, kSlc3_e, kSlc2_e, kSlc_e, kRev_e, kNew_e, kReg_v, kReg_n, kLc_e, kLc2_e, kAnd_t, kAnd_f, kOr_t, kOr_f, kVarB_e, asB_bl, asBE_bl, kCallT_e, kTcall_e, kCons2_e, kCons_v, kCons_n, kRs2_e, kRs_e, kPr2_e, kPr_v, kPr_n, kL_e, getL_e, kK_e, asL_ref, s_var, s_int, s_str, s_bl, s_non, s_tup, s_lst, s_dct, s_bin, s_neg, s_not, s_bop, s_cmp, s_ifx, s_call, s_callB, s_meth, s_idx, s_slc, s_rev, s_lc, s_lc2, t_not, t_bop, t_bl, t_var, t_cmp, t_call, t_callB, b_one, b_and, b_or, es_nil, es_cons, er_nil, er_cons, eo_none, asI_int, eo_some, ec_none, ec_some, ep_nil, ep_cons, asIt_dct, asIt_tup, asIt_new, kItR_e, asIt_ref, asIt_str, ei_seq, asRg_one, asRg_nat, ei_range, kEnR_e, asEn_ref, asEn_new, ei_enum, kPut_e, kAsg_v, kAsg_n, x_asg, kPar_e, x_par, kHeap_e, kSto3_e, kSto2_e, kSto_v, kSto_n, x_sto, kExpr_e, x_expr, kRet_e, x_ret, kIf_t, kIf_f, x_if, kFor_e, x_for, x_whl, x_pass, x_brk, x_cont, kSeq_nx, kSeq_rt, kSeq_bk, kSeq_ct, xs_nil, xs_cons, a_nm, a_tp, a_star, as_nil, kTs_e, as_cons, o_addi, o_adds, o_addt, o_addnn, kAddN_e, o_addrn, kAddX_e, o_addnr, kAddR_e, o_addrr, o_subi, o_muli, o_mult, o_div, o_mod, o_pow, c_lt, c_lts, c_le, c_gt, c_ge, c_is, c_isn, kNeq_e, c_eq, c_ne, c_in, c_nin, q_str, q_int, n_tup, i_tup, i_new, i_scr, kAt_e, i_ref, kLook_e, i_dct, i_dnew, l_tup, l_new, l_scr, kCut_e, l_ref, v_tup, v_new, kRvs_e, v_ref, f_len, f_tup, f_lst, f_rep, f_len_t, f_len_n, f_tup_t, f_tup_n, f_lst_t, f_lst_n, kLen_e, f_len_r, kTupB_e, f_tup_r, kLstB_e, f_lst_r, m_app, m_ext, m_pop, m_spl, kApp_e, m_app_e, kExt_e, m_ext_n, kPop_e, m_pop_e, r_app, r_ext, r_pop, kStL_e, st_lst, r_spl, kLv_t, leave_new, leave_val, kFrz_v, kFrz_l, kFrz_d, kIsi_non, kIsi_bl, kIsi_int, kIsi_str, kIsi_tup, kIsi_lst, kIsiT_non, kIsiT_bl, kIsiT_int, kIsiT_str, kIsiT_tup, kIsiT_lst, kDgA_str, kDg3_e, kDg2_e, s_frz, s_isi, t_isi, a_starF, o_addll, o_addln, o_addnl, o_addrl, o_multn, n_lst, n_new, i_lst, i_dctv, l_lst, v_lst, f_len_l, f_tup_l, f_lst_l, asIt_lst, asEn_lst, m_ext_l, f_str, f_int, f_all, f_any, f_srt, f_str_i, f_str_s, f_str_n, f_int_i, f_int_b, m_join, r_join, s_sset, s_lset, kPx2_e, kPx1_v, kPx1_n, kPx_s, kPx_i, ex_nil, ex_cons, s_dcx, kNewD_e, kDcm_e, s_dcm, f_dic, m_upd, r_upd, kUpd_e, m_upd_n, kStK_e, st_dct, kHas_e, n_dref, n_dctv, q_at, Ev.setAll, wipeD, D.low, D.lows, Rv.low, O.low, D.flat, D.eqf, D.keyOf, Ev.look, Ev.put, ofString_inj, sizeLine_eq, atI0, atI1, atI2, atI3, atI4, atI5, lows_app, isiB, lookR,
  List.map_cons, List.map_nil, List.length_cons, List.length_nil, List.getElem?_cons_zero, List.getElem?_cons_succ, List.replicate, List.cons_append, List.nil_append, List.append_nil, List.set_cons_succ, List.set_cons_zero, List.drop_succ_cons, List.drop_zero, List.take_left, List.take_length, List.all_cons, List.all_nil, List.any_cons, List.any_nil, List.getElem?_nil, List.foldl_cons, List.foldl_nil, List.zip_cons_cons, List.zip_nil_right, List.zip_nil_left, List.flatten_cons, List.flatten_nil,
  Nat.reduceAdd, Nat.reduceSub, Nat.zero_add, Nat.add_zero, Nat.reduceLeDiff, Nat.reduceLT, Int.reduceLE, Int.reduceLT, Int.reduceToNat, Int.reduceNeg, decide_true, decide_false, Bool.not_true, Bool.not_false, Bool.and_true, Bool.true_and, Bool.and_false, Bool.false_and, Bool.or_true, Bool.true_or, Bool.or_false, Bool.false_or, if_true, if_false, reduceIte, Bool.false_eq_true, String.reduceEq, and_true, true_and, and_self, reduceCtorEq, ne_eq, not_true_eq_false, not_false_eq_true, List.getElem?_append_right, Nat.sub_self, Nat.le_refl, List.length_append, grd_pos, Sum.inr.injEq, eq_self, Ev.big, Int.reduceEq, Int.reduceNe, Int.reducePow, Int.reduceMul, Int.reduceAdd, Int.reduceSub, List.length_map, List.isEmpty_nil, List.isEmpty_cons, List.set_set, take_set, List.getElem?_set_self, List.getElem?_set_ne, List.length_set, List.getElem?_append_left, Option.isSome_some, mayPut, ixN_lit])
namespace K11
open PySem Ev
set_option maxHeartbeats 4000000 in
theorem act_tail (wf k b : Nat) (hk : 6 < k) {w : Wp} (hw : w.ok) {c : Nat} {E : Eh} (hS : St w c E) (hc : c + 400 < 1000000000) (v : Int) (h0 : 0 ≤ v) (h6 : v < 6) :
    ∃ (x : Option Ac) (E' : Eh), exs (callF prog wf k) wf b b__law_act_2 [some (.ref w.f), some w.q, some (.int v), some (.lst (w.fi.map .str)), some (.lst (w.pl.map .str)), none] E = some (.rt (.val (oAc x)), E') ∧ oAcOk w x = true ∧ St w (c + 2) E' ∧ Fr w.f w.l E E' := by
  have qd : ∀ E, eqRv E (.val (.lst (w.fi.map .str))) (.new (.lst [])) = some w.fi.isEmpty := fun E => eqRv_lstrs hw.gdd.ok
  have qc : ∀ E, eqRv E (.val (.lst (w.pl.map .str))) (.new (.lst [])) = some w.pl.isEmpty := fun E => eqRv_lstrs hw.gc.ok
  cases hs : w.fi.isEmpty
  · obtain ⟨x, E1, e1, hg, S1, F1⟩ := pk wf hw hS (by omega) k (by omega) w.fi hw.gdd hs
    obtain ⟨y, E2, e2, hg2, S2, F2⟩ := pk wf hw S1 (by omega) k (by omega) w.fi hw.gdd hs
    have late : ∀ h : ¬ v < 4 ∨ w.pl.isEmpty = true, ∃ (x : Option Ac) (E' : Eh), exs (callF prog wf k) wf b b__law_act_2 [some (.ref w.f), some w.q, some (.int v), some (.lst (w.fi.map .str)), some (.lst (w.pl.map .str)), none] E = some (.rt (.val (oAc x)), E') ∧ oAcOk w x = true ∧ St w (c + 2) E' ∧ Fr w.f w.l E E' := by
      intro h
      simp only [b__law_act_2, b__law_act_3, b__law_act_4]
      by_cases h4 : v = 4
      · subst h4
        refine ⟨some (.join x y), E2, ?_, by simp only [oAcOk, Ac.ok, hg, hg2, decide_true, Bool.and_self], S2, F1.trans F2⟩
        have h4 : ¬ ((4 : Int) < 4) := by omega
        clear h
        walk_at "evh"
        rfl
      · refine ⟨some (.leave x), E1, ?_, by simp only [oAcOk, Ac.ok, hg, decide_true], S1.le (by omega), F1⟩
        by_cases h5 : v < 4
        · have hp : w.pl.isEmpty = true := by rcases h with h | h; exact absurd h5 h; exact h
          clear h
          walk_at "evh"
          rfl
        · clear h
          walk_at "evh"
          rfl
    by_cases h5 : v < 4
    · cases hp : w.pl.isEmpty
      · obtain ⟨z, E3, e3, hg3, S3, F3⟩ := pk wf hw S1 (by omega) k (by omega) w.pl hw.gc hp
        clear late
        simp only [b__law_act_2]
        have hm := fmod_lt' v (m := 2) (by omega)
        have : v.fmod 2 = 0 ∨ v.fmod 2 = 1 := by omega
        rcases this with h2 | h2
        · refine ⟨some (.go x z), E3, ?_, by simp only [oAcOk, Ac.ok, hg, hg3, decide_true, Bool.and_self], S3, F1.trans F3⟩
          walk_at "evh"
          rfl
        · refine ⟨some (.put x z), E3, ?_, by simp only [oAcOk, Ac.ok, hg, hg3, decide_true, Bool.and_self], S3, F1.trans F3⟩
          walk_at "evh"
          rfl
      · exact late (.inr hp)
    · exact late (.inl h5)
  · refine ⟨none, E, ?_, rfl, hS.le (by omega), Fr.refl ..⟩
    simp only [b__law_act_2, b__law_act_3, b__law_act_4]
    by_cases h5 : v < 4
    · have h4 : ¬ v = 4 := by omega
      walk_at "evh"
      rfl
    · by_cases h4 : v = 4
      · walk_at "evh"
        rfl
      · walk_at "evh"
        rfl
set_option maxHeartbeats 4000000 in
theorem act_ok (wf k : Nat) (hk : 7 < k) {w : Wp} (hw : w.ok) {c : Nat} {E : Eh} (hS : St w c E) (hc : c + 400 < 100000000) :
    ∃ (x : Option Ac) (E' : Eh), callF prog wf k 10 [.ref w.f, w.q] E = some (.val (oAc x), E') ∧ oAcOk w x = true ∧ St w (c + 66) E' ∧ Fr w.f w.l E E' := by
  obtain ⟨k, rfl⟩ : ∃ k', k = k' + 1 := ⟨k - 1, by omega⟩
  rw [call_step pg10 _ _ _ _ rfl]
  have hb := hw.b
  have hc' := hw.c
  have hd := hw.d
  have qb : ∀ E, eqRv E (.val (.lst (w.nu.map .str))) (.new (.lst [])) = some w.nu.isEmpty := fun E => eqRv_lstrs hw.gb.ok
  obtain ⟨v, E1, e1, hv, S1, F1⟩ := dr wf hw hS (by omega) k (by omega) 6 (by omega) (by omega)
  obtain ⟨x, E2, e2, hx, S2, F2⟩ := act_tail wf k E.length (by omega) hw S1 (by omega) v hv.1 hv.2
  have F12 := F1.trans F2
  have hT := take_fr F12
  have hlx := oAc_low E.length x
  simp only [b__law_act, b__law_act_1]
  by_cases h2 : v < 2
  · cases hs : w.nu.isEmpty
    · obtain ⟨n, E3, e3, hg, S3, F3⟩ := pk wf hw S1 (by omega) k (by omega) w.nu hw.gb hs
      obtain ⟨y, E4, e4, hy, S4, F4⟩ := sum_ok wf w hw 2 k _ E3 (by omega) S3 (by omega)
      simp only [show ((2 : Nat) : Int) = 2 from rfl] at e4
      have F14 := (F1.trans F3).trans F4
      have hT2 := take_fr F14
      have hly := Sm.dlow E.length y
      clear e2
      have : v = 0 ∨ v = 1 := by omega
      rcases this with rfl | rfl
      · refine ⟨some (.set n y), E4, ?_, by simp only [oAcOk, Ac.ok, hg, hy, decide_true, Bool.and_self], S4.le (by omega), F14⟩
        walk_at "evh"
        rfl
      · refine ⟨some (.draw n), E4, ?_, by simp only [oAcOk, Ac.ok, hg, decide_true], S4.le (by omega), F14⟩
        walk_at "evh"
        rfl
    · refine ⟨x, E2, ?_, hx, S2.le (by omega), F12⟩
      walk_at "evh"
  · refine ⟨x, E2, ?_, hx, S2.le (by omega), F12⟩
    walk_at "evh"
set_option maxHeartbeats 4000000 in
theorem next_ok (wf k : Nat) (hk : 7 < k) {w : Wp} (hw : w.ok) {c : Nat} {E : Eh} (hS : St w c E) (hc : c + 400 < 100000000) (hne : w.sc.isEmpty = false) :
    ∃ (x : Nx) (E' : Eh), callF prog wf k 11 [.ref w.f, w.q] E = some (.val x.d, E') ∧ x.ok w = true ∧ St w (c + 3) E' ∧ Fr w.f w.l E E' := by
  obtain ⟨k, rfl⟩ : ∃ k', k = k' + 1 := ⟨k - 1, by omega⟩
  rw [call_step pg11 _ _ _ _ rfl]
  have ha := hw.a
  obtain ⟨v, E1, e1, hv, S1, F1⟩ := dr wf hw hS (by omega) k (by omega) 5 (by omega) (by omega)
  have hT1 := take_fr F1
  simp only [b__law_next, b__law_next_1, b__law_next_2, b__law_next_3]
  by_cases h0 : v = 0
  · subst h0
    refine ⟨.back, E1, ?_, rfl, S1.le (by omega), F1⟩
    walk_at "evh"
    rfl
  · obtain ⟨x, E2, e2, hg2, S2, F2⟩ := pk wf hw S1 (by omega) k (by omega) w.sc hw.ga hne
    obtain ⟨y, E3, e3, hg3, S3, F3⟩ := pk wf hw S2 (by omega) k (by omega) w.sc hw.ga hne
    have hT2 := take_fr (F1.trans F2)
    have hT3 := take_fr ((F1.trans F2).trans F3)
    by_cases h1 : v = 1
    · subst h1
      refine ⟨.into x y, E3, ?_, by simp only [Nx.ok, hg2, hg3, decide_true, Bool.and_self], S3, (F1.trans F2).trans F3⟩
      walk_at "evh"
      rfl
    · refine ⟨.to x, E2, ?_, by simp only [Nx.ok, hg2, decide_true], S2.le (by omega), F1.trans F2⟩
      walk_at "evh"
      rfl
set_option maxHeartbeats 4000000 in
theorem choice_ok (wf k : Nat) (hk : 14 < k) {w : Wp} (hw : w.ok) {c : Nat} {E : Eh} (hS : St w c E) (hc : c + 10000 < 100000000) (hne : w.sc.isEmpty = false) (nm : Str) (hnm : gd nm = true) :
    ∃ (x : Ch) (E' : Eh), callF prog wf k 12 [.ref w.f, .str nm, w.q] E = some (.val x.d, E') ∧ x.ok w = true ∧ St w (c + 8000) E' ∧ Fr w.f w.l E E' := by
  obtain ⟨k, rfl⟩ : ∃ k', k = k' + 1 := ⟨k - 1, by omega⟩
  rw [call_step pg12 _ _ _ _ rfl]
  obtain ⟨u, E3, e3, hu, S3, F3⟩ := dr wf hw hS (by omega) k (by omega) 3 (by omega) (by omega)
  have hu1 : -4611686018427387904 ≤ u := by omega
  have hu2 : u < 4611686018427387904 := by omega
  have hul : (rangeD 0 u.toNat).length ≤ 2 := by rw [rangeD_length]; omega
  have hJ : 66 * (rangeD 0 u.toNat).length ≤ 66 * 2 := Nat.mul_le_mul_left _ hul
  obtain ⟨ys, E4, e4, hP, hlen, S4, F4⟩ := lcL_gen w (callF prog wf k) E.length 66 99999000 (.nm 7) (.frz (.call 10 (.cons (.var 0) (.cons (.var 2) .nil)))) .none
    [some (.ref w.f), some (.str nm), some w.q, none, none, none, none, none, none] (fun z => [some (.ref w.f), some (.str nm), some w.q, none, none, none, none, some z, none]) (fun y => ∃ a : Option Ac, y = oAc a ∧ oAcOk w a = true)
    (rangeD 0 u.toNat) [] _ E3 S3 (by omega) (by simp only [List.length_nil]; omega) (fun z E1 _ => by rw [a_nm]; rfl) (by
      intro z c' E1 _ h1 h2
      obtain ⟨x, E5, e5, hx, S5, F5⟩ := act_ok wf k (by omega) hw h1 (by omega)
      refine ⟨true, E1, by rw [cndF, ec_none], by simp, fun _ => ⟨oAc x, E5, ?_, ⟨x, rfl, hx⟩, S5, F5⟩⟩
      unfold eltF
      walk_at "evh")
  simp only [List.nil_append] at e4
  have e5 := lcL_filter (asgT (.nm 8)) (cndF (callF prog wf k) E.length (.some (.cmp .IsNot (.var 8) .non))) (eltF (callF prog wf k) E.length (.var 8)) none
    [some (.ref w.f), some (.str nm), some w.q, some (.lst ys), none, none, none, none, none] E4 rfl (fun d : D => d) (fun z => [some (.ref w.f), some (.str nm), some w.q, some (.lst ys), none, none, none, none, some z]) (fun y => !decide (y = D.non)) (fun y => y) ys [] (by simp only [List.length_nil]; omega)
    (fun z _ => by rw [a_nm]; rfl) (by intro d _; unfold cndF; walk_at "ev") (by intro d _ _; unfold eltF; walk_at "ev")
  obtain ⟨as, ha1, ha2, ha3⟩ := acts_of ys hP
  rw [ha1, List.nil_append, List.map_id'] at e5
  obtain ⟨lb, E5, f5, hlb, hll, S5, F5⟩ := pieces_ok wf w hw false 1 k _ _ (by omega) S4 (by omega)
  obtain ⟨te, E6, f6, hte, S6, F6⟩ := test_ok wf w hw 2 k _ E5 (by omega) S5 (by omega)
  obtain ⟨v, E7, f7, hv, S7, F7⟩ := dr wf hw S6 (by omega) k (by omega) 3 (by omega) (by omega)
  obtain ⟨nx, E8, f8, hnx, S8, F8⟩ := next_ok wf k (by omega) hw S7 (by omega) hne
  simp only [show ((1 : Nat) : Int) = 1 from rfl, show ((2 : Nat) : Int) = 2 from rfl] at f5 f6
  have G := ((((F3.trans F4).trans F5).trans F6).trans F7).trans F8
  have hT := take_fr G
  have hl1 := Pcs.dlow E.length lb
  have hl2 := Te.dlow E.length te
  have hl3 := acts_low E.length as
  have hl4 := Nx.dlow E.length nx
  have hlen2 : as.length ≤ 2 := by omega
  have hlen3 : lb.len ≤ 2 := by omega
  refine ⟨⟨nm, lb, te, decide (v = 0), as, nx⟩, E8, ?_, ?_, S8.le (by omega), G⟩
  · simp only [b__law_choice, b__law_choice_1, b__law_choice_2, b__law_choice_3]
    clear hP
    walk_at "evh"
    rfl
  · simp only [Ch.ok, hnm, hlb, hte, ha2, hnx, hlen2, hlen3, decide_true, Bool.and_self]
set_option maxHeartbeats 4000000 in
theorem scene_ok (wf k : Nat) (hk : 16 < k) {w : Wp} (hw : w.ok) {c : Nat} {E : Eh} (hS : St w c E) (hc : c + 200000 < 100000000) (hne : w.sc.isEmpty = false) (nm : Str) (hnm : gd nm = true) :
    ∃ (x : Sc) (E' : Eh), callF prog wf k 13 [.ref w.f, .str nm, w.q] E = some (.val x.d, E') ∧ x.ok w = true ∧ x.name = nm ∧ St w (c + 100000) E' ∧ Fr w.f w.l E E' := by
  obtain ⟨k, rfl⟩ : ∃ k', k = k' + 1 := ⟨k - 1, by omega⟩
  rw [call_step pg13 _ _ _ _ rfl]
  have ha := hw.a
  obtain ⟨u, E1, e1, hu, S1, F1⟩ := dr wf hw hS (by omega) k (by omega) 2 (by omega) (by omega)
  have g0 : ∀ y ∈ (["go", "ask", "once"] : List Str), gd y = true := by
    intro y hy; simp only [List.mem_cons, List.not_mem_nil, or_false] at hy; rcases hy with rfl | rfl | rfl <;> decide +kernel
  have c1 : cut [D.str "go", .str "ask", .str "once"] (some u) none = (cut (["go", "ask", "once"] : List Str) (some u) none).map .str := by rw [← cut_map]; rfl
  have l1 := cut_len (["go", "ask", "once"] : List Str) (some u) none
  have g1 : ∀ y ∈ cut (["go", "ask", "once"] : List Str) (some u) none, gd y = true := fun y hy => g0 y (cut_mem hy)
  generalize cut (["go", "ask", "once"] : List Str) (some u) none = ns at c1 l1 g1
  obtain ⟨v, E2, e2, hv, S2, F2⟩ := dr wf hw S1 (by omega) k (by omega) 3 (by omega) (by omega)
  have c2 : cut (ns.map D.str) none (some v) = (cut ns none (some v)).map .str := cut_map _ _ _ _
  have l2 := cut_len ns none (some v)
  have g2 : ∀ y ∈ cut ns none (some v), gd y = true := fun y hy => g1 y (cut_mem hy)
  generalize cut ns none (some v) = ms at c2 l2 g2
  simp only [List.length_cons, List.length_nil] at l1
  have hm3 : (ms.map D.str).length ≤ 3 := by rw [List.length_map]; omega
  have hJ : 8000 * (ms.map D.str).length ≤ 8000 * 3 := Nat.mul_le_mul_left _ hm3
  obtain ⟨ys, E3, e3, hP, hlen, S3, F3⟩ := lcL_gen w (callF prog wf k) E.length 8000 99980000 (.nm 7) (.frz (.call 12 (.cons (.var 0) (.cons (.var 7) (.cons (.var 2) .nil))))) .none
    [some (.ref w.f), some (.str nm), some w.q, some (.lst (ns.map .str)), none, none, none, none] (fun z => [some (.ref w.f), some (.str nm), some w.q, some (.lst (ns.map .str)), none, none, none, some z]) (fun y => ∃ a : Ch, y = a.d ∧ a.ok w = true)
    (ms.map .str) [] _ E2 S2 (by omega) (by simp only [List.length_nil]; omega) (fun z E1 _ => by rw [a_nm]; rfl) (by
      intro z c' E1 hz h1 h2
      obtain ⟨y, hy, rfl⟩ := List.mem_map.mp hz
      obtain ⟨x, E5, e5, hx, S5, F5⟩ := choice_ok wf k (by omega) hw h1 (by omega) hne y (g2 y hy)
      refine ⟨true, E1, by rw [cndF, ec_none], by simp, fun _ => ⟨x.d, E5, ?_, ⟨x, rfl, hx⟩, S5, F5⟩⟩
      unfold eltF
      walk_at "evh")
  obtain ⟨cs, rfl, hcs⟩ := chs_of ys hP
  simp only [List.nil_append] at e3
  have h20 := hw.ga.1
  have hJ2 : 1 * (w.sc.map D.str).length ≤ 1 * 60 := Nat.mul_le_mul_left _ (by rw [List.length_map]; omega)
  obtain ⟨zs, E4, e4, hQ, hlen2, S4, F4⟩ := lcL_gen w (callF prog wf k) E.length 1 99980000 (.nm 7) (.var 7) (.some (.cmp .Eq (.call 3 (.cons (.var 0) (.cons (.int 5) .nil))) (.int 0)))
    [some (.ref w.f), some (.str nm), some w.q, some (.lst (ns.map .str)), some (.tup (cs.map Ch.d)), none, none, none] (fun z => [some (.ref w.f), some (.str nm), some w.q, some (.lst (ns.map .str)), some (.tup (cs.map Ch.d)), none, none, some z]) (fun y => ∃ x : Str, y = .str x ∧ x ∈ w.sc)
    (w.sc.map .str) [] _ E3 S3 (by omega) (by simp only [List.length_nil]; omega) (fun z E1 _ => by rw [a_nm]; rfl) (by
      intro z c' E1 hz h1 h2
      obtain ⟨y, hy, rfl⟩ := List.mem_map.mp hz
      obtain ⟨v, E2, e2, hv, S2, F2⟩ := dr wf hw h1 (by omega) k (by omega) 5 (by omega) (by omega)
      refine ⟨decide (v = 0), E2, ?_, fun _ => ⟨S2, F2⟩, fun _ => ⟨.str y, E2, ?_, ⟨y, rfl, hy⟩, S2, F2⟩⟩
      · unfold cndF; walk_at "evh"
      · unfold eltF; walk_at "evh")
  obtain ⟨wv, rfl, hwv⟩ := strs_of (fun x => x ∈ w.sc) zs hQ
  simp only [List.nil_append] at e4
  obtain ⟨p, E5, e5, hp, S5, F5⟩ := dr wf hw S4 (by omega) k (by omega) 6 (by omega) (by omega)
  have hwlen : wv.length ≤ w.sc.length := by simp only [List.length_map] at hlen2; omega
  have hclen : cs.length ≤ 3 := by simp only [List.length_map] at hlen; omega
  have G5 := (((F1.trans F2).trans F3).trans F4).trans F5
  have ends : ∀ (en : Option Str) (c6 : Nat) (E6 : Eh), oStrOk en = true → St w c6 E6 → Fr w.f w.l E5 E6 → c6 ≤ c + 40000 → ∃ (x : Sc) (E' : Eh),
      bnd (exs (callF prog wf k) wf E.length b__law_scene_4 [some (.ref w.f), some (.str nm), some w.q, some (.lst (ns.map .str)), some (.tup (cs.map Ch.d)), some (.lst (wv.map .str)), some (oStr en), none] E6) (fin E.length) = some (.val x.d, E') ∧ x.ok w = true ∧ x.name = nm ∧ St w (c + 100000) E' ∧ Fr w.f w.l E E' := by
    intro en c6 E6 hen S6 F6 hc6
    obtain ⟨ps, E7, e7, hps, hpl, S7, F7⟩ := pieces_ok wf w hw true 2 k _ _ (by omega) S6 (by omega)
    simp only [show ((2 : Nat) : Int) = 2 from rfl] at e7
    have G7 := (G5.trans F6).trans F7
    have hT := take_fr G7
    have hl1 := Pcs.dlow E.length ps
    have hl2 := chs_low E.length cs
    have hl3 := lows_strs E.length wv.reverse
    have hl4 := oStr_low E.length en
    have hr : (wv.map D.str).reverse = wv.reverse.map .str := by rw [List.map_reverse]
    refine ⟨⟨nm, ps, cs, wv.reverse, en⟩, E7, ?_, ?_, rfl, S7.le (by omega), G7⟩
    · simp only [b__law_scene_4]
      clear hwv hP
      walk_at "evh"
      rfl
    · simp only [Sc.ok, hnm, hps, hcs, hen, Bool.true_and, Bool.and_true, List.length_reverse, List.all_reverse, Bool.and_eq_true, decide_eq_true_eq]
      refine ⟨⟨by omega, hclen⟩, ?_, hwlen⟩
      rw [List.all_eq_true]; exact fun x hx => decide_eq_true (hwv x hx)
  by_cases hp0 : p = 0
  · subst hp0
    obtain ⟨q, E6, e6, hq, S6, F6⟩ := dr wf hw S5 (by omega) k (by omega) 2 (by omega) (by omega)
    have : q = 0 ∨ q = 1 := by omega
    rcases this with rfl | rfl
    · obtain ⟨x, E', r1, r2⟩ := ends (some "won") _ E6 (by decide +kernel) S6 F6 (by omega)
      refine ⟨x, E', ?_, r2⟩
      rw [← r1]
      clear ends r1 r2 g0 g1 g2 hP hQ hwv
      simp only [b__law_scene, b__law_scene_1, b__law_scene_2, b__law_scene_3]
      walk_at "evh"
      rfl
    · obtain ⟨x, E', r1, r2⟩ := ends (some "lost") _ E6 (by decide +kernel) S6 F6 (by omega)
      refine ⟨x, E', ?_, r2⟩
      rw [← r1]
      clear ends r1 r2 g0 g1 g2 hP hQ hwv
      simp only [b__law_scene, b__law_scene_1, b__law_scene_2, b__law_scene_3]
      walk_at "evh"
      rfl
  · obtain ⟨x, E', r1, r2⟩ := ends none _ E5 rfl S5 (Fr.refl ..) (by omega)
    refine ⟨x, E', ?_, r2⟩
    rw [← r1]
    clear ends r1 r2 g0 g1 g2 hP hQ hwv
    simp only [b__law_scene, b__law_scene_1, b__law_scene_2, b__law_scene_3]
    walk_at "evh"
    rfl
end K11
end GD11
section EvTale2
namespace Ev
open PySem
/-- a comprehension that draws one thing for each -/
theorem lcL_genM {α β : Type} (w : Wp) (cf : Cf) (b J B : Nat) (tg : Tg) (e : Ex) (σ : Sd) (f : α → D) (sg : α → Sd) (g : β → D) (pr : β → α) (Q : β → Prop) :
    ∀ (as : List α) (acc : List D) (c : Nat) (E : Eh), St w c E → c + J * as.length ≤ B → acc.length + as.length ≤ 16777216 →
    (∀ a ∈ as, ∀ E1 : Eh, asgT tg (f a) σ E1 = some (sg a, E1)) →
    (∀ a ∈ as, ∀ (c' : Nat) (E1 : Eh), St w c' E1 → c' + J ≤ B → ∃ (x : β) (E3 : Eh), eltF cf b e (sg a) E1 = some (g x, E3) ∧ pr x = a ∧ Q x ∧ St w (c' + J) E3 ∧ Fr w.f w.l E1 E3) →
    ∃ (bs : List β) (E' : Eh), lcL (asgT tg) (cndF cf b .none) (eltF cf b e) (chk none) σ (as.map f) acc E = some (acc ++ bs.map g, E') ∧ bs.map pr = as ∧ (∀ x ∈ bs, Q x) ∧ St w (c + J * as.length) E' ∧ Fr w.f w.l E E'
  | [], acc, c, E, hS, _, _, _, _ => by
    refine ⟨[], E, ?_, rfl, by simp, hS, Fr.refl ..⟩
    rw [List.map_nil, lcL, if_pos (show chk none E = true from rfl), List.map_nil, List.append_nil]
  | a :: as, acc, c, E, hS, hc, hl, hsg, hst => by
    simp only [List.length_cons, Nat.mul_succ] at hc hl ⊢
    obtain ⟨x, E3, e3, hp, hq, S3, F3⟩ := hst a (List.mem_cons_self ..) c E hS (by omega)
    obtain ⟨bs, E', e', hP, hQ, S', F'⟩ := lcL_genM w cf b J B tg e σ f sg g pr Q as (acc ++ [g x]) (c + J) E3 S3 (by omega) (by rw [List.length_append, List.length_singleton]; omega) (fun d' hd => hsg d' (List.mem_cons_of_mem _ hd))
      (fun d' hd => hst d' (List.mem_cons_of_mem _ hd))
    refine ⟨x :: bs, E', ?_, by rw [List.map_cons, hp, hP], ?_, by rw [show c + (J * as.length + J) = c + J + J * as.length by omega]; exact S', F3.trans F'⟩
    · rw [List.map_cons, lcL, if_pos (show chk none E = true from rfl), hsg a (List.mem_cons_self ..)]
      have hc : cndF cf b .none (sg a) E = some (true, E) := by rw [cndF, ec_none]
      simp only [hc, e3]
      rw [if_pos (by rw [sizeLine_eq]; omega), e', List.map_cons, List.append_assoc]
      rfl
    · intro z hz
      rcases List.mem_cons.mp hz with rfl | hz
      · exact hq
      · exact hQ z hz
def enumS : Nat → List Str → List (Nat × Str)
  | _, [] => []
  | i, x :: r => (i, x) :: enumS (i + 1) r
theorem enumD_strs : ∀ (xs : List Str) (n : Nat), enumD n (xs.map .str) = (enumS n xs).map (fun p => .tup [.int p.1, .str p.2])
  | [], _ => rfl
  | x :: xs, n => by rw [List.map_cons, enumD, enumS, List.map_cons, enumD_strs xs]
theorem enumS_snd : ∀ (xs : List Str) (n : Nat), (enumS n xs).map (·.2) = xs
  | [], _ => rfl
  | x :: xs, n => by rw [enumS, List.map_cons, enumS_snd xs]
theorem enumS_len : ∀ (xs : List Str) (n : Nat), (enumS n xs).length = xs.length
  | [], _ => rfl
  | x :: xs, n => by rw [enumS, List.length_cons, List.length_cons, enumS_len xs]
theorem enumS_lt : ∀ (xs : List Str) (n : Nat) (p : Nat × Str), p ∈ enumS n xs → p.1 < n + xs.length
  | [], _, _, h => by simp [enumS] at h
  | x :: xs, n, p, h => by
    rw [enumS] at h
    simp only [List.length_cons]
    rcases List.mem_cons.mp h with rfl | h
    · show n < _; omega
    · have := enumS_lt xs (n + 1) p h; omega
structure Tl where
  rows : List (Str × Int × Int)
  places : List Str
  doors : List (Str × Str)
  folk : List (Str × Str)
  digits : List Int
  scenes : List Sc
  begin : Str
def rowD (r : Str × Int × Int) : D := .tup [.str r.1, .int 0, .int r.2.1, .int r.2.2]
def prD (p : Str × Str) : D := .tup [.str p.1, .str p.2]
def Tl.d (t : Tl) : D := .tup [.tup (t.rows.map rowD), .tup (t.places.map .str), .tup (t.doors.map prD), .tup (t.folk.map prD), .tup (t.digits.map .int), .tup (t.scenes.map Sc.d), .str t.begin]
structure Tl.ok (w : Wp) (t : Tl) : Prop where
  rows : t.rows.map (·.1) = w.nu ∧ ∀ r ∈ t.rows, (-100 ≤ r.2.1 ∧ r.2.1 ≤ 100) ∧ (0 ≤ r.2.2 ∧ r.2.2 < 5)
  places : t.places = w.pl
  doors : (∀ p ∈ t.doors, p.1 ∈ w.pl ∧ p.2 ∈ w.pl) ∧ t.doors.length ≤ 100
  folk : t.folk.map (·.1) = w.fi ∧ ∀ p ∈ t.folk, p.2 ∈ w.pl
  digits : (∀ i ∈ t.digits, 0 ≤ i ∧ i < 10) ∧ t.digits.length ≤ 3
  scenes : t.scenes.map (·.name) = w.sc ∧ ∀ s ∈ t.scenes, s.ok w = true
  begin : t.begin ∈ w.sc
  ga : goodL w.sc
  gb : goodL w.nu
  gc : goodL w.pl
  gdd : goodL w.fi
  few : w.sc.length ≤ 6 ∧ w.nu.length ≤ 3 ∧ w.pl.length ≤ 3 ∧ w.fi.length ≤ 3
theorem lows_map {α : Type} (m : Nat) (f : α → D) (h : ∀ a, (f a).low m = true) : ∀ as : List α, D.lows m (as.map f) = true
  | [] => rfl
  | a :: as => by simp only [List.map_cons, D.lows, h a, lows_map m f h as, Bool.and_self]
theorem Tl.dlow (m : Nat) (t : Tl) : t.d.low m = true := by
  simp only [Tl.d, D.low, D.lows, lows_strs, lows_map m rowD (fun _ => rfl), lows_map m prD (fun _ => rfl), lows_map m D.int (fun _ => rfl), lows_map m Sc.d (Sc.dlow m), Bool.and_self]
end Ev
end EvTale2
section GE11
open PySem Ev
local macro_rules | `(tactic| walk_at "ev") => `(tactic| simp only [bnd_some, fin_rt, fin_nx, getv_zero, getv_succ, kVal_e, kTup_e, kLst_e, kDct_e, kRv_e, kBl_e, kBo_e, kBin2_e, kBin_e, kNeg_e, kNot_e, kNotB_e, kBop_e, kCmp2_e, kCmp_e, kTst2_e, kTst_e, kIfx_t, kIfx_f, kCall_e, kCallB_e, kMeth2_e, kMeth_e, kIdx2_e, kIdx_e, kSlc3_e, kSlc2_e, kSlc_e, kRev_e, kNew_e, kReg_v, kReg_n, kLc_e, kLc2_e, kAnd_t, kAnd_f, kOr_t, kOr_f, kVarB_e, asB_bl, asBE_bl, kCallT_e, kTcall_e, kCons2_e, kCons_v, kCons_n, kRs2_e, kRs_e, kPr2_e, kPr_v, kPr_n, kL_e, getL_e, kK_e, asL_ref, s_var, s_int, s_str, s_bl, s_non, s_tup, s_lst, s_dct, s_bin, s_neg, s_not, s_bop, s_cmp, s_ifx, s_call, s_callB, s_meth, s_idx, s_slc, s_rev, s_lc, s_lc2, t_not, t_bop, t_bl, t_var, t_cmp, t_call, t_callB, b_one, b_and, b_or, es_nil, es_cons, er_nil, er_cons, eo_none, asI_int, eo_some, ec_none, ec_some, ep_nil, ep_cons, asIt_dct, asIt_tup, asIt_new, kItR_e, asIt_ref, asIt_str, ei_seq, asRg_one, asRg_nat, ei_range, kEnR_e, asEn_ref, asEn_new, ei_enum, kPut_e, kAsg_v, kAsg_n, x_asg, kPar_e, x_par, kHeap_e, kSto3_e, kSto2_e, kSto_v, kSto_n, x_sto, kExpr_e, x_expr, kRet_e, x_ret, kIf_t, kIf_f, x_if, kFor_e, x_for, x_whl, x_pass, x_brk, x_cont, kSeq_nx, kSeq_rt, kSeq_bk, kSeq_ct, xs_nil, xs_cons, a_nm, a_tp, a_star, as_nil, kTs_e, as_cons, o_addi, o_adds, o_addt, o_addnn, kAddN_e, o_addrn, kAddX_e, o_addnr, kAddR_e, o_addrr, o_subi, o_muli, o_mult, o_div, o_mod, o_pow, c_lt, c_lts, c_le, c_gt, c_ge, c_is, c_isn, kNeq_e, c_eq, c_ne, c_in, c_nin, q_str, q_int, n_tup, i_tup, i_new, i_scr, kAt_e, i_ref, kLook_e, i_dct, i_dnew, l_tup, l_new, l_scr, kCut_e, l_ref, v_tup, v_new, kRvs_e, v_ref, f_len, f_tup, f_lst, f_rep, f_len_t, f_len_n, f_tup_t, f_tup_n, f_lst_t, f_lst_n, kLen_e, f_len_r, kTupB_e, f_tup_r, kLstB_e, f_lst_r, m_app, m_ext, m_pop, m_spl, kApp_e, m_app_e, kExt_e, m_ext_n, kPop_e, m_pop_e, r_app, r_ext, r_pop, kStL_e, st_lst, r_spl, kLv_t, leave_new, leave_val, kFrz_v, kFrz_l, kFrz_d, kIsi_non, kIsi_bl, kIsi_int, kIsi_str, kIsi_tup, kIsi_lst, kIsiT_non, kIsiT_bl, kIsiT_int, kIsiT_str, kIsiT_tup, kIsiT_lst, kDgA_str, kDg3_e, kDg2_e, s_frz, s_isi, t_isi, a_starF, o_addll, o_addln, o_addnl, o_addrl, o_multn, n_lst, n_new, i_lst, i_dctv, l_lst, v_lst, f_len_l, f_tup_l, f_lst_l, asIt_lst, asEn_lst, m_ext_l, f_str, f_int, f_all, f_any, f_srt, f_str_i, f_str_s, f_str_n, f_int_i, f_int_b, m_join, r_join, s_sset, s_lset, kPx2_e, kPx1_v, kPx1_n, kPx_s, kPx_i, ex_nil, ex_cons, s_dcx, kNewD_e, kDcm_e, s_dcm, f_dic, m_upd, r_upd, kUpd_e, m_upd_n, kStK_e, st_dct, kHas_e, n_dref, n_dctv, q_at, Ev.setAll, wipeD, D.low, D.lows, Rv.low, O.low, D.flat, D.eqf, D.keyOf, Ev.look, Ev.put, ofString_inj, sizeLine_eq, atI0, atI1, atI2, atI3, atI4, atI5, lows_app, isiB, lookR,
  List.map_cons, List.map_nil, List.length_cons, List.length_nil, List.getElem?_cons_zero, List.getElem?_cons_succ, List.replicate, List.cons_append, List.nil_append, List.append_nil, List.set_cons_succ, List.set_cons_zero, List.drop_succ_cons, List.drop_zero, List.take_left, List.take_length, List.all_cons, List.all_nil, List.any_cons, List.any_nil, List.getElem?_nil, List.foldl_cons, List.foldl_nil, List.zip_cons_cons, List.zip_nil_right, List.zip_nil_left, List.flatten_cons, List.flatten_nil,
  Nat.reduceAdd, Nat.reduceSub, Nat.zero_add, Nat.add_zero, Nat.reduceLeDiff, Nat.reduceLT, Int.reduceLE, Int.reduceLT, Int.reduceToNat, Int.reduceNeg, decide_true, decide_false, Bool.not_true, Bool.not_false, Bool.and_true, Bool.true_and, Bool.and_false, Bool.false_and, Bool.or_true, Bool.true_or, Bool.or_false, Bool.false_or, if_true, if_false, reduceIte, Bool.false_eq_true, String.reduceEq, and_true, true_and, and_self, reduceCtorEq, ne_eq, not_true_eq_false, not_false_eq_true, List.getElem?_append_right, Nat.sub_self, Nat.le_refl, List.length_append, grd_pos, Sum.inr.injEq, eq_self, Ev.big, Int.reduceEq, Int.reduceNe, Int.reducePow, Int.reduceMul, Int.reduceAdd, Int.reduceSub, List.length_map, List.isEmpty_nil, List.isEmpty_cons, List.set_set, take_set, List.getElem?_set_self, List.getElem?_set_ne, List.length_set, List.getElem?_append_left, Option.isSome_some, mayPut, ixN_lit])
local macro_rules | `(tactic| walk_at "evh") => `(tactic| simp only [*, bnd_some, fin_rt, fin_nx, getv_zero, getv_succ, kVal_e, kTup_e, kLst_e, kDct_e, kRv_e, kBl_e, kBo_e, kBin2_e, kBin_e, kNeg_e, kNot_e, kNotB_e, kBop_e, kCmp2_e, kCmp_e, kTst2_e, kTst_e, kIfx_t, kIfx_f, kCall_e, kCallB_e, kMeth2_e, kMeth_e, kIdx2_e, kIdx_e, kSlc3_e, kSlc2_e, kSlc_e, kRev_e, kNew_e, kReg_v, kReg_n, kLc_e, kLc2_e, kAnd_t, kAnd_f, kOr_t, kOr_f, kVarB_e, asB_bl, asBE_bl, kCallT_e, kTcall_e, kCons2_e, kCons_v, kCons_n, kRs2_e, kRs_e, kPr2_e, kPr_v, kPr_n, kL_e, getL_e, kK_e, asL_ref, s_var, s_int, s_str, s_bl, s_non, s_tup, s_lst, s_dct, s_bin, s_neg, s_not, s_bop, s_cmp, s_ifx, s_call, s_callB, s_meth, s_idx, s_slc, s_rev, s_lc, s_lc2, t_not, t_bop, t_bl, t_var, t_cmp, t_call, t_callB, b_one, b_and, b_or, es_nil, es_cons, er_nil, er_cons, eo_none, asI_int, eo_some, ec_none, ec_some, ep_nil, ep_cons, asIt_dct, asIt_tup, asIt_new, kItR_e, asIt_ref, asIt_str, ei_seq, asRg_one, asRg_nat, ei_range, kEnR_e, asEn_ref, asEn_new, ei_enum, kPut_e, kAsg_v, kAsg_n, x_asg, kPar_e, x_par, kHeap_e, kSto3_e, kSto2_e, kSto_v, kSto_n, x_sto, kExpr_e, x_expr, kRet_e, x_ret, kIf_t, kIf_f, x_if, kFor_e, x_for, x_whl, x_pass, x_brk, x_cont, kSeq_nx, kSeq_rt, kSeq_bk, kSeq_ct, xs_nil, xs_cons, a_nm, a_tp, a_star, as_nil, kTs_e, as_cons, o_addi, o_adds, o_addt, o_addnn, kAddN_e, o_addrn, kAddX_e, o_addnr, kAddR_e, o_addrr, o_subi, o_muli, o_mult, o_div, o_mod, o_pow, c_lt, c_lts, c_le, c_gt, c_ge, c_is, c_isn, kNeq_e, c_eq, c_ne, c_in, c_nin, q_str, q_int, n_tup, i_tup, i_new, i_scr, kAt_e, i_ref, kLook_e, i_dct, i_dnew, l_tup, l_new, l_scr, kCut_e, l_ref, v_tup, v_new, kRvs_e, v_ref, f_len, f_tup, f_lst, f_rep, f_len_t, f_len_n, f_tup_t, f_tup_n, f_lst_t, f_lst_n, kLen_e, f_len_r, kTupB_e, f_tup_r, kLstB_e, f_lst_r, m_app, m_ext, m_pop, m_spl, kApp_e, m_app_e, kExt_e, m_ext_n, kPop_e, m_pop_e, r_app, r_ext, r_pop, kStL_e, st_lst, r_spl, kLv_t, leave_new, leave_val, kFrz_v, kFrz_l, kFrz_d, kIsi_non, kIsi_bl, kIsi_int, kIsi_str, kIsi_tup, kIsi_lst, kIsiT_non, kIsiT_bl, kIsiT_int, kIsiT_str, kIsiT_tup, kIsiT_lst, kDgA_str, kDg3_e, kDg2_e, s_frz, s_isi, t_isi, a_starF, o_addll, o_addln, o_addnl, o_addrl, o_multn, n_lst, n_new, i_lst, i_dctv, l_lst, v_lst, f_len_l, f_tup_l, f_lst_l, asIt_lst, asEn_lst, m_ext_l, f_str, f_int, f_all, f_any, f_srt, f_str_i, f_str_s, f_str_n, f_int_i, f_int_b, m_join, r_join, s_sset, s_lset, kPx2_e, kPx1_v, kPx1_n, kPx_s, kPx_i, ex_nil, ex_cons, s_dcx, kNewD_e, kDcm_e, s_dcm, f_dic, m_upd, r_upd, kUpd_e, m_upd_n, kStK_e, st_dct, kHas_e, n_dref, n_dctv, q_at, Ev.setAll, wipeD, D.low, D.lows, Rv.low, O.low, D.flat, D.eqf, D.keyOf, Ev.look, Ev.put, ofString_inj, sizeLine_eq, atI0, atI1, atI2, atI3, atI4, atI5, lows_app, isiB, lookR,
  List.map_cons, List.map_nil, List.length_cons, List.length_nil, List.getElem?_cons_zero, List.getElem?_cons_succ, List.replicate, List.cons_append, List.nil_append, List.append_nil, List.set_cons_succ, List.set_cons_zero, List.drop_succ_cons, List.drop_zero, List.take_left, List.take_length, List.all_cons, List.all_nil, List.any_cons, List.any_nil, List.getElem?_nil, List.foldl_cons, List.foldl_nil, List.zip_cons_cons, List.zip_nil_right, List.zip_nil_left, List.flatten_cons, List.flatten_nil,
  Nat.reduceAdd, Nat.reduceSub, Nat.zero_add, Nat.add_zero, Nat.reduceLeDiff, Nat.reduceLT, Int.reduceLE, Int.reduceLT, Int.reduceToNat, Int.reduceNeg, decide_true, decide_false, Bool.not_true, Bool.not_false, Bool.and_true, Bool.true_and, Bool.and_false, Bool.false_and, Bool.or_true, Bool.true_or, Bool.or_false, Bool.false_or, if_true, if_false, reduceIte, Bool.false_eq_true, String.reduceEq, and_true, true_and, and_self, reduceCtorEq, ne_eq, not_true_eq_false, not_false_eq_true, List.getElem?_append_right, Nat.sub_self, Nat.le_refl, List.length_append, grd_pos, Sum.inr.injEq, eq_self, Ev.big, Int.reduceEq, Int.reduceNe, Int.reducePow, Int.reduceMul, Int.reduceAdd, Int.reduceSub, List.length_map, List.isEmpty_nil, List.isEmpty_cons, List.set_set, take_set, List.getElem?_set_self, List.getElem?_set_ne, List.length_set, List.getElem?_append_left, Option.isSome_some, mayPut, ixN_lit])
namespace K11
open PySem Ev
def doorB : Stms := .cons (.asg (.nm 8) (.frz (.bin .Add (.var 8) (.lc (.tup (.cons (.var 9) (.cons (.var 15) .nil))) (.nm 15) (.seq (.var 4)) (.some (.bop true (.cons (.cmp .Lt (.var 9) (.var 15)) (.cons (.cmp .Eq (.call 3 (.cons (.var 0) (.cons (.int 2) .nil))) (.int 0)) .nil)))) [("_law_other", 15)])))) .nil
set_option maxHeartbeats 4000000 in
theorem doors_ok (wf k b : Nat) (hk : 16 < k) (w : Wp) (hw : w.ok) (h3 : w.pl.length ≤ 3) (a1 a2 a3 a5 a6 a7 a10 a11 a12 a13 a14 : Option D) :
    ∀ (ds : List Str) (c : Nat) (E : Eh) (xs : List (Str × Str)) (o9 : Option D), (∀ d ∈ ds, d ∈ w.pl) → St w c E → c + 3 * ds.length < 100000000 → (∀ x ∈ xs, x.1 ∈ w.pl ∧ x.2 ∈ w.pl) → xs.length + 3 * ds.length ≤ 10000 →
    ∃ (xs' : List (Str × Str)) (o9' : Option D) (E' : Eh), forL (asgT (.nm 9)) (bodF (callF prog wf k) wf b doorB) (chk none) (ds.map .str)
        [some (.ref w.f), a1, a2, a3, some (.lst (w.pl.map .str)), a5, a6, a7, some (.lst (xs.map prD)), o9, a10, a11, a12, a13, a14, none] E =
      some (.nx [some (.ref w.f), a1, a2, a3, some (.lst (w.pl.map .str)), a5, a6, a7, some (.lst (xs'.map prD)), o9', a10, a11, a12, a13, a14, none], E') ∧
      (∀ x ∈ xs', x.1 ∈ w.pl ∧ x.2 ∈ w.pl) ∧ xs'.length ≤ xs.length + 3 * ds.length ∧ St w (c + 3 * ds.length) E' ∧ Fr w.f w.l E E'
  | [], c, E, xs, o9, hm, hS, hc, hx, hl => ⟨xs, o9, E, by rw [List.map_nil, forL, if_pos (show chk none E = true from rfl)], hx, by simp, hS, Fr.refl ..⟩
  | d :: ds, c, E, xs, o9, hm, hS, hc, hx, hl => by
    simp only [List.length_cons] at hc hl ⊢
    have hJ : 1 * (w.pl.map D.str).length ≤ 1 * 3 := Nat.mul_le_mul_left _ (by rw [List.length_map]; omega)
    obtain ⟨ys, E1, e1, hP, hlen, S1, F1⟩ := lcL_gen w (callF prog wf k) b 1 100000000 (.nm 15) (.tup (.cons (.var 9) (.cons (.var 15) .nil))) (.some (.bop true (.cons (.cmp .Lt (.var 9) (.var 15)) (.cons (.cmp .Eq (.call 3 (.cons (.var 0) (.cons (.int 2) .nil))) (.int 0)) .nil))))
      [some (.ref w.f), a1, a2, a3, some (.lst (w.pl.map .str)), a5, a6, a7, some (.lst (xs.map prD)), some (.str d), a10, a11, a12, a13, a14, none] (fun z => [some (.ref w.f), a1, a2, a3, some (.lst (w.pl.map .str)), a5, a6, a7, some (.lst (xs.map prD)), some (.str d), a10, a11, a12, a13, a14, some z])
      (fun y => ∃ p : Str × Str, y = prD p ∧ (p.1 ∈ w.pl ∧ p.2 ∈ w.pl)) (w.pl.map .str) [] c E hS (by omega) (by simp only [List.length_nil]; omega) (fun z E1 _ => by rw [a_nm]; rfl) (by
        intro z c' E1 hz h1 h2
        obtain ⟨y, hy, rfl⟩ := List.mem_map.mp hz
        obtain ⟨v, E2, e2, hv, S2, F2⟩ := dr wf hw h1 (by omega) k (by omega) 2 (by omega) (by omega)
        by_cases hlt : d.cps.toList < y.cps.toList
        · refine ⟨decide (v = 0), E2, ?_, fun _ => ⟨S2, F2⟩, fun _ => ⟨prD (d, y), E2, ?_, ⟨(d, y), rfl, hm d (List.mem_cons_self ..), hy⟩, S2, F2⟩⟩
          · unfold cndF; walk_at "evh"
          · unfold eltF; walk_at "evh"; rfl
        · refine ⟨false, E1, ?_, fun _ => ⟨h1.le (by omega), Fr.refl ..⟩, fun z => by cases z⟩
          unfold cndF; walk_at "evh")
    obtain ⟨ps, rfl, hps⟩ := all_of prD (fun p => p.1 ∈ w.pl ∧ p.2 ∈ w.pl) ys hP
    simp only [List.nil_append, List.length_map] at e1 hlen
    have hx' : ∀ x ∈ xs ++ ps, x.1 ∈ w.pl ∧ x.2 ∈ w.pl := by
      intro x hx'; rcases List.mem_append.mp hx' with h | h; exact hx x h; exact hps x h
    obtain ⟨xs2, o92, E2, e2, g2, l2, S2, F2⟩ := doors_ok wf k b hk w hw h3 a1 a2 a3 a5 a6 a7 a10 a11 a12 a13 a14 ds (c + 3) E1 (xs ++ ps) (some (.str d)) (fun x hx => hm x (List.mem_cons_of_mem _ hx)) (S1.le (by simp only [List.length_map]; omega)) (by omega) hx' (by rw [List.length_append]; omega)
    refine ⟨xs2, o92, E2, ?_, g2, by rw [List.length_append] at l2; omega, S2.le (by omega), F1.trans F2⟩
    rw [List.map_cons, forL, if_pos (show chk none E = true from rfl), a_nm]
    have hsz : xs.length + ps.length ≤ 16777216 := by omega
    have hap : xs.map prD ++ ps.map prD = (xs ++ ps).map prD := by rw [List.map_append]
    have hb : bodF (callF prog wf k) wf b doorB [some (.ref w.f), a1, a2, a3, some (.lst (w.pl.map .str)), a5, a6, a7, some (.lst (xs.map prD)), some (.str d), a10, a11, a12, a13, a14, none] E = some (.nx [some (.ref w.f), a1, a2, a3, some (.lst (w.pl.map .str)), a5, a6, a7, some (.lst ((xs ++ ps).map prD)), some (.str d), a10, a11, a12, a13, a14, none], E1) := by
      unfold bodF doorB
      clear e2 hP hps hx hx' hm g2
      walk_at "evh"
    simp only [List.set_cons_succ, List.set_cons_zero, hb, e2]
theorem htale7 : b__law_tale_7 = .cons (.loop (.nm 9) (.seq (.var 4)) doorB) b__law_tale_8 := rfl
set_option maxHeartbeats 8000000 in
theorem tale_tail (wf k b : Nat) (hk : 17 < k) {w : Wp} (hw : w.ok) {c : Nat} {E : Eh} (hS : St w c E) (hc : c + 3000000 < 100000000) (hne : w.sc.isEmpty = false) (few : w.sc.length ≤ 6 ∧ w.nu.length ≤ 3 ∧ w.pl.length ≤ 3 ∧ w.fi.length ≤ 3) (hfp : w.fi ≠ [] → w.pl.isEmpty = false) (mn : Int) :
    ∃ (t : Tl) (E' : Eh), exs (callF prog wf k) wf b b__law_tale_5 [some (.ref w.f), some (.int mn), some (.lst (w.sc.map .str)), some (.lst (w.nu.map .str)), some (.lst (w.pl.map .str)), some (.lst (w.fi.map .str)), some w.q, none, none, none, none, none, none, none, none, none] E
      = some (.rt (.val t.d), E') ∧ t.ok w ∧ St w (c + 700000) E' ∧ Fr w.f w.l E E' := by
  obtain ⟨f1, f2, f3, f4⟩ := few
  have hen := enumD_strs w.nu 0
  have hel := enumS_len w.nu 0
  obtain ⟨rs, E1, e1, hr1, hr2, S1, F1⟩ := lcL_genM w (callF prog wf k) b 1 100000000 (.tp (.cons (.nm 13) (.cons (.nm 14) .nil))) (.tup (.cons (.var 14) (.cons (.int 0) (.cons (.bin .Sub (.int 9) (.var 13)) (.cons (.frz (.call 3 (.cons (.var 0) (.cons (.int 5) .nil)))) .nil)))))
    [some (.ref w.f), some (.int mn), some (.lst (w.sc.map .str)), some (.lst (w.nu.map .str)), some (.lst (w.pl.map .str)), some (.lst (w.fi.map .str)), some w.q, none, none, none, none, none, none, none, none, none]
    (fun p : Nat × Str => .tup [.int p.1, .str p.2]) (fun p => [some (.ref w.f), some (.int mn), some (.lst (w.sc.map .str)), some (.lst (w.nu.map .str)), some (.lst (w.pl.map .str)), some (.lst (w.fi.map .str)), some w.q, none, none, none, none, none, none, some (.int p.1), some (.str p.2), none])
    (fun x : (Nat × Str) × Int => rowD (x.1.2, 9 - (x.1.1 : Int), x.2)) (·.1) (fun x => x.1.1 < 3 ∧ 0 ≤ x.2 ∧ x.2 < 5) (enumS 0 w.nu) [] c E hS (by omega) (by simp only [List.length_nil]; omega)
    (fun p _ E1 => by walk_at "ev") (by
      intro p hp c' E1 h1 h2
      have := enumS_lt w.nu 0 p hp
      obtain ⟨v, E2, e2, hv, S2, F2⟩ := dr wf hw h1 (by omega) k (by omega) 5 (by omega) (by omega)
      refine ⟨(p, v), E2, ?_, rfl, ⟨by show p.1 < 3; omega, hv.1, hv.2⟩, S2, F2⟩
      unfold eltF
      walk_at "evh"
      rfl)
  simp only [List.nil_append] at e1
  rw [hel] at S1
  obtain ⟨ds, o9, E2, e2, hd1, hd2, S2, F2⟩ := doors_ok wf k b (by omega) w hw f3 (some (.int mn)) (some (.lst (w.sc.map .str))) (some (.lst (w.nu.map .str))) (some (.lst (w.fi.map .str))) (some w.q) (some (.lst (rs.map fun x => rowD (x.1.2, 9 - (x.1.1 : Int), x.2)))) none none none none none
    w.pl _ E1 [] none (fun d hd => hd) S1 (by omega) (by simp) (by simp only [List.length_nil]; omega)
  simp only [List.map_nil] at e2
  obtain ⟨u, E3, e3, hu, S3, F3⟩ := dr wf hw S2 (by omega) k (by omega) 4 (by omega) (by omega)
  have hu1 : -4611686018427387904 ≤ u := by omega
  have hu2 : u < 4611686018427387904 := by omega
  have hul : (rangeD 0 u.toNat).length ≤ 3 := by rw [rangeD_length]; omega
  have hJ : 1 * (rangeD 0 u.toNat).length ≤ 1 * 3 := Nat.mul_le_mul_left _ hul
  obtain ⟨gs, E4, e4, hP4, hl4, S4, F4⟩ := lcL_gen w (callF prog wf k) b 1 100000000 (.nm 13) (.frz (.call 3 (.cons (.var 0) (.cons (.int 10) .nil)))) .none
    [some (.ref w.f), some (.int mn), some (.lst (w.sc.map .str)), some (.lst (w.nu.map .str)), some (.lst (w.pl.map .str)), some (.lst (w.fi.map .str)), some w.q, some (.lst (rs.map fun x => rowD (x.1.2, 9 - (x.1.1 : Int), x.2))), some (.lst (ds.map prD)), o9, none, none, none, none, none, none]
    (fun z => [some (.ref w.f), some (.int mn), some (.lst (w.sc.map .str)), some (.lst (w.nu.map .str)), some (.lst (w.pl.map .str)), some (.lst (w.fi.map .str)), some w.q, some (.lst (rs.map fun x => rowD (x.1.2, 9 - (x.1.1 : Int), x.2))), some (.lst (ds.map prD)), o9, none, none, none, some z, none, none])
    (fun y => ∃ i : Int, y = .int i ∧ (0 ≤ i ∧ i < 10)) (rangeD 0 u.toNat) [] _ E3 S3 (by omega) (by simp only [List.length_nil]; omega) (fun z E1 _ => by rw [a_nm]; rfl) (by
      intro z c' E1 _ h1 h2
      obtain ⟨v, E2, e2, hv, S2, F2⟩ := dr wf hw h1 (by omega) k (by omega) 10 (by omega) (by omega)
      refine ⟨true, E1, by rw [cndF, ec_none], by simp, fun _ => ⟨.int v, E2, ?_, ⟨v, rfl, hv⟩, S2, F2⟩⟩
      unfold eltF
      walk_at "evh")
  obtain ⟨is, rfl, his⟩ := all_of D.int (fun i => 0 ≤ i ∧ i < 10) gs hP4
  simp only [List.nil_append, List.length_map] at e4 hl4
  obtain ⟨fs, E5, e5, hf1, hf2, S5, F5⟩ := lcL_genM w (callF prog wf k) b 1 100000000 (.nm 14) (.tup (.cons (.var 14) (.cons (.frz (.call 4 (.cons (.var 0) (.cons (.var 4) .nil)))) .nil)))
    [some (.ref w.f), some (.int mn), some (.lst (w.sc.map .str)), some (.lst (w.nu.map .str)), some (.lst (w.pl.map .str)), some (.lst (w.fi.map .str)), some w.q, some (.lst (rs.map fun x => rowD (x.1.2, 9 - (x.1.1 : Int), x.2))), some (.lst (ds.map prD)), o9, some (.tup (is.map .int)), none, none, none, none, none]
    D.str (fun z => [some (.ref w.f), some (.int mn), some (.lst (w.sc.map .str)), some (.lst (w.nu.map .str)), some (.lst (w.pl.map .str)), some (.lst (w.fi.map .str)), some w.q, some (.lst (rs.map fun x => rowD (x.1.2, 9 - (x.1.1 : Int), x.2))), some (.lst (ds.map prD)), o9, some (.tup (is.map .int)), none, none, none, some (.str z), none])
    prD (·.1) (fun p => p.2 ∈ w.pl) w.fi [] _ E4 S4 (by omega) (by simp only [List.length_nil]; omega) (fun z _ E1 => by rw [a_nm]; rfl) (by
      intro z hz c' E1 h1 h2
      obtain ⟨v, E2, e2, hv, S2, F2⟩ := pk wf hw h1 (by omega) k (by omega) w.pl hw.gc (hfp (by intro h; rw [h] at hz; cases hz))
      refine ⟨(z, v), E2, ?_, rfl, hv, S2, F2⟩
      unfold eltF
      walk_at "evh"
      rfl)
  simp only [List.nil_append] at e5
  have hJ6 : 100000 * w.sc.length ≤ 100000 * 6 := Nat.mul_le_mul_left _ f1
  obtain ⟨ss, E6, e6, hs1, hs2, S6, F6⟩ := lcL_genM w (callF prog wf k) b 100000 99700000 (.nm 14) (.frz (.call 13 (.cons (.var 0) (.cons (.var 14) (.cons (.var 6) .nil)))))
    [some (.ref w.f), some (.int mn), some (.lst (w.sc.map .str)), some (.lst (w.nu.map .str)), some (.lst (w.pl.map .str)), some (.lst (w.fi.map .str)), some w.q, some (.lst (rs.map fun x => rowD (x.1.2, 9 - (x.1.1 : Int), x.2))), some (.lst (ds.map prD)), o9, some (.tup (is.map .int)), some (.lst (fs.map prD)), none, none, none, none]
    D.str (fun z => [some (.ref w.f), some (.int mn), some (.lst (w.sc.map .str)), some (.lst (w.nu.map .str)), some (.lst (w.pl.map .str)), some (.lst (w.fi.map .str)), some w.q, some (.lst (rs.map fun x => rowD (x.1.2, 9 - (x.1.1 : Int), x.2))), some (.lst (ds.map prD)), o9, some (.tup (is.map .int)), some (.lst (fs.map prD)), none, none, some (.str z), none])
    Sc.d (·.name) (fun s => s.ok w = true) w.sc [] _ E5 S5 (by omega) (by simp only [List.length_nil]; omega) (fun z _ E1 => by rw [a_nm]; rfl) (by
      intro z hz c' E1 h1 h2
      obtain ⟨x, E2, e2, hx, hn, S2, F2⟩ := scene_ok wf k (by omega) hw h1 (by omega) hne z (hw.ga.2 z hz)
      refine ⟨x, E2, ?_, hn, hx, S2, F2⟩
      unfold eltF
      walk_at "evh")
  simp only [List.nil_append] at e6
  obtain ⟨bg, E7, e7, hbg, S7, F7⟩ := pk wf hw S6 (by omega) k (by omega) w.sc hw.ga hne
  have G := (((((F1.trans F2).trans F3).trans F4).trans F5).trans F6).trans F7
  refine ⟨⟨rs.map fun x => (x.1.2, 9 - (x.1.1 : Int), x.2), w.pl, ds, fs, is, ss, bg⟩, E7, ?_, ?_, S7.le (by omega), G⟩
  · have hrm : (rs.map fun x => (x.1.2, 9 - (x.1.1 : Int), x.2)).map rowD = rs.map fun x => rowD (x.1.2, 9 - (x.1.1 : Int), x.2) := by rw [List.map_map]; rfl
    simp only [Tl.d, hrm]
    clear hrm hr1 hr2 hd1 hd2 his hP4 hf1 hf2 hs1 hs2 S1 S2 S3 S4 S5 S6 S7 F1 F2 F3 F4 F5 F6 F7 G hfp hS
    simp only [b__law_tale_5, b__law_tale_6]
    generalize (rs.map fun x => rowD (x.1.2, 9 - (x.1.1 : Int), x.2)) = rr at *
    walk_at "evh"
    simp only [htale7]
    walk_at "evh"
    simp only [b__law_tale_8, b__law_tale_9, b__law_tale_10, b__law_tale_11]
    walk_at "evh"
  · refine ⟨⟨?_, ?_⟩, rfl, ⟨hd1, ?_⟩, ⟨hf1, hf2⟩, ⟨his, by show is.length ≤ 3; omega⟩, ⟨hs1, hs2⟩, hbg, hw.ga, hw.gb, hw.gc, hw.gdd, f1, f2, f3, f4⟩
    · have h := congrArg (List.map (·.2)) hr1
      rw [enumS_snd, List.map_map] at h
      rw [List.map_map]
      exact h
    · intro r hr
      obtain ⟨x, hx, rfl⟩ := List.mem_map.mp hr
      have := hr2 x hx
      simp only
      omega
    · simp only [List.length_nil] at hd2; show ds.length ≤ 100; omega
end K11
end GE11
section GF11
namespace Ev
theorem Fr.cutl {f : Nat} {E E6 E7 : Eh} {o : O} (h : Fr f f E E6) (g : Fr f E6.length (E6 ++ [o]) E7) : Fr f f E (E7.take E.length) := by
  have h1 := h.1
  have g1 := g.1
  rw [List.length_append, List.length_singleton] at g1
  refine ⟨by rw [List.length_take]; omega, fun i a _ => ?_⟩
  by_cases hi : i < E.length
  · rw [List.getElem?_take_of_lt hi, g.2 i a (by omega), List.getElem?_append_left (by omega), h.2 i a a]
  · rw [List.getElem?_eq_none (by rw [List.length_take]; omega), List.getElem?_eq_none (by omega)]
end Ev
open PySem Ev
local macro_rules | `(tactic| walk_at "ev") => `(tactic| simp only [bnd_some, fin_rt, fin_nx, getv_zero, getv_succ, kVal_e, kTup_e, kLst_e, kDct_e, kRv_e, kBl_e, kBo_e, kBin2_e, kBin_e, kNeg_e, kNot_e, kNotB_e, kBop_e, kCmp2_e, kCmp_e, kTst2_e, kTst_e, kIfx_t, kIfx_f, kCall_e, kCallB_e, kMeth2_e, kMeth_e, kIdx2_e, kIdx_e, kSlc3_e, kSlc2_e, kSlc_e, kRev_e, kNew_e, kReg_v, kReg_n, kLc_e, kLc2_e, kAnd_t, kAnd_f, kOr_t, kOr_f, kVarB_e, asB_bl, asBE_bl, kCallT_e, kTcall_e, kCons2_e, kCons_v, kCons_n, kRs2_e, kRs_e, kPr2_e, kPr_v, kPr_n, kL_e, getL_e, kK_e, asL_ref, s_var, s_int, s_str, s_bl, s_non, s_tup, s_lst, s_dct, s_bin, s_neg, s_not, s_bop, s_cmp, s_ifx, s_call, s_callB, s_meth, s_idx, s_slc, s_rev, s_lc, s_lc2, t_not, t_bop, t_bl, t_var, t_cmp, t_call, t_callB, b_one, b_and, b_or, es_nil, es_cons, er_nil, er_cons, eo_none, asI_int, eo_some, ec_none, ec_some, ep_nil, ep_cons, asIt_dct, asIt_tup, asIt_new, kItR_e, asIt_ref, asIt_str, ei_seq, asRg_one, asRg_nat, ei_range, kEnR_e, asEn_ref, asEn_new, ei_enum, kPut_e, kAsg_v, kAsg_n, x_asg, kPar_e, x_par, kHeap_e, kSto3_e, kSto2_e, kSto_v, kSto_n, x_sto, kExpr_e, x_expr, kRet_e, x_ret, kIf_t, kIf_f, x_if, kFor_e, x_for, x_whl, x_pass, x_brk, x_cont, kSeq_nx, kSeq_rt, kSeq_bk, kSeq_ct, xs_nil, xs_cons, a_nm, a_tp, a_star, as_nil, kTs_e, as_cons, o_addi, o_adds, o_addt, o_addnn, kAddN_e, o_addrn, kAddX_e, o_addnr, kAddR_e, o_addrr, o_subi, o_muli, o_mult, o_div, o_mod, o_pow, c_lt, c_lts, c_le, c_gt, c_ge, c_is, c_isn, kNeq_e, c_eq, c_ne, c_in, c_nin, q_str, q_int, n_tup, i_tup, i_new, i_scr, kAt_e, i_ref, kLook_e, i_dct, i_dnew, l_tup, l_new, l_scr, kCut_e, l_ref, v_tup, v_new, kRvs_e, v_ref, f_len, f_tup, f_lst, f_rep, f_len_t, f_len_n, f_tup_t, f_tup_n, f_lst_t, f_lst_n, kLen_e, f_len_r, kTupB_e, f_tup_r, kLstB_e, f_lst_r, m_app, m_ext, m_pop, m_spl, kApp_e, m_app_e, kExt_e, m_ext_n, kPop_e, m_pop_e, r_app, r_ext, r_pop, kStL_e, st_lst, r_spl, kLv_t, leave_new, leave_val, kFrz_v, kFrz_l, kFrz_d, kIsi_non, kIsi_bl, kIsi_int, kIsi_str, kIsi_tup, kIsi_lst, kIsiT_non, kIsiT_bl, kIsiT_int, kIsiT_str, kIsiT_tup, kIsiT_lst, kDgA_str, kDg3_e, kDg2_e, s_frz, s_isi, t_isi, a_starF, o_addll, o_addln, o_addnl, o_addrl, o_multn, n_lst, n_new, i_lst, i_dctv, l_lst, v_lst, f_len_l, f_tup_l, f_lst_l, asIt_lst, asEn_lst, m_ext_l, f_str, f_int, f_all, f_any, f_srt, f_str_i, f_str_s, f_str_n, f_int_i, f_int_b, m_join, r_join, s_sset, s_lset, kPx2_e, kPx1_v, kPx1_n, kPx_s, kPx_i, ex_nil, ex_cons, s_dcx, kNewD_e, kDcm_e, s_dcm, f_dic, m_upd, r_upd, kUpd_e, m_upd_n, kStK_e, st_dct, kHas_e, n_dref, n_dctv, q_at, Ev.setAll, wipeD, D.low, D.lows, Rv.low, O.low, D.flat, D.eqf, D.keyOf, Ev.look, Ev.put, ofString_inj, sizeLine_eq, atI0, atI1, atI2, atI3, atI4, atI5, lows_app, isiB, lookR,
  List.map_cons, List.map_nil, List.length_cons, List.length_nil, List.getElem?_cons_zero, List.getElem?_cons_succ, List.replicate, List.cons_append, List.nil_append, List.append_nil, List.set_cons_succ, List.set_cons_zero, List.drop_succ_cons, List.drop_zero, List.take_left, List.take_length, List.all_cons, List.all_nil, List.any_cons, List.any_nil, List.getElem?_nil, List.foldl_cons, List.foldl_nil, List.zip_cons_cons, List.zip_nil_right, List.zip_nil_left, List.flatten_cons, List.flatten_nil,
  Nat.reduceAdd, Nat.reduceSub, Nat.zero_add, Nat.add_zero, Nat.reduceLeDiff, Nat.reduceLT, Int.reduceLE, Int.reduceLT, Int.reduceToNat, Int.reduceNeg, decide_true, decide_false, Bool.not_true, Bool.not_false, Bool.and_true, Bool.true_and, Bool.and_false, Bool.false_and, Bool.or_true, Bool.true_or, Bool.or_false, Bool.false_or, if_true, if_false, reduceIte, Bool.false_eq_true, String.reduceEq, and_true, true_and, and_self, reduceCtorEq, ne_eq, not_true_eq_false, not_false_eq_true, List.getElem?_append_right, Nat.sub_self, Nat.le_refl, List.length_append, grd_pos, Sum.inr.injEq, eq_self, Ev.big, Int.reduceEq, Int.reduceNe, Int.reducePow, Int.reduceMul, Int.reduceAdd, Int.reduceSub, List.length_map, List.isEmpty_nil, List.isEmpty_cons, List.set_set, take_set, List.getElem?_set_self, List.getElem?_set_ne, List.length_set, List.getElem?_append_left, Option.isSome_some, mayPut, ixN_lit])
local macro_rules | `(tactic| walk_at "evh") => `(tactic| simp only [*, bnd_some, fin_rt, fin_nx, getv_zero, getv_succ, kVal_e, kTup_e, kLst_e, kDct_e, kRv_e, kBl_e, kBo_e, kBin2_e, kBin_e, kNeg_e, kNot_e, kNotB_e, kBop_e, kCmp2_e, kCmp_e, kTst2_e, kTst_e, kIfx_t, kIfx_f, kCall_e, kCallB_e, kMeth2_e, kMeth_e, kIdx2_e, kIdx_e, kSlc3_e, kSlc2_e, kSlc_e, kRev_e, kNew_e, kReg_v, kReg_n, kLc_e, kLc2_e, kAnd_t, kAnd_f, kOr_t, kOr_f, kVarB_e, asB_bl, asBE_bl, kCallT_e, kTcall_e, kCons2_e, kCons_v, kCons_n, kRs2_e, kRs_e, kPr2_e, kPr_v, kPr_n, kL_e, getL_e, kK_e, asL_ref, s_var, s_int, s_str, s_bl, s_non, s_tup, s_lst, s_dct, s_bin, s_neg, s_not, s_bop, s_cmp, s_ifx, s_call, s_callB, s_meth, s_idx, s_slc, s_rev, s_lc, s_lc2, t_not, t_bop, t_bl, t_var, t_cmp, t_call, t_callB, b_one, b_and, b_or, es_nil, es_cons, er_nil, er_cons, eo_none, asI_int, eo_some, ec_none, ec_some, ep_nil, ep_cons, asIt_dct, asIt_tup, asIt_new, kItR_e, asIt_ref, asIt_str, ei_seq, asRg_one, asRg_nat, ei_range, kEnR_e, asEn_ref, asEn_new, ei_enum, kPut_e, kAsg_v, kAsg_n, x_asg, kPar_e, x_par, kHeap_e, kSto3_e, kSto2_e, kSto_v, kSto_n, x_sto, kExpr_e, x_expr, kRet_e, x_ret, kIf_t, kIf_f, x_if, kFor_e, x_for, x_whl, x_pass, x_brk, x_cont, kSeq_nx, kSeq_rt, kSeq_bk, kSeq_ct, xs_nil, xs_cons, a_nm, a_tp, a_star, as_nil, kTs_e, as_cons, o_addi, o_adds, o_addt, o_addnn, kAddN_e, o_addrn, kAddX_e, o_addnr, kAddR_e, o_addrr, o_subi, o_muli, o_mult, o_div, o_mod, o_pow, c_lt, c_lts, c_le, c_gt, c_ge, c_is, c_isn, kNeq_e, c_eq, c_ne, c_in, c_nin, q_str, q_int, n_tup, i_tup, i_new, i_scr, kAt_e, i_ref, kLook_e, i_dct, i_dnew, l_tup, l_new, l_scr, kCut_e, l_ref, v_tup, v_new, kRvs_e, v_ref, f_len, f_tup, f_lst, f_rep, f_len_t, f_len_n, f_tup_t, f_tup_n, f_lst_t, f_lst_n, kLen_e, f_len_r, kTupB_e, f_tup_r, kLstB_e, f_lst_r, m_app, m_ext, m_pop, m_spl, kApp_e, m_app_e, kExt_e, m_ext_n, kPop_e, m_pop_e, r_app, r_ext, r_pop, kStL_e, st_lst, r_spl, kLv_t, leave_new, leave_val, kFrz_v, kFrz_l, kFrz_d, kIsi_non, kIsi_bl, kIsi_int, kIsi_str, kIsi_tup, kIsi_lst, kIsiT_non, kIsiT_bl, kIsiT_int, kIsiT_str, kIsiT_tup, kIsiT_lst, kDgA_str, kDg3_e, kDg2_e, s_frz, s_isi, t_isi, a_starF, o_addll, o_addln, o_addnl, o_addrl, o_multn, n_lst, n_new, i_lst, i_dctv, l_lst, v_lst, f_len_l, f_tup_l, f_lst_l, asIt_lst, asEn_lst, m_ext_l, f_str, f_int, f_all, f_any, f_srt, f_str_i, f_str_s, f_str_n, f_int_i, f_int_b, m_join, r_join, s_sset, s_lset, kPx2_e, kPx1_v, kPx1_n, kPx_s, kPx_i, ex_nil, ex_cons, s_dcx, kNewD_e, kDcm_e, s_dcm, f_dic, m_upd, r_upd, kUpd_e, m_upd_n, kStK_e, st_dct, kHas_e, n_dref, n_dctv, q_at, Ev.setAll, wipeD, D.low, D.lows, Rv.low, O.low, D.flat, D.eqf, D.keyOf, Ev.look, Ev.put, ofString_inj, sizeLine_eq, atI0, atI1, atI2, atI3, atI4, atI5, lows_app, isiB, lookR,
  List.map_cons, List.map_nil, List.length_cons, List.length_nil, List.getElem?_cons_zero, List.getElem?_cons_succ, List.replicate, List.cons_append, List.nil_append, List.append_nil, List.set_cons_succ, List.set_cons_zero, List.drop_succ_cons, List.drop_zero, List.take_left, List.take_length, List.all_cons, List.all_nil, List.any_cons, List.any_nil, List.getElem?_nil, List.foldl_cons, List.foldl_nil, List.zip_cons_cons, List.zip_nil_right, List.zip_nil_left, List.flatten_cons, List.flatten_nil,
  Nat.reduceAdd, Nat.reduceSub, Nat.zero_add, Nat.add_zero, Nat.reduceLeDiff, Nat.reduceLT, Int.reduceLE, Int.reduceLT, Int.reduceToNat, Int.reduceNeg, decide_true, decide_false, Bool.not_true, Bool.not_false, Bool.and_true, Bool.true_and, Bool.and_false, Bool.false_and, Bool.or_true, Bool.true_or, Bool.or_false, Bool.false_or, if_true, if_false, reduceIte, Bool.false_eq_true, String.reduceEq, and_true, true_and, and_self, reduceCtorEq, ne_eq, not_true_eq_false, not_false_eq_true, List.getElem?_append_right, Nat.sub_self, Nat.le_refl, List.length_append, grd_pos, Sum.inr.injEq, eq_self, Ev.big, Int.reduceEq, Int.reduceNe, Int.reducePow, Int.reduceMul, Int.reduceAdd, Int.reduceSub, List.length_map, List.isEmpty_nil, List.isEmpty_cons, List.set_set, take_set, List.getElem?_set_self, List.getElem?_set_ne, List.length_set, List.getElem?_append_left, Option.isSome_some, mayPut, ixN_lit])
namespace K11
open PySem Ev
theorem g_nums : ∀ y ∈ (["gold", "hp", "k"] : List Str), gd y = true := by
  intro y hy; simp only [List.mem_cons, List.not_mem_nil, or_false] at hy; rcases hy with rfl | rfl | rfl <;> decide +kernel
theorem g_places : ∀ y ∈ (["cave", "inn", "yard"] : List Str), gd y = true := by
  intro y hy; simp only [List.mem_cons, List.not_mem_nil, or_false] at hy; rcases hy with rfl | rfl | rfl <;> decide +kernel
theorem g_figs : ∀ y ∈ (["ann", "bob", "cat"] : List Str), gd y = true := by
  intro y hy; simp only [List.mem_cons, List.not_mem_nil, or_false] at hy; rcases hy with rfl | rfl | rfl <;> decide +kernel
set_option maxHeartbeats 8000000 in
/-- from the names on -/
theorem tale_of (wf k b : Nat) (hk : 18 < k) {f c : Nat} {E : Eh} (hF : Fd f c E) (hc : c + 3100000 < 100000000) (mn : Int) (ns : List Str) (hns : goodL ns) (hn6 : ns.length ≤ 6) (hne : ns.isEmpty = false) :
    ∃ (t : Tl) (w : Wp) (E' : Eh), w.sc = ns ∧ exs (callF prog wf k) wf b b__law_tale_1 [some (.ref f), some (.int mn), some (.lst (ns.map .str)), none, none, none, none, none, none, none, none, none, none, none, none, none] E
      = some (.rt (.val t.d), E') ∧ t.ok w ∧ Fd f (c + 800000) E' ∧ ∃ (E6 : Eh) (o : O), Fr f f E E6 ∧ Fr f E6.length (E6 ++ [o]) E' := by
  obtain ⟨u1, E2, e2, hu1, D2, F2⟩ := drf wf hF (by omega) k (by omega) 2 (by omega) (by omega)
  obtain ⟨u2, E3, e3, hu2, D3, F3⟩ := drf wf D2 (by omega) k (by omega) 3 (by omega) (by omega)
  have c2 : cut [D.str "gold", .str "hp", .str "k"] (some u1) (some (1 + u2)) = (cut (["gold", "hp", "k"] : List Str) (some u1) (some (1 + u2))).map .str := by rw [← cut_map]; rfl
  have l2 := cut_len (["gold", "hp", "k"] : List Str) (some u1) (some (1 + u2))
  have g2 : ∀ y ∈ cut (["gold", "hp", "k"] : List Str) (some u1) (some (1 + u2)), gd y = true := fun y hy => g_nums y (cut_mem hy)
  generalize cut (["gold", "hp", "k"] : List Str) (some u1) (some (1 + u2)) = nu at c2 l2 g2
  obtain ⟨u3, E4, e4, hu3, D4, F4⟩ := drf wf D3 (by omega) k (by omega) 2 (by omega) (by omega)
  obtain ⟨u4, E5, e5, hu4, D5, F5⟩ := drf wf D4 (by omega) k (by omega) 3 (by omega) (by omega)
  have c3 : cut [D.str "cave", .str "inn", .str "yard"] (some u3) (some (1 + u4)) = (cut (["cave", "inn", "yard"] : List Str) (some u3) (some (1 + u4))).map .str := by rw [← cut_map]; rfl
  have l3 := cut_len (["cave", "inn", "yard"] : List Str) (some u3) (some (1 + u4))
  have g3 : ∀ y ∈ cut (["cave", "inn", "yard"] : List Str) (some u3) (some (1 + u4)), gd y = true := fun y hy => g_places y (cut_mem hy)
  generalize cut (["cave", "inn", "yard"] : List Str) (some u3) (some (1 + u4)) = pl at c3 l3 g3
  simp only [List.length_cons, List.length_nil] at l2 l3
  have gp : goodL pl := ⟨by omega, g3⟩
  have gn : goodL nu := ⟨by omega, g2⟩
  have qp : ∀ E, eqRv E (.val (.lst (pl.map .str))) (.new (.lst [])) = some pl.isEmpty := fun E => eqRv_lstrs gp.ok
  have G5 := ((F2.trans F3).trans F4).trans F5
  have rest : ∀ (fi : List Str) (c6 : Nat) (E6 : Eh), (∀ x ∈ fi, gd x = true) → fi.length ≤ 3 → (fi ≠ [] → pl.isEmpty = false) → Fd f c6 E6 → Fr f f E5 E6 → c6 ≤ c + 10 →
      ∃ (t : Tl) (w : Wp) (E' : Eh), w.sc = ns ∧ exs (callF prog wf k) wf b b__law_tale_4 [some (.ref f), some (.int mn), some (.lst (ns.map .str)), some (.lst (nu.map .str)), some (.lst (pl.map .str)), some (.lst (fi.map .str)), none, none, none, none, none, none, none, none, none, none] E6
      = some (.rt (.val t.d), E') ∧ t.ok w ∧ Fd f (c + 800000) E' ∧ ∃ (E6 : Eh) (o : O), Fr f f E E6 ∧ Fr f E6.length (E6 ++ [o]) E' := by
    intro fi c6 E6 g6 l6 hfp D6 F6 hc6
    have hlt := D6.lt
    let w : Wp := ⟨f, E6.length, [.inr "scene", .inr "number", .inr "place", .inr "figure", .inr "left"], [.lst (ns.map .str), .lst (nu.map .str), .lst (pl.map .str), .lst (fi.map .str), .ref E6.length], ns, nu, pl, fi⟩
    have at_ : ∀ (x : Str), w.at x = look ([.inr "scene", .inr "number", .inr "place", .inr "figure", .inr "left"].zip [.lst (ns.map .str), .lst (nu.map .str), .lst (pl.map .str), .lst (fi.map .str), .ref E6.length]) (.inr x) := fun _ => rfl
    have hw : w.ok := {
      a := by rw [at_]; walk_at "ev"; rfl
      b := by rw [at_]; walk_at "ev"; rfl
      c := by rw [at_]; walk_at "ev"; rfl
      d := by rw [at_]; walk_at "ev"; rfl
      l := by rw [at_]; walk_at "ev"; rfl
      ga := hns
      gb := gn
      gc := gp
      gdd := ⟨by show fi.length < 60; omega, g6⟩
      ne := by show f ≠ E6.length; omega }
    have hSt : St w c6 (E6 ++ [O.lst [.int 60]]) := ⟨D6.app _, ⟨60, by show (E6 ++ [O.lst [.int 60]])[E6.length]? = _; simp⟩⟩
    obtain ⟨t, E7, e7, ht, S7, F7⟩ := tale_tail wf k b (by omega) hw hSt (by omega) hne ⟨hn6, l2, l3, l6⟩ hfp mn
    refine ⟨t, w, E7, rfl, ?_, ht, S7.fd.le (by omega), E6, _, G5.trans F6, F7⟩
    simp only [w, Wp.q] at e7
    clear ht S7 F7 hSt hw at_ hfp g6
    simp only [b__law_tale_4]
    walk_at "evh"
  simp only [b__law_tale_1, b__law_tale_2, b__law_tale_3]
  cases hp : pl.isEmpty
  · obtain ⟨u5, E6, e6, hu5, D6, F6⟩ := drf wf D5 (by omega) k (by omega) 4 (by omega) (by omega)
    have c4 : cut [D.str "ann", .str "bob", .str "cat"] none (some u5) = (cut (["ann", "bob", "cat"] : List Str) none (some u5)).map .str := by rw [← cut_map]; rfl
    have l4 := cut_len (["ann", "bob", "cat"] : List Str) none (some u5)
    obtain ⟨t, w, E', r0, r1, r2⟩ := rest (cut (["ann", "bob", "cat"] : List Str) none (some u5)) _ E6 (fun y hy => g_figs y (cut_mem hy)) l4 (fun _ => hp) D6 F6 (by omega)
    refine ⟨t, w, E', r0, ?_, r2⟩
    rw [← r1]
    clear rest r1 r2 g2 g3 hns
    walk_at "evh"
  · obtain ⟨t, w, E', r0, r1, r2⟩ := rest [] _ E5 (by simp) (by simp) (by simp) D5 (Fr.refl ..) (by omega)
    refine ⟨t, w, E', r0, ?_, r2⟩
    rw [← r1]
    clear rest r1 r2 g2 g3 hns
    walk_at "evh"
end K11
end GF11
section GT11
open PySem Ev
local macro_rules | `(tactic| walk_at "ev") => `(tactic| simp only [bnd_some, fin_rt, fin_nx, getv_zero, getv_succ, kVal_e, kTup_e, kLst_e, kDct_e, kRv_e, kBl_e, kBo_e, kBin2_e, kBin_e, kNeg_e, kNot_e, kNotB_e, kBop_e, kCmp2_e, kCmp_e, kTst2_e, kTst_e, kIfx_t, kIfx_f, kCall_e, kCallB_e, kMeth2_e, kMeth_e, kIdx2_e, kIdx_e, kSlc3_e, kSlc2_e, kSlc_e, kRev_e, kNew_e, kReg_v, kReg_n, kLc_e, kLc2_e, kAnd_t, kAnd_f, kOr_t, kOr_f, kVarB_e, asB_bl, asBE_bl, kCallT_e, kTcall_e, kCons2_e, kCons_v, kCons_n, kRs2_e, kRs_e, kPr2_e, kPr_v, kPr_n, kL_e, getL_e, kK_e, asL_ref, s_var, s_int, s_str, s_bl, s_non, s_tup, s_lst, s_dct, s_bin, s_neg, s_not, s_bop, s_cmp, s_ifx, s_call, s_callB, s_meth, s_idx, s_slc, s_rev, s_lc, s_lc2, t_not, t_bop, t_bl, t_var, t_cmp, t_call, t_callB, b_one, b_and, b_or, es_nil, es_cons, er_nil, er_cons, eo_none, asI_int, eo_some, ec_none, ec_some, ep_nil, ep_cons, asIt_dct, asIt_tup, asIt_new, kItR_e, asIt_ref, asIt_str, ei_seq, asRg_one, asRg_nat, ei_range, kEnR_e, asEn_ref, asEn_new, ei_enum, kPut_e, kAsg_v, kAsg_n, x_asg, kPar_e, x_par, kHeap_e, kSto3_e, kSto2_e, kSto_v, kSto_n, x_sto, kExpr_e, x_expr, kRet_e, x_ret, kIf_t, kIf_f, x_if, kFor_e, x_for, x_whl, x_pass, x_brk, x_cont, kSeq_nx, kSeq_rt, kSeq_bk, kSeq_ct, xs_nil, xs_cons, a_nm, a_tp, a_star, as_nil, kTs_e, as_cons, o_addi, o_adds, o_addt, o_addnn, kAddN_e, o_addrn, kAddX_e, o_addnr, kAddR_e, o_addrr, o_subi, o_muli, o_mult, o_div, o_mod, o_pow, c_lt, c_lts, c_le, c_gt, c_ge, c_is, c_isn, kNeq_e, c_eq, c_ne, c_in, c_nin, q_str, q_int, n_tup, i_tup, i_new, i_scr, kAt_e, i_ref, kLook_e, i_dct, i_dnew, l_tup, l_new, l_scr, kCut_e, l_ref, v_tup, v_new, kRvs_e, v_ref, f_len, f_tup, f_lst, f_rep, f_len_t, f_len_n, f_tup_t, f_tup_n, f_lst_t, f_lst_n, kLen_e, f_len_r, kTupB_e, f_tup_r, kLstB_e, f_lst_r, m_app, m_ext, m_pop, m_spl, kApp_e, m_app_e, kExt_e, m_ext_n, kPop_e, m_pop_e, r_app, r_ext, r_pop, kStL_e, st_lst, r_spl, kLv_t, leave_new, leave_val, kFrz_v, kFrz_l, kFrz_d, kIsi_non, kIsi_bl, kIsi_int, kIsi_str, kIsi_tup, kIsi_lst, kIsiT_non, kIsiT_bl, kIsiT_int, kIsiT_str, kIsiT_tup, kIsiT_lst, kDgA_str, kDg3_e, kDg2_e, s_frz, s_isi, t_isi, a_starF, o_addll, o_addln, o_addnl, o_addrl, o_multn, n_lst, n_new, i_lst, i_dctv, l_lst, v_lst, f_len_l, f_tup_l, f_lst_l, asIt_lst, asEn_lst, m_ext_l, f_str, f_int, f_all, f_any, f_srt, f_str_i, f_str_s, f_str_n, f_int_i, f_int_b, m_join, r_join, s_sset, s_lset, kPx2_e, kPx1_v, kPx1_n, kPx_s, kPx_i, ex_nil, ex_cons, s_dcx, kNewD_e, kDcm_e, s_dcm, f_dic, m_upd, r_upd, kUpd_e, m_upd_n, kStK_e, st_dct, kHas_e, n_dref, n_dctv, q_at, Ev.setAll, wipeD, D.low, D.lows, Rv.low, O.low, D.flat, D.eqf, D.keyOf, Ev.look, Ev.put, ofString_inj, sizeLine_eq, atI0, atI1, atI2, atI3, atI4, atI5, lows_app, isiB, lookR,
  List.map_cons, List.map_nil, List.length_cons, List.length_nil, List.getElem?_cons_zero, List.getElem?_cons_succ, List.replicate, List.cons_append, List.nil_append, List.append_nil, List.set_cons_succ, List.set_cons_zero, List.drop_succ_cons, List.drop_zero, List.take_left, List.take_length, List.all_cons, List.all_nil, List.any_cons, List.any_nil, List.getElem?_nil, List.foldl_cons, List.foldl_nil, List.zip_cons_cons, List.zip_nil_right, List.zip_nil_left, List.flatten_cons, List.flatten_nil,
  Nat.reduceAdd, Nat.reduceSub, Nat.zero_add, Nat.add_zero, Nat.reduceLeDiff, Nat.reduceLT, Int.reduceLE, Int.reduceLT, Int.reduceToNat, Int.reduceNeg, decide_true, decide_false, Bool.not_true, Bool.not_false, Bool.and_true, Bool.true_and, Bool.and_false, Bool.false_and, Bool.or_true, Bool.true_or, Bool.or_false, Bool.false_or, if_true, if_false, reduceIte, Bool.false_eq_true, String.reduceEq, and_true, true_and, and_self, reduceCtorEq, ne_eq, not_true_eq_false, not_false_eq_true, List.getElem?_append_right, Nat.sub_self, Nat.le_refl, List.length_append, grd_pos, Sum.inr.injEq, eq_self, Ev.big, Int.reduceEq, Int.reduceNe, Int.reducePow, Int.reduceMul, Int.reduceAdd, Int.reduceSub, List.length_map, List.isEmpty_nil, List.isEmpty_cons, List.set_set, take_set, List.getElem?_set_self, List.getElem?_set_ne, List.length_set, List.getElem?_append_left, Option.isSome_some, mayPut, ixN_lit])
local macro_rules | `(tactic| walk_at "evh") => `(tactic| simp only [*, bnd_some, fin_rt, fin_nx, getv_zero, getv_succ, kVal_e, kTup_e, kLst_e, kDct_e, kRv_e, kBl_e, kBo_e, kBin2_e, kBin_e, kNeg_e, kNot_e, kNotB_e, kBop_e, kCmp2_e, kCmp_e, kTst2_e, kTst_e, kIfx_t, kIfx_f, kCall_e, kCallB_e, kMeth2_e, kMeth_e, kIdx2_e, kIdx_e, kSlc3_e, kSlc2_e, kSlc_e, kRev_e, kNew_e, kReg_v, kReg_n, kLc_e, kLc2_e, kAnd_t, kAnd_f, kOr_t, kOr_f, kVarB_e, asB_bl, asBE_bl, kCallT_e, kTcall_e, kCons2_e, kCons_v, kCons_n, kRs2_e, kRs_e, kPr2_e, kPr_v, kPr_n, kL_e, getL_e, kK_e, asL_ref, s_var, s_int, s_str, s_bl, s_non, s_tup, s_lst, s_dct, s_bin, s_neg, s_not, s_bop, s_cmp, s_ifx, s_call, s_callB, s_meth, s_idx, s_slc, s_rev, s_lc, s_lc2, t_not, t_bop, t_bl, t_var, t_cmp, t_call, t_callB, b_one, b_and, b_or, es_nil, es_cons, er_nil, er_cons, eo_none, asI_int, eo_some, ec_none, ec_some, ep_nil, ep_cons, asIt_dct, asIt_tup, asIt_new, kItR_e, asIt_ref, asIt_str, ei_seq, asRg_one, asRg_nat, ei_range, kEnR_e, asEn_ref, asEn_new, ei_enum, kPut_e, kAsg_v, kAsg_n, x_asg, kPar_e, x_par, kHeap_e, kSto3_e, kSto2_e, kSto_v, kSto_n, x_sto, kExpr_e, x_expr, kRet_e, x_ret, kIf_t, kIf_f, x_if, kFor_e, x_for, x_whl, x_pass, x_brk, x_cont, kSeq_nx, kSeq_rt, kSeq_bk, kSeq_ct, xs_nil, xs_cons, a_nm, a_tp, a_star, as_nil, kTs_e, as_cons, o_addi, o_adds, o_addt, o_addnn, kAddN_e, o_addrn, kAddX_e, o_addnr, kAddR_e, o_addrr, o_subi, o_muli, o_mult, o_div, o_mod, o_pow, c_lt, c_lts, c_le, c_gt, c_ge, c_is, c_isn, kNeq_e, c_eq, c_ne, c_in, c_nin, q_str, q_int, n_tup, i_tup, i_new, i_scr, kAt_e, i_ref, kLook_e, i_dct, i_dnew, l_tup, l_new, l_scr, kCut_e, l_ref, v_tup, v_new, kRvs_e, v_ref, f_len, f_tup, f_lst, f_rep, f_len_t, f_len_n, f_tup_t, f_tup_n, f_lst_t, f_lst_n, kLen_e, f_len_r, kTupB_e, f_tup_r, kLstB_e, f_lst_r, m_app, m_ext, m_pop, m_spl, kApp_e, m_app_e, kExt_e, m_ext_n, kPop_e, m_pop_e, r_app, r_ext, r_pop, kStL_e, st_lst, r_spl, kLv_t, leave_new, leave_val, kFrz_v, kFrz_l, kFrz_d, kIsi_non, kIsi_bl, kIsi_int, kIsi_str, kIsi_tup, kIsi_lst, kIsiT_non, kIsiT_bl, kIsiT_int, kIsiT_str, kIsiT_tup, kIsiT_lst, kDgA_str, kDg3_e, kDg2_e, s_frz, s_isi, t_isi, a_starF, o_addll, o_addln, o_addnl, o_addrl, o_multn, n_lst, n_new, i_lst, i_dctv, l_lst, v_lst, f_len_l, f_tup_l, f_lst_l, asIt_lst, asEn_lst, m_ext_l, f_str, f_int, f_all, f_any, f_srt, f_str_i, f_str_s, f_str_n, f_int_i, f_int_b, m_join, r_join, s_sset, s_lset, kPx2_e, kPx1_v, kPx1_n, kPx_s, kPx_i, ex_nil, ex_cons, s_dcx, kNewD_e, kDcm_e, s_dcm, f_dic, m_upd, r_upd, kUpd_e, m_upd_n, kStK_e, st_dct, kHas_e, n_dref, n_dctv, q_at, Ev.setAll, wipeD, D.low, D.lows, Rv.low, O.low, D.flat, D.eqf, D.keyOf, Ev.look, Ev.put, ofString_inj, sizeLine_eq, atI0, atI1, atI2, atI3, atI4, atI5, lows_app, isiB, lookR,
  List.map_cons, List.map_nil, List.length_cons, List.length_nil, List.getElem?_cons_zero, List.getElem?_cons_succ, List.replicate, List.cons_append, List.nil_append, List.append_nil, List.set_cons_succ, List.set_cons_zero, List.drop_succ_cons, List.drop_zero, List.take_left, List.take_length, List.all_cons, List.all_nil, List.any_cons, List.any_nil, List.getElem?_nil, List.foldl_cons, List.foldl_nil, List.zip_cons_cons, List.zip_nil_right, List.zip_nil_left, List.flatten_cons, List.flatten_nil,
  Nat.reduceAdd, Nat.reduceSub, Nat.zero_add, Nat.add_zero, Nat.reduceLeDiff, Nat.reduceLT, Int.reduceLE, Int.reduceLT, Int.reduceToNat, Int.reduceNeg, decide_true, decide_false, Bool.not_true, Bool.not_false, Bool.and_true, Bool.true_and, Bool.and_false, Bool.false_and, Bool.or_true, Bool.true_or, Bool.or_false, Bool.false_or, if_true, if_false, reduceIte, Bool.false_eq_true, String.reduceEq, and_true, true_and, and_self, reduceCtorEq, ne_eq, not_true_eq_false, not_false_eq_true, List.getElem?_append_right, Nat.sub_self, Nat.le_refl, List.length_append, grd_pos, Sum.inr.injEq, eq_self, Ev.big, Int.reduceEq, Int.reduceNe, Int.reducePow, Int.reduceMul, Int.reduceAdd, Int.reduceSub, List.length_map, List.isEmpty_nil, List.isEmpty_cons, List.set_set, take_set, List.getElem?_set_self, List.getElem?_set_ne, List.length_set, List.getElem?_append_left, Option.isSome_some, mayPut, ixN_lit])
namespace K11
open PySem Ev
theorem g_names : ∀ y ∈ (["barn", "cave", "dusk", "end", "hall", "zzzzzzzz"] : List Str), gd y = true := by
  intro y hy; simp only [List.mem_cons, List.not_mem_nil, or_false] at hy; rcases hy with rfl | rfl | rfl | rfl | rfl | rfl <;> decide +kernel
def allNames : List Str := ["barn", "cave", "dusk", "end", "hall", "zzzzzzzz"]
set_option maxHeartbeats 8000000 in
theorem tale_ok (wf k : Nat) (hk : 19 < k) {f c : Nat} {E : Eh} (hF : Fd f c E) (hc : c + 3200000 < 100000000) (mn : Int) (h1 : 1 ≤ mn) (h6 : mn ≤ 6) :
    ∃ (t : Tl) (w : Wp) (E' : Eh), callF prog wf k 14 [.ref f, .int mn] E = some (.val t.d, E') ∧ t.ok w ∧ (∃ n : Nat, 0 < n ∧ w.sc = allNames.take n) ∧ Fd f (c + 900000) E' ∧ Fr f f E E' := by
  obtain ⟨k, rfl⟩ : ∃ k', k = k' + 1 := ⟨k - 1, by omega⟩
  rw [call_step pg14 _ _ _ _ rfl]
  obtain ⟨v, E1, e1, hv, D1, F1⟩ := drf wf hF (by omega) k (by omega) mn (by omega) (by omega)
  have c1 : cut [D.str "barn", .str "cave", .str "dusk", .str "end", .str "hall", .str "zzzzzzzz"] none (some (1 + v)) = (cut (["barn", "cave", "dusk", "end", "hall", "zzzzzzzz"] : List Str) none (some (1 + v))).map .str := by rw [← cut_map]; rfl
  have l1 := cut_len (["barn", "cave", "dusk", "end", "hall", "zzzzzzzz"] : List Str) none (some (1 + v))
  have g1 : ∀ y ∈ cut (["barn", "cave", "dusk", "end", "hall", "zzzzzzzz"] : List Str) none (some (1 + v)), gd y = true := fun y hy => g_names y (cut_mem hy)
  have n1 : (cut (["barn", "cave", "dusk", "end", "hall", "zzzzzzzz"] : List Str) none (some (1 + v))).isEmpty = false ∧ ∃ n : Nat, 0 < n ∧ cut (["barn", "cave", "dusk", "end", "hall", "zzzzzzzz"] : List Str) none (some (1 + v)) = allNames.take n := by
    have : v = 0 ∨ v = 1 ∨ v = 2 ∨ v = 3 ∨ v = 4 ∨ v = 5 := by omega
    rcases this with rfl | rfl | rfl | rfl | rfl | rfl
    · exact ⟨by decide +kernel, 1, by omega, rfl⟩
    · exact ⟨by decide +kernel, 2, by omega, rfl⟩
    · exact ⟨by decide +kernel, 3, by omega, rfl⟩
    · exact ⟨by decide +kernel, 4, by omega, rfl⟩
    · exact ⟨by decide +kernel, 5, by omega, rfl⟩
    · exact ⟨by decide +kernel, 6, by omega, rfl⟩
  generalize cut (["barn", "cave", "dusk", "end", "hall", "zzzzzzzz"] : List Str) none (some (1 + v)) = ms at c1 l1 g1 n1
  simp only [List.length_cons, List.length_nil] at l1
  obtain ⟨n1, n2⟩ := n1
  have hg : goodL ms := ⟨by omega, g1⟩
  obtain ⟨t, w, E2, r0, r1, r2, r3, E6, o, F6, F7⟩ := tale_of wf k E.length (by omega) D1 (by omega) mn ms hg (by omega) n1
  have hfr := Fr.cutl (F1.trans F6) F7
  have hlow := Tl.dlow E.length t
  have hlt := hF.lt
  refine ⟨t, w, E2.take E.length, ?_, r2, by rw [r0]; exact n2, (r3.take hlt).le (by omega), hfr⟩
  clear r2 r3 F6 F7 hfr g1 hg n2
  simp only [b__law_tale]
  walk_at "evh"
end K11
end GT11
section EvFor
/-! loops and comprehensions, generic; two lists noted; whiles -/
namespace Ev
open PySem
theorem flatMap_strs {α : Type} (g : α → List Str) : ∀ as : List α, as.flatMap (fun a => (g a).map D.str) = (as.flatMap g).map .str
  | [] => rfl
  | a :: as => by rw [List.flatMap_cons, List.flatMap_cons, List.map_append, flatMap_strs g as]
/-- a loop that adds to a list that stands as a value -/
theorem forL_val {α : Type} (tg : D → Sd → Eh → Option (Sd × Eh)) (body : Sd → Eh → Option (Fl × Eh)) (f : α → D) (g : α → List D) (mk : List D → Option D → Sd) (E : Eh) :
    ∀ (as : List α) (acc : List D) (o : Option D), acc.length + (as.flatMap g).length ≤ 16777216 →
    (∀ a ∈ as, ∀ (acc : List D) (o : Option D), acc.length + (g a).length ≤ 16777216 → ∃ (σ1 : Sd) (o' : Option D), tg (f a) (mk acc o) E = some (σ1, E) ∧ body σ1 E = some (.nx (mk (acc ++ g a) o'), E)) →
    ∃ o' : Option D, forL tg body (chk none) (as.map f) (mk acc o) E = some (.nx (mk (acc ++ as.flatMap g) o'), E)
  | [], acc, o, _, _ => ⟨o, by rw [List.map_nil, forL, if_pos (show chk none E = true from rfl), List.flatMap_nil, List.append_nil]⟩
  | a :: as, acc, o, hl, h => by
    rw [List.flatMap_cons, List.length_append] at hl
    obtain ⟨σ1, o1, e1, e2⟩ := h a (List.mem_cons_self ..) acc o (by omega)
    obtain ⟨o2, e3⟩ := forL_val tg body f g mk E as (acc ++ g a) o1 (by rw [List.length_append]; omega) (fun x hx => h x (List.mem_cons_of_mem _ hx))
    refine ⟨o2, ?_⟩
    rw [List.map_cons, forL, if_pos (show chk none E = true from rfl), e1]
    simp only [e2]
    rw [e3, List.flatMap_cons, List.append_assoc]
theorem cut_tail {α : Type} (x : α) (xs : List α) : cut (x :: xs) (some 1) none = xs := by
  have h1 : HT.sIx (x :: xs).length 0 (some 1) = 1 := by
    simp only [HT.sIx, List.length_cons]
    split <;> omega
  have h2 : HT.sIx (x :: xs).length (x :: xs).length none = (x :: xs).length := rfl
  rw [cut, h1, h2]
  simp
theorem cut_tl {α : Type} (xs : List α) : cut xs (some 1) none = xs.tail := by
  cases xs with
  | nil => rfl
  | cons x xs => exact cut_tail x xs
theorem getv_set {σ : Sd} {i : Nat} (o : Option D) (h : i < σ.length) : getv (σ.set i o) i = o := by unfold getv; rw [List.getElem?_set_self h]; cases o <;> rfl
theorem getv_set_ne {σ : Sd} {i j : Nat} (o : Option D) (h : i ≠ j) : getv (σ.set j o) i = getv σ i := by unfold getv; rw [List.getElem?_set_ne (by omega)]
theorem lc_eachN {α : Type} (cf : Cf) (b j n : Nat) (hjn : j < n) (e : Ex) (f g : α → D) (as : List α) (hl : as.length ≤ 16777216)
    (h : ∀ a ∈ as, ∀ (σ : Sd) (E : Eh), n ≤ σ.length → getv σ j = some (f a) → eltF cf b e σ E = some (g a, E)) (σ : Sd) (E : Eh) (hn : n ≤ σ.length) :
    lcL (asgT (.nm j)) (cndF cf b .none) (eltF cf b e) (chk none) σ (as.map f) [] E = some (as.map g, E) := by
  have := lcL_map (asgT (.nm j)) (cndF cf b .none) (eltF cf b e) none σ E rfl f (fun a => σ.set j (some (f a))) g as [] (by simp only [List.length_nil]; omega) (fun a _ => by rw [a_nm]) (fun a _ => by rw [cndF, ec_none]) (fun a ha => h a ha _ E (by rw [List.length_set]; exact hn) (getv_set _ (by omega)))
  rw [List.nil_append] at this
  exact this
theorem lc_filtN {α : Type} (cf : Cf) (b j n : Nat) (hjn : j < n) (e c : Ex) (f g : α → D) (p : α → Bool) (as : List α) (hl : as.length ≤ 16777216) (σ : Sd) (E : Eh) (hn : n ≤ σ.length)
    (h1 : ∀ a ∈ as, cndF cf b (.some c) (σ.set j (some (f a))) E = some (p a, E)) (h2 : ∀ a ∈ as, p a = true → eltF cf b e (σ.set j (some (f a))) E = some (g a, E)) :
    lcL (asgT (.nm j)) (cndF cf b (.some c)) (eltF cf b e) (chk none) σ (as.map f) [] E = some ((as.filter p).map g, E) := by
  have := lcL_filter (asgT (.nm j)) (cndF cf b (.some c)) (eltF cf b e) none σ E rfl f (fun a => σ.set j (some (f a))) p g as [] (by simp only [List.length_nil]; omega) (fun a _ => by rw [a_nm]) h1 h2
  rw [List.nil_append] at this
  exact this
theorem lc2_each {α : Type} (cf : Cf) (b i j : Nat) (it1 : It) (f : α → D) (g : α → List D) (as : List α) (hl : (as.flatMap g).length ≤ 16777216)
    (h : ∀ a ∈ as, ∀ (σ : Sd) (E : Eh), getv σ i = some (f a) → itrF cf b it1 σ E = some (g a, none, E)) (σ : Sd) (E : Eh) (hi : i < σ.length) (hj : j < σ.length) :
    lc2L (asgT (.nm i)) (innerL (asgT (.nm j)) (itrF cf b it1) (eltF cf b (.var j)) [j]) (chk none) σ (as.map f) [] E = some (as.flatMap g, E) := by
  have := lc2L_map (asgT (.nm i)) (innerL (asgT (.nm j)) (itrF cf b it1) (eltF cf b (.var j)) [j]) σ E f (fun a => σ.set i (some (f a))) g as [] (fun a _ => by rw [a_nm]) (fun a ha acc hl2 => innerL_id cf b j it1 [j] _ E (g a) acc (by simp only [wipeD, List.length_set]; omega) (h a ha _ E (getv_set _ (by omega))) hl2) (by simpa using hl)
  rw [List.nil_append] at this
  exact this
/-! two new objects -/
theorem ap_get0 (E : Eh) (a b : O) : (E ++ [a] ++ [b])[E.length]? = some a := by simp
theorem ap_get1 (E : Eh) (a b : O) : (E ++ [a] ++ [b])[E.length + 1]? = some b := by simp
theorem ap_set0 (E : Eh) (a b c : O) : (E ++ [a] ++ [b]).set E.length c = E ++ [c] ++ [b] := by simp
theorem ap_set1 (E : Eh) (a b c : O) : (E ++ [a] ++ [b]).set (E.length + 1) c = E ++ [a] ++ [c] := by
  rw [List.set_append_right (h := by simp)]; simp
theorem ap_take (E : Eh) (a b : O) : (E ++ [a] ++ [b]).take E.length = E := by
  rw [List.append_assoc]; exact List.take_left ..
theorem leave_ref {b n : Nat} {E : Eh} {xs : List D} (hn : b ≤ n) (h : E[n]? = some (.lst xs)) (hl : D.lows b xs = true) : kLv false b (.val (.ref n)) E = (.new (.lst xs), E.take b) := by
  show leave b (.val (.ref n)) E = _
  unfold leave
  rw [if_neg (by simp only [Rv.low, D.low, decide_eq_true_eq]; omega)]
  simp only [h, O.low, hl, if_true]
/-! whiles -/
theorem while_run (t : Sd → Eh → Option (Bool × Eh)) (body : Sd → Eh → Option (Fl × Eh)) (I : Nat → Sd → Eh → Prop) (F : Sd → Eh → Prop)
    (h : ∀ m σ E, I m σ E → (t σ E = some (false, E) ∧ F σ E) ∨ (∃ m' σ' E', m' < m ∧ I m' σ' E' ∧ t σ E = some (true, E) ∧ body σ E = some (.nx σ', E'))) :
    ∀ n m σ E, I m σ E → m < n → ∃ σ' E', F σ' E' ∧ whileL t body n σ E = some (.nx σ', E') := by
  intro n
  induction n with
  | zero => intro m σ E _ hm; omega
  | succ n ih =>
    intro m σ E hI hm
    rcases h m σ E hI with ⟨h1, h2⟩ | ⟨m', σ', E', h1, h2, h3, h4⟩
    · exact ⟨σ, E, h2, by rw [whileL, h1]⟩
    · obtain ⟨σ2, E2, h5, h6⟩ := ih m' σ' E' h2 (by omega)
      exact ⟨σ2, E2, h5, by rw [whileL, h3]; simp only [h4]; exact h6⟩
/-! dicts of texts, all True -/
def tr (l : List Str) : List (Key × D) := l.map fun x => (Sum.inr x, D.bl true)
theorem tr_any (l : List Str) (x : Str) : ((tr l).any fun p => decide (p.1 = Sum.inr x)) = decide (x ∈ l) := by
  unfold tr
  induction l with
  | nil => simp
  | cons y l ih =>
    simp only [List.map_cons, List.any_cons, ih, List.mem_cons, Sum.inr.injEq, Bool.decide_or]
    congr 1
    exact decide_eq_decide.mpr eq_comm
theorem put_tr (l : List Str) (x : Str) : put (tr l) (.inr x) (.bl true) = tr (more l x) := by
  unfold put more
  rw [tr_any]
  by_cases h : x ∈ l
  · rw [if_pos (decide_eq_true h), if_pos h]
    unfold tr
    rw [List.map_map]
    apply List.map_congr_left
    intro y hy
    simp only [Function.comp]
    split <;> rfl
  · rw [if_neg (by simpa using h), if_neg h]
    unfold tr
    rw [List.map_append]; rfl
theorem putAll_tr : ∀ (ms l : List Str), putAll (tr l) (tr ms) = tr (ms.foldl more l)
  | [], l => rfl
  | x :: ms, l => by
    show putAll (put (tr l) (.inr x) (.bl true)) (tr ms) = _
    rw [put_tr, putAll_tr ms]; rfl
theorem look_tr (l : List Str) (x : Str) : (look (tr l) (.inr x)).isSome = decide (x ∈ l) := by
  unfold tr
  induction l with
  | nil => simp [look]
  | cons y l ih =>
    simp only [List.map_cons, look, Sum.inr.injEq]
    by_cases h : y = x
    · rw [if_pos h]; simp [h]
    · rw [if_neg h, ih]
      have : x ≠ y := fun e => h e.symm
      simp [this]
theorem mem_more {L : List Str} {x y : Str} : y ∈ more L x ↔ y ∈ L ∨ y = x := by
  unfold more
  split
  · rename_i h
    exact ⟨.inl, fun q => q.elim id fun e => e ▸ h⟩
  · rw [List.mem_append, List.mem_singleton]
theorem fold_mem : ∀ (xs L : List Str) (y : Str), y ∈ xs.foldl more L ↔ y ∈ L ∨ y ∈ xs
  | [], L, y => by simp
  | x :: xs, L, y => by rw [List.foldl_cons, fold_mem xs, mem_more, List.mem_cons]; exact or_assoc
theorem mem_once {xs : List Str} {y : Str} : y ∈ once xs ↔ y ∈ xs := by unfold once; rw [fold_mem]; simp
theorem nd_more {L : List Str} {x : Str} (h : L.Nodup) : (more L x).Nodup := by
  unfold more
  split
  · exact h
  · rename_i n
    exact List.nodup_append.mpr ⟨h, by simp, fun y hy z hz => by rw [List.mem_singleton.mp hz]; intro q; rw [q] at hy; exact n hy⟩
theorem fold_nd : ∀ (xs L : List Str), L.Nodup → (xs.foldl more L).Nodup
  | [], _, h => h
  | _ :: xs, _, h => fold_nd xs _ (nd_more h)
theorem len_more (L : List Str) (x : Str) : (more L x).length ≤ L.length + 1 := by
  unfold more
  split
  · exact Nat.le_succ _
  · rw [List.length_append]; exact Nat.le_refl _
theorem fold_len : ∀ (xs L : List Str), (xs.foldl more L).length ≤ L.length + xs.length
  | [], L => Nat.le_refl _
  | x :: xs, L => by have a := fold_len xs (more L x); have b := len_more L x; simp only [List.foldl_cons, List.length_cons]; omega
theorem once_len (xs : List Str) : (once xs).length ≤ xs.length := by have := fold_len xs []; unfold once; simpa using this
theorem once_nd (xs : List Str) : (once xs).Nodup := fold_nd xs [] List.nodup_nil
theorem nd_len : ∀ (l m : List Str), l.Nodup → (∀ x ∈ l, x ∈ m) → l.length ≤ m.length
  | [], _, _, _ => Nat.zero_le _
  | x :: l, m, h, hs => by
    obtain ⟨h1, h2⟩ := List.nodup_cons.mp h
    have hx := hs x (List.mem_cons_self ..)
    have := nd_len l (m.erase x) h2 (fun y hy => (List.mem_erase_of_ne (show y ≠ x from fun e => h1 (by rw [← e]; exact hy))).mpr (hs y (List.mem_cons_of_mem _ hy)))
    rw [List.length_erase_of_mem hx] at this
    have := List.length_pos_of_mem hx
    simp only [List.length_cons]; omega
end Ev
end EvFor
section QA11
namespace Ev
open PySem
/-! where choices lead, what is come to -/
def Nx.ns : Nx → List Str
  | .back => []
  | .into a b => [a, b]
  | .to a => [a]
def Nx.hd : Nx → D
  | .back => .str "back"
  | .into _ _ => .str "into"
  | .to _ => .str "to"
theorem Nx.d_eq (n : Nx) : n.d = .tup (n.hd :: n.ns.map .str) := by cases n <;> rfl
def Sc.nx (c : Sc) : List Str := c.choices.flatMap fun h => h.next.ns
def Sc.outs (c : Sc) : List Str := c.nx ++ c.woven
theorem Nx.ns_len (n : Nx) : n.ns.length ≤ 2 := by cases n <;> simp [Nx.ns]
theorem nx_len : ∀ cs : List Ch, (cs.flatMap fun h : Ch => h.next.ns).length ≤ 2 * cs.length
  | [] => by simp
  | c :: cs => by
    have := nx_len cs
    have := c.next.ns_len
    simp only [List.flatMap_cons, List.length_append, List.length_cons]; omega
/-- scenes that name one another only -/
structure Gr (ss : List Sc) (bg : Str) : Prop where
  nd : (ss.map (·.name)).Nodup
  cl : ∀ s ∈ ss, ∀ y ∈ s.outs, y ∈ ss.map (·.name)
  few : ss.length ≤ 8
  lo : ∀ s ∈ ss, s.choices.length ≤ 3 ∧ s.woven.length ≤ 8
  ok : ∀ s ∈ ss, gd s.name = true
  bg : bg ∈ ss.map (·.name)
inductive Rch (ss : List Sc) (bg : Str) : Str → Prop
  | base : Rch ss bg bg
  | step {s : Sc} {y : Str} : s ∈ ss → Rch ss bg s.name → y ∈ s.outs → Rch ss bg y
theorem Gr.out_len {ss : List Sc} {bg : Str} (g : Gr ss bg) {s : Sc} (hs : s ∈ ss) : s.outs.length ≤ 14 ∧ s.nx.length ≤ 6 := by
  have := g.lo s hs
  have := nx_len s.choices
  simp only [Sc.outs, Sc.nx, List.length_append] at *; omega
theorem Gr.gd {ss : List Sc} {bg : Str} (g : Gr ss bg) {x : Str} (h : x ∈ ss.map (·.name)) : gd x = true := by
  obtain ⟨s, hs, rfl⟩ := List.mem_map.mp h
  exact g.ok s hs
theorem Gr.sts {ss : List Sc} {bg : Str} (g : Gr ss bg) {xs : List Str} (h : ∀ x ∈ xs, x ∈ ss.map (·.name)) : stsOk xs = true := by
  unfold stsOk
  rw [List.all_eq_true]
  intro x hx
  have := g.gd (h x hx)
  simp only [Ev.gd, Bool.and_eq_true] at this
  exact this.1.1
theorem nd_same {ss : List Sc} (h : (ss.map (·.name)).Nodup) : ∀ {s t : Sc}, s ∈ ss → t ∈ ss → s.name = t.name → s = t := by
  induction ss with
  | nil => intro s t hs; cases hs
  | cons a ss ih =>
    intro s t hs ht e
    rw [List.map_cons, List.nodup_cons] at h
    rcases List.mem_cons.mp hs with h1 | h1
    · rcases List.mem_cons.mp ht with h2 | h2
      · rw [h1, h2]
      · exact absurd (by rw [← h1, e]; exact List.mem_map_of_mem (f := (·.name)) h2) h.1
    · rcases List.mem_cons.mp ht with h2 | h2
      · exact absurd (by rw [← h2, ← e]; exact List.mem_map_of_mem (f := (·.name)) h1) h.1
      · exact ih h.2 h1 h2 e
/-- a scene's name picks it alone -/
theorem pick_one {ss : List Sc} (h : (ss.map (·.name)).Nodup) {s : Sc} (hs : s ∈ ss) : ss.filter (fun t => decide (t.name = s.name)) = [s] := by
  induction ss with
  | nil => cases hs
  | cons a ss ih =>
    rw [List.map_cons, List.nodup_cons] at h
    rcases List.mem_cons.mp hs with rfl | hs
    · rw [List.filter_cons_of_pos (by simp)]
      congr 1
      rw [List.filter_eq_nil_iff]
      intro t ht e
      have e := of_decide_eq_true e
      exact h.1 (by rw [← e]; exact List.mem_map_of_mem (f := (·.name)) ht)
    · have hn : a.name ≠ s.name := fun e => h.1 (by rw [e]; exact List.mem_map_of_mem (f := (·.name)) hs)
      rw [List.filter_cons_of_neg (by simpa using hn), ih h.2 hs]
/-- the dict of the scenes by name -/
def byN (ss : List Sc) : List (Key × D) := ss.map fun s => (Sum.inr s.name, s.d)
theorem put_new {kvs : List (Key × D)} {k : Key} {d : D} (h : k ∉ kvs.map (·.1)) : put kvs k d = kvs ++ [(k, d)] := by
  unfold put
  rw [if_neg]
  rw [List.any_eq_true]
  rintro ⟨p, hp, e⟩
  have e := of_decide_eq_true e
  exact h (by rw [← e]; exact List.mem_map_of_mem (f := (·.1)) hp)
theorem putAll_nd : ∀ (ms kvs : List (Key × D)), ((kvs ++ ms).map (·.1)).Nodup → putAll kvs ms = kvs ++ ms
  | [], kvs, _ => by rw [List.append_nil]; rfl
  | p :: ms, kvs, h => by
    show putAll (put kvs p.1 p.2) ms = _
    have hp : p.1 ∉ kvs.map (·.1) := by
      rw [List.map_append, List.nodup_append] at h
      exact fun hm => h.2.2 _ hm _ (List.mem_cons_self ..) rfl
    rw [put_new hp, putAll_nd ms (kvs ++ [(p.1, p.2)]) (by rw [List.append_assoc]; exact h), List.append_assoc]
    rfl
theorem inr_nd {xs : List Str} (h : xs.Nodup) : (xs.map (Sum.inr : Str → Key)).Nodup := by
  induction xs with
  | nil => exact List.nodup_nil
  | cons x xs ih =>
    rw [List.nodup_cons] at h
    rw [List.map_cons, List.nodup_cons]
    refine ⟨fun hm => ?_, ih h.2⟩
    obtain ⟨y, hy, e⟩ := List.mem_map.mp hm
    cases e
    exact h.1 hy
theorem byN_made {ss : List Sc} (h : (ss.map (·.name)).Nodup) : putAll [] (ss.map fun s => ((Sum.inr s.name : Key), s.d)) = byN ss := by
  rw [putAll_nd _ [] (by
    rw [List.nil_append, List.map_map]
    have := inr_nd h
    rw [List.map_map] at this
    exact this)]
  rfl
theorem byN_look {ss : List Sc} (h : (ss.map (·.name)).Nodup) {s : Sc} (hs : s ∈ ss) : look (((byN ss).map (·.1)).zip ((byN ss).map (·.2))) (.inr s.name) = some s.d := by
  unfold byN
  rw [List.map_map, List.map_map]
  induction ss with
  | nil => cases hs
  | cons a ss ih =>
    rw [List.map_cons, List.nodup_cons] at h
    simp only [List.map_cons, Function.comp, List.zip_cons_cons, look, Sum.inr.injEq]
    rcases List.mem_cons.mp hs with rfl | hs
    · rw [if_pos rfl]
    · rw [if_neg (fun e => h.1 (by rw [e]; exact List.mem_map_of_mem (f := (·.name)) hs))]
      exact ih h.2 hs
end Ev
open PySem Ev
local macro_rules | `(tactic| walk_at "ev") => `(tactic| simp only [bnd_some, fin_rt, fin_nx, getv_zero, getv_succ, kVal_e, kTup_e, kLst_e, kDct_e, kRv_e, kBl_e, kBo_e, kBin2_e, kBin_e, kNeg_e, kNot_e, kNotB_e, kBop_e, kCmp2_e, kCmp_e, kTst2_e, kTst_e, kIfx_t, kIfx_f, kCall_e, kCallB_e, kMeth2_e, kMeth_e, kIdx2_e, kIdx_e, kSlc3_e, kSlc2_e, kSlc_e, kRev_e, kNew_e, kReg_v, kReg_n, kLc_e, kLc2_e, kAnd_t, kAnd_f, kOr_t, kOr_f, kVarB_e, asB_bl, asBE_bl, kCallT_e, kTcall_e, kCons2_e, kCons_v, kCons_n, kRs2_e, kRs_e, kPr2_e, kPr_v, kPr_n, kL_e, getL_e, kK_e, asL_ref, s_var, s_int, s_str, s_bl, s_non, s_tup, s_lst, s_dct, s_bin, s_neg, s_not, s_bop, s_cmp, s_ifx, s_call, s_callB, s_meth, s_idx, s_slc, s_rev, s_lc, s_lc2, t_not, t_bop, t_bl, t_var, t_cmp, t_call, t_callB, b_one, b_and, b_or, es_nil, es_cons, er_nil, er_cons, eo_none, asI_int, eo_some, ec_none, ec_some, ep_nil, ep_cons, asIt_dct, asIt_tup, asIt_new, kItR_e, asIt_ref, asIt_str, ei_seq, asRg_one, asRg_nat, ei_range, kEnR_e, asEn_ref, asEn_new, ei_enum, kPut_e, kAsg_v, kAsg_n, x_asg, kPar_e, x_par, kHeap_e, kSto3_e, kSto2_e, kSto_v, kSto_n, x_sto, kExpr_e, x_expr, kRet_e, x_ret, kIf_t, kIf_f, x_if, kFor_e, x_for, x_whl, x_pass, x_brk, x_cont, kSeq_nx, kSeq_rt, kSeq_bk, kSeq_ct, xs_nil, xs_cons, a_nm, a_tp, a_star, as_nil, kTs_e, as_cons, o_addi, o_adds, o_addt, o_addnn, kAddN_e, o_addrn, kAddX_e, o_addnr, kAddR_e, o_addrr, o_subi, o_muli, o_mult, o_div, o_mod, o_pow, c_lt, c_lts, c_le, c_gt, c_ge, c_is, c_isn, kNeq_e, c_eq, c_ne, c_in, c_nin, q_str, q_int, n_tup, i_tup, i_new, i_scr, kAt_e, i_ref, kLook_e, i_dct, i_dnew, l_tup, l_new, l_scr, kCut_e, l_ref, v_tup, v_new, kRvs_e, v_ref, f_len, f_tup, f_lst, f_rep, f_len_t, f_len_n, f_tup_t, f_tup_n, f_lst_t, f_lst_n, kLen_e, f_len_r, kTupB_e, f_tup_r, kLstB_e, f_lst_r, m_app, m_ext, m_pop, m_spl, kApp_e, m_app_e, kExt_e, m_ext_n, kPop_e, m_pop_e, r_app, r_ext, r_pop, kStL_e, st_lst, r_spl, kLv_t, leave_new, leave_val, kFrz_v, kFrz_l, kFrz_d, kIsi_non, kIsi_bl, kIsi_int, kIsi_str, kIsi_tup, kIsi_lst, kIsiT_non, kIsiT_bl, kIsiT_int, kIsiT_str, kIsiT_tup, kIsiT_lst, kDgA_str, kDg3_e, kDg2_e, s_frz, s_isi, t_isi, a_starF, o_addll, o_addln, o_addnl, o_addrl, o_multn, n_lst, n_new, i_lst, i_dctv, l_lst, v_lst, f_len_l, f_tup_l, f_lst_l, asIt_lst, asEn_lst, m_ext_l, f_str, f_int, f_all, f_any, f_srt, f_str_i, f_str_s, f_str_n, f_int_i, f_int_b, m_join, r_join, s_sset, s_lset, kPx2_e, kPx1_v, kPx1_n, kPx_s, kPx_i, ex_nil, ex_cons, s_dcx, kNewD_e, kDcm_e, s_dcm, f_dic, m_upd, r_upd, kUpd_e, m_upd_n, kStK_e, st_dct, kHas_e, n_dref, n_dctv, q_at, Ev.setAll, wipeD, D.low, D.lows, Rv.low, O.low, D.flat, D.eqf, D.keyOf, Ev.look, Ev.put, ofString_inj, sizeLine_eq, atI0, atI1, atI2, atI3, atI4, atI5, lows_app, isiB, lookR,
  List.map_cons, List.map_nil, List.length_cons, List.length_nil, List.getElem?_cons_zero, List.getElem?_cons_succ, List.replicate, List.cons_append, List.nil_append, List.append_nil, List.set_cons_succ, List.set_cons_zero, List.drop_succ_cons, List.drop_zero, List.take_left, List.take_length, List.all_cons, List.all_nil, List.any_cons, List.any_nil, List.getElem?_nil, List.foldl_cons, List.foldl_nil, List.zip_cons_cons, List.zip_nil_right, List.zip_nil_left, List.flatten_cons, List.flatten_nil,
  Nat.reduceAdd, Nat.reduceSub, Nat.zero_add, Nat.add_zero, Nat.reduceLeDiff, Nat.reduceLT, Int.reduceLE, Int.reduceLT, Int.reduceToNat, Int.reduceNeg, decide_true, decide_false, Bool.not_true, Bool.not_false, Bool.and_true, Bool.true_and, Bool.and_false, Bool.false_and, Bool.or_true, Bool.true_or, Bool.or_false, Bool.false_or, if_true, if_false, reduceIte, Bool.false_eq_true, String.reduceEq, and_true, true_and, and_self, reduceCtorEq, ne_eq, not_true_eq_false, not_false_eq_true, List.getElem?_append_right, Nat.sub_self, Nat.le_refl, List.length_append, grd_pos, Sum.inr.injEq, eq_self, Ev.big, Int.reduceEq, Int.reduceNe, Int.reducePow, Int.reduceMul, Int.reduceAdd, Int.reduceSub, List.length_map, List.isEmpty_nil, List.isEmpty_cons, List.set_set, take_set, List.getElem?_set_self, List.getElem?_set_ne, List.length_set, List.getElem?_append_left, Option.isSome_some, mayPut, ixN_lit])
local macro_rules | `(tactic| walk_at "evh") => `(tactic| simp only [*, bnd_some, fin_rt, fin_nx, getv_zero, getv_succ, kVal_e, kTup_e, kLst_e, kDct_e, kRv_e, kBl_e, kBo_e, kBin2_e, kBin_e, kNeg_e, kNot_e, kNotB_e, kBop_e, kCmp2_e, kCmp_e, kTst2_e, kTst_e, kIfx_t, kIfx_f, kCall_e, kCallB_e, kMeth2_e, kMeth_e, kIdx2_e, kIdx_e, kSlc3_e, kSlc2_e, kSlc_e, kRev_e, kNew_e, kReg_v, kReg_n, kLc_e, kLc2_e, kAnd_t, kAnd_f, kOr_t, kOr_f, kVarB_e, asB_bl, asBE_bl, kCallT_e, kTcall_e, kCons2_e, kCons_v, kCons_n, kRs2_e, kRs_e, kPr2_e, kPr_v, kPr_n, kL_e, getL_e, kK_e, asL_ref, s_var, s_int, s_str, s_bl, s_non, s_tup, s_lst, s_dct, s_bin, s_neg, s_not, s_bop, s_cmp, s_ifx, s_call, s_callB, s_meth, s_idx, s_slc, s_rev, s_lc, s_lc2, t_not, t_bop, t_bl, t_var, t_cmp, t_call, t_callB, b_one, b_and, b_or, es_nil, es_cons, er_nil, er_cons, eo_none, asI_int, eo_some, ec_none, ec_some, ep_nil, ep_cons, asIt_dct, asIt_tup, asIt_new, kItR_e, asIt_ref, asIt_str, ei_seq, asRg_one, asRg_nat, ei_range, kEnR_e, asEn_ref, asEn_new, ei_enum, kPut_e, kAsg_v, kAsg_n, x_asg, kPar_e, x_par, kHeap_e, kSto3_e, kSto2_e, kSto_v, kSto_n, x_sto, kExpr_e, x_expr, kRet_e, x_ret, kIf_t, kIf_f, x_if, kFor_e, x_for, x_whl, x_pass, x_brk, x_cont, kSeq_nx, kSeq_rt, kSeq_bk, kSeq_ct, xs_nil, xs_cons, a_nm, a_tp, a_star, as_nil, kTs_e, as_cons, o_addi, o_adds, o_addt, o_addnn, kAddN_e, o_addrn, kAddX_e, o_addnr, kAddR_e, o_addrr, o_subi, o_muli, o_mult, o_div, o_mod, o_pow, c_lt, c_lts, c_le, c_gt, c_ge, c_is, c_isn, kNeq_e, c_eq, c_ne, c_in, c_nin, q_str, q_int, n_tup, i_tup, i_new, i_scr, kAt_e, i_ref, kLook_e, i_dct, i_dnew, l_tup, l_new, l_scr, kCut_e, l_ref, v_tup, v_new, kRvs_e, v_ref, f_len, f_tup, f_lst, f_rep, f_len_t, f_len_n, f_tup_t, f_tup_n, f_lst_t, f_lst_n, kLen_e, f_len_r, kTupB_e, f_tup_r, kLstB_e, f_lst_r, m_app, m_ext, m_pop, m_spl, kApp_e, m_app_e, kExt_e, m_ext_n, kPop_e, m_pop_e, r_app, r_ext, r_pop, kStL_e, st_lst, r_spl, kLv_t, leave_new, leave_val, kFrz_v, kFrz_l, kFrz_d, kIsi_non, kIsi_bl, kIsi_int, kIsi_str, kIsi_tup, kIsi_lst, kIsiT_non, kIsiT_bl, kIsiT_int, kIsiT_str, kIsiT_tup, kIsiT_lst, kDgA_str, kDg3_e, kDg2_e, s_frz, s_isi, t_isi, a_starF, o_addll, o_addln, o_addnl, o_addrl, o_multn, n_lst, n_new, i_lst, i_dctv, l_lst, v_lst, f_len_l, f_tup_l, f_lst_l, asIt_lst, asEn_lst, m_ext_l, f_str, f_int, f_all, f_any, f_srt, f_str_i, f_str_s, f_str_n, f_int_i, f_int_b, m_join, r_join, s_sset, s_lset, kPx2_e, kPx1_v, kPx1_n, kPx_s, kPx_i, ex_nil, ex_cons, s_dcx, kNewD_e, kDcm_e, s_dcm, f_dic, m_upd, r_upd, kUpd_e, m_upd_n, kStK_e, st_dct, kHas_e, n_dref, n_dctv, q_at, Ev.setAll, wipeD, D.low, D.lows, Rv.low, O.low, D.flat, D.eqf, D.keyOf, Ev.look, Ev.put, ofString_inj, sizeLine_eq, atI0, atI1, atI2, atI3, atI4, atI5, lows_app, isiB, lookR,
  List.map_cons, List.map_nil, List.length_cons, List.length_nil, List.getElem?_cons_zero, List.getElem?_cons_succ, List.replicate, List.cons_append, List.nil_append, List.append_nil, List.set_cons_succ, List.set_cons_zero, List.drop_succ_cons, List.drop_zero, List.take_left, List.take_length, List.all_cons, List.all_nil, List.any_cons, List.any_nil, List.getElem?_nil, List.foldl_cons, List.foldl_nil, List.zip_cons_cons, List.zip_nil_right, List.zip_nil_left, List.flatten_cons, List.flatten_nil,
  Nat.reduceAdd, Nat.reduceSub, Nat.zero_add, Nat.add_zero, Nat.reduceLeDiff, Nat.reduceLT, Int.reduceLE, Int.reduceLT, Int.reduceToNat, Int.reduceNeg, decide_true, decide_false, Bool.not_true, Bool.not_false, Bool.and_true, Bool.true_and, Bool.and_false, Bool.false_and, Bool.or_true, Bool.true_or, Bool.or_false, Bool.false_or, if_true, if_false, reduceIte, Bool.false_eq_true, String.reduceEq, and_true, true_and, and_self, reduceCtorEq, ne_eq, not_true_eq_false, not_false_eq_true, List.getElem?_append_right, Nat.sub_self, Nat.le_refl, List.length_append, grd_pos, Sum.inr.injEq, eq_self, Ev.big, Int.reduceEq, Int.reduceNe, Int.reducePow, Int.reduceMul, Int.reduceAdd, Int.reduceSub, List.length_map, List.isEmpty_nil, List.isEmpty_cons, List.set_set, take_set, List.getElem?_set_self, List.getElem?_set_ne, List.length_set, List.getElem?_append_left, Option.isSome_some, mayPut, ixN_lit])
namespace K11
open PySem Ev
set_option maxHeartbeats 4000000 in
theorem named_on (wf k : Nat) (E : Eh) (s : Sc) (hk : 0 < k) (hl : s.choices.length ≤ 3 ∧ s.woven.length ≤ 8) : callF prog wf k 0 [s.d] E = some (.new (.lst (s.outs.map .str)), E) := by
  obtain ⟨k, rfl⟩ : ∃ k', k = k' + 1 := ⟨k - 1, by omega⟩
  rw [call_step pg0 _ _ _ _ rfl]
  have hn := nx_len s.choices
  have h1 := fun σ E => lc2_each (callF prog wf k) E.length 6 7 (.seq (.slc (.idx (.var 6) (.int 5)) (.some (.int 1)) .none)) Ch.d (fun h : Ch => h.next.ns.map .str) s.choices (by rw [flatMap_strs, List.length_map]; omega) (fun a ha σ E hv => by
    have ct := cut_tail a.next.hd (a.next.ns.map .str)
    unfold itrF
    simp only [Ch.d, a.next.d_eq] at hv
    walk_at "evh") σ E
  have fm : (s.choices.flatMap fun h : Ch => h.next.ns.map D.str) = s.nx.map .str := flatMap_strs _ _
  have fo : s.outs.map D.str = s.nx.map .str ++ s.woven.map .str := by rw [Sc.outs, List.map_append]
  have z1 : s.nx.length + s.woven.length ≤ 16777216 := by unfold Sc.nx; omega
  have hlow := lows_strs E.length s.outs
  rw [fo] at hlow ⊢
  simp only [b_named_on, b_named_on_1, Sc.d, fm] at h1 ⊢
  clear hn fm fo hl
  walk_at "evh"
end K11
end QA11
section QB11
namespace Ev
open PySem
theorem Rch.mem {ss : List Sc} {bg x : Str} (g : Gr ss bg) (h : Rch ss bg x) : x ∈ ss.map (·.name) := by
  cases h with
  | base => exact g.bg
  | step hs _ hy => exact g.cl _ hs _ hy
/-- found so far, still to be looked at -/
structure Srch (ss : List Sc) (bg : Str) (fd wk : List Str) : Prop where
  nd : fd.Nodup
  rf : ∀ x ∈ fd, Rch ss bg x
  rw : ∀ x ∈ wk, Rch ss bg x
  st : bg ∈ fd ∨ bg ∈ wk
  cl : ∀ s ∈ ss, s.name ∈ fd → ∀ y ∈ s.outs, y ∈ fd ∨ y ∈ wk
theorem Srch.len {ss : List Sc} {bg : Str} {fd wk : List Str} (g : Gr ss bg) (h : Srch ss bg fd wk) : fd.length ≤ 8 := by
  have := nd_len fd (ss.map (·.name)) h.nd (fun x hx => (h.rf x hx).mem g)
  rw [List.length_map] at this
  have := g.few
  omega
theorem Srch.done {ss : List Sc} {bg : Str} {fd : List Str} (h : Srch ss bg fd []) (x : Str) : x ∈ fd ↔ Rch ss bg x := by
  refine ⟨h.rf x, fun r => ?_⟩
  induction r with
  | base => exact h.st.elim id (fun z => by cases z)
  | step hs _ hy ih => exact (h.cl _ hs ih _ hy).elim id (fun z => by cases z)
theorem Srch.skip {ss : List Sc} {bg x : Str} {fd wk : List Str} (h : Srch ss bg fd (wk ++ [x])) (hx : x ∈ fd) : Srch ss bg fd wk where
  nd := h.nd
  rf := h.rf
  rw := fun y hy => h.rw y (List.mem_append_left _ hy)
  st := by
    rcases h.st with z | z
    · exact .inl z
    · rcases List.mem_append.mp z with z | z
      · exact .inr z
      · rw [List.mem_singleton.mp z]; exact .inl hx
  cl := fun s hs hf y hy => by
    rcases h.cl s hs hf y hy with z | z
    · exact .inl z
    · rcases List.mem_append.mp z with z | z
      · exact .inr z
      · rw [List.mem_singleton.mp z]; exact .inl hx
theorem Srch.take {ss : List Sc} {bg : Str} {s : Sc} {fd wk : List Str} (g : Gr ss bg) (h : Srch ss bg fd (wk ++ [s.name])) (hs : s ∈ ss) (hx : s.name ∉ fd) : Srch ss bg (fd ++ [s.name]) (wk ++ s.outs) where
  nd := List.nodup_append.mpr ⟨h.nd, by simp, fun y hy z hz => by rw [List.mem_singleton.mp hz]; intro q; rw [q] at hy; exact hx hy⟩
  rf := fun y hy => by
    rcases List.mem_append.mp hy with z | z
    · exact h.rf y z
    · rw [List.mem_singleton.mp z]; exact h.rw _ (List.mem_append_right _ (List.mem_singleton.mpr rfl))
  rw := fun y hy => by
    rcases List.mem_append.mp hy with z | z
    · exact h.rw y (List.mem_append_left _ z)
    · exact .step hs (h.rw _ (List.mem_append_right _ (List.mem_singleton.mpr rfl))) z
  st := by
    rcases h.st with z | z
    · exact .inl (List.mem_append_left _ z)
    · rcases List.mem_append.mp z with z | z
      · exact .inr (List.mem_append_left _ z)
      · exact .inl (List.mem_append_right _ z)
  cl := fun t ht hf y hy => by
    rcases List.mem_append.mp hf with z | z
    · rcases h.cl t ht z y hy with q | q
      · exact .inl (List.mem_append_left _ q)
      · rcases List.mem_append.mp q with q | q
        · exact .inr (List.mem_append_left _ q)
        · exact .inl (List.mem_append_right _ q)
    · have e := nd_same g.nd ht hs (List.mem_singleton.mp z)
      subst e
      exact .inr (List.mem_append_right _ hy)
end Ev
open PySem Ev
local macro_rules | `(tactic| walk_at "ev") => `(tactic| simp only [bnd_some, fin_rt, fin_nx, getv_zero, getv_succ, kVal_e, kTup_e, kLst_e, kDct_e, kRv_e, kBl_e, kBo_e, kBin2_e, kBin_e, kNeg_e, kNot_e, kNotB_e, kBop_e, kCmp2_e, kCmp_e, kTst2_e, kTst_e, kIfx_t, kIfx_f, kCall_e, kCallB_e, kMeth2_e, kMeth_e, kIdx2_e, kIdx_e, kSlc3_e, kSlc2_e, kSlc_e, kRev_e, kNew_e, kReg_v, kReg_n, kLc_e, kLc2_e, kAnd_t, kAnd_f, kOr_t, kOr_f, kVarB_e, asB_bl, asBE_bl, kCallT_e, kTcall_e, kCons2_e, kCons_v, kCons_n, kRs2_e, kRs_e, kPr2_e, kPr_v, kPr_n, kL_e, getL_e, kK_e, asL_ref, s_var, s_int, s_str, s_bl, s_non, s_tup, s_lst, s_dct, s_bin, s_neg, s_not, s_bop, s_cmp, s_ifx, s_call, s_callB, s_meth, s_idx, s_slc, s_rev, s_lc, s_lc2, t_not, t_bop, t_bl, t_var, t_cmp, t_call, t_callB, b_one, b_and, b_or, es_nil, es_cons, er_nil, er_cons, eo_none, asI_int, eo_some, ec_none, ec_some, ep_nil, ep_cons, asIt_dct, asIt_tup, asIt_new, kItR_e, asIt_ref, asIt_str, ei_seq, asRg_one, asRg_nat, ei_range, kEnR_e, asEn_ref, asEn_new, ei_enum, kPut_e, kAsg_v, kAsg_n, x_asg, kPar_e, x_par, kHeap_e, kSto3_e, kSto2_e, kSto_v, kSto_n, x_sto, kExpr_e, x_expr, kRet_e, x_ret, kIf_t, kIf_f, x_if, kFor_e, x_for, x_whl, x_pass, x_brk, x_cont, kSeq_nx, kSeq_rt, kSeq_bk, kSeq_ct, xs_nil, xs_cons, a_nm, a_tp, a_star, as_nil, kTs_e, as_cons, o_addi, o_adds, o_addt, o_addnn, kAddN_e, o_addrn, kAddX_e, o_addnr, kAddR_e, o_addrr, o_subi, o_muli, o_mult, o_div, o_mod, o_pow, c_lt, c_lts, c_le, c_gt, c_ge, c_is, c_isn, kNeq_e, c_eq, c_ne, c_in, c_nin, q_str, q_int, n_tup, i_tup, i_new, i_scr, kAt_e, i_ref, kLook_e, i_dct, i_dnew, l_tup, l_new, l_scr, kCut_e, l_ref, v_tup, v_new, kRvs_e, v_ref, f_len, f_tup, f_lst, f_rep, f_len_t, f_len_n, f_tup_t, f_tup_n, f_lst_t, f_lst_n, kLen_e, f_len_r, kTupB_e, f_tup_r, kLstB_e, f_lst_r, m_app, m_ext, m_pop, m_spl, kApp_e, m_app_e, kExt_e, m_ext_n, kPop_e, m_pop_e, r_app, r_ext, r_pop, kStL_e, st_lst, r_spl, kLv_t, leave_new, leave_val, kFrz_v, kFrz_l, kFrz_d, kIsi_non, kIsi_bl, kIsi_int, kIsi_str, kIsi_tup, kIsi_lst, kIsiT_non, kIsiT_bl, kIsiT_int, kIsiT_str, kIsiT_tup, kIsiT_lst, kDgA_str, kDg3_e, kDg2_e, s_frz, s_isi, t_isi, a_starF, o_addll, o_addln, o_addnl, o_addrl, o_multn, n_lst, n_new, i_lst, i_dctv, l_lst, v_lst, f_len_l, f_tup_l, f_lst_l, asIt_lst, asEn_lst, m_ext_l, f_str, f_int, f_all, f_any, f_srt, f_str_i, f_str_s, f_str_n, f_int_i, f_int_b, m_join, r_join, s_sset, s_lset, kPx2_e, kPx1_v, kPx1_n, kPx_s, kPx_i, ex_nil, ex_cons, s_dcx, kNewD_e, kDcm_e, s_dcm, f_dic, m_upd, r_upd, kUpd_e, m_upd_n, kStK_e, st_dct, kHas_e, n_dref, n_dctv, q_at, Ev.setAll, wipeD, D.low, D.lows, Rv.low, O.low, D.flat, D.eqf, D.keyOf, Ev.look, Ev.put, ofString_inj, sizeLine_eq, atI0, atI1, atI2, atI3, atI4, atI5, lows_app, isiB, lookR,
  List.map_cons, List.map_nil, List.length_cons, List.length_nil, List.getElem?_cons_zero, List.getElem?_cons_succ, List.replicate, List.cons_append, List.nil_append, List.append_nil, List.set_cons_succ, List.set_cons_zero, List.drop_succ_cons, List.drop_zero, List.take_left, List.take_length, List.all_cons, List.all_nil, List.any_cons, List.any_nil, List.getElem?_nil, List.foldl_cons, List.foldl_nil, List.zip_cons_cons, List.zip_nil_right, List.zip_nil_left, List.flatten_cons, List.flatten_nil,
  Nat.reduceAdd, Nat.reduceSub, Nat.zero_add, Nat.add_zero, Nat.reduceLeDiff, Nat.reduceLT, Int.reduceLE, Int.reduceLT, Int.reduceToNat, Int.reduceNeg, decide_true, decide_false, Bool.not_true, Bool.not_false, Bool.and_true, Bool.true_and, Bool.and_false, Bool.false_and, Bool.or_true, Bool.true_or, Bool.or_false, Bool.false_or, if_true, if_false, reduceIte, Bool.false_eq_true, String.reduceEq, and_true, true_and, and_self, reduceCtorEq, ne_eq, not_true_eq_false, not_false_eq_true, List.getElem?_append_right, Nat.sub_self, Nat.le_refl, List.length_append, grd_pos, Sum.inr.injEq, eq_self, Ev.big, Int.reduceEq, Int.reduceNe, Int.reducePow, Int.reduceMul, Int.reduceAdd, Int.reduceSub, List.length_map, List.isEmpty_nil, List.isEmpty_cons, List.set_set, take_set, List.getElem?_set_self, List.getElem?_set_ne, List.length_set, List.getElem?_append_left, Option.isSome_some, mayPut, ixN_lit])
local macro_rules | `(tactic| walk_at "evh") => `(tactic| simp only [*, bnd_some, fin_rt, fin_nx, getv_zero, getv_succ, kVal_e, kTup_e, kLst_e, kDct_e, kRv_e, kBl_e, kBo_e, kBin2_e, kBin_e, kNeg_e, kNot_e, kNotB_e, kBop_e, kCmp2_e, kCmp_e, kTst2_e, kTst_e, kIfx_t, kIfx_f, kCall_e, kCallB_e, kMeth2_e, kMeth_e, kIdx2_e, kIdx_e, kSlc3_e, kSlc2_e, kSlc_e, kRev_e, kNew_e, kReg_v, kReg_n, kLc_e, kLc2_e, kAnd_t, kAnd_f, kOr_t, kOr_f, kVarB_e, asB_bl, asBE_bl, kCallT_e, kTcall_e, kCons2_e, kCons_v, kCons_n, kRs2_e, kRs_e, kPr2_e, kPr_v, kPr_n, kL_e, getL_e, kK_e, asL_ref, s_var, s_int, s_str, s_bl, s_non, s_tup, s_lst, s_dct, s_bin, s_neg, s_not, s_bop, s_cmp, s_ifx, s_call, s_callB, s_meth, s_idx, s_slc, s_rev, s_lc, s_lc2, t_not, t_bop, t_bl, t_var, t_cmp, t_call, t_callB, b_one, b_and, b_or, es_nil, es_cons, er_nil, er_cons, eo_none, asI_int, eo_some, ec_none, ec_some, ep_nil, ep_cons, asIt_dct, asIt_tup, asIt_new, kItR_e, asIt_ref, asIt_str, ei_seq, asRg_one, asRg_nat, ei_range, kEnR_e, asEn_ref, asEn_new, ei_enum, kPut_e, kAsg_v, kAsg_n, x_asg, kPar_e, x_par, kHeap_e, kSto3_e, kSto2_e, kSto_v, kSto_n, x_sto, kExpr_e, x_expr, kRet_e, x_ret, kIf_t, kIf_f, x_if, kFor_e, x_for, x_whl, x_pass, x_brk, x_cont, kSeq_nx, kSeq_rt, kSeq_bk, kSeq_ct, xs_nil, xs_cons, a_nm, a_tp, a_star, as_nil, kTs_e, as_cons, o_addi, o_adds, o_addt, o_addnn, kAddN_e, o_addrn, kAddX_e, o_addnr, kAddR_e, o_addrr, o_subi, o_muli, o_mult, o_div, o_mod, o_pow, c_lt, c_lts, c_le, c_gt, c_ge, c_is, c_isn, kNeq_e, c_eq, c_ne, c_in, c_nin, q_str, q_int, n_tup, i_tup, i_new, i_scr, kAt_e, i_ref, kLook_e, i_dct, i_dnew, l_tup, l_new, l_scr, kCut_e, l_ref, v_tup, v_new, kRvs_e, v_ref, f_len, f_tup, f_lst, f_rep, f_len_t, f_len_n, f_tup_t, f_tup_n, f_lst_t, f_lst_n, kLen_e, f_len_r, kTupB_e, f_tup_r, kLstB_e, f_lst_r, m_app, m_ext, m_pop, m_spl, kApp_e, m_app_e, kExt_e, m_ext_n, kPop_e, m_pop_e, r_app, r_ext, r_pop, kStL_e, st_lst, r_spl, kLv_t, leave_new, leave_val, kFrz_v, kFrz_l, kFrz_d, kIsi_non, kIsi_bl, kIsi_int, kIsi_str, kIsi_tup, kIsi_lst, kIsiT_non, kIsiT_bl, kIsiT_int, kIsiT_str, kIsiT_tup, kIsiT_lst, kDgA_str, kDg3_e, kDg2_e, s_frz, s_isi, t_isi, a_starF, o_addll, o_addln, o_addnl, o_addrl, o_multn, n_lst, n_new, i_lst, i_dctv, l_lst, v_lst, f_len_l, f_tup_l, f_lst_l, asIt_lst, asEn_lst, m_ext_l, f_str, f_int, f_all, f_any, f_srt, f_str_i, f_str_s, f_str_n, f_int_i, f_int_b, m_join, r_join, s_sset, s_lset, kPx2_e, kPx1_v, kPx1_n, kPx_s, kPx_i, ex_nil, ex_cons, s_dcx, kNewD_e, kDcm_e, s_dcm, f_dic, m_upd, r_upd, kUpd_e, m_upd_n, kStK_e, st_dct, kHas_e, n_dref, n_dctv, q_at, Ev.setAll, wipeD, D.low, D.lows, Rv.low, O.low, D.flat, D.eqf, D.keyOf, Ev.look, Ev.put, ofString_inj, sizeLine_eq, atI0, atI1, atI2, atI3, atI4, atI5, lows_app, isiB, lookR,
  List.map_cons, List.map_nil, List.length_cons, List.length_nil, List.getElem?_cons_zero, List.getElem?_cons_succ, List.replicate, List.cons_append, List.nil_append, List.append_nil, List.set_cons_succ, List.set_cons_zero, List.drop_succ_cons, List.drop_zero, List.take_left, List.take_length, List.all_cons, List.all_nil, List.any_cons, List.any_nil, List.getElem?_nil, List.foldl_cons, List.foldl_nil, List.zip_cons_cons, List.zip_nil_right, List.zip_nil_left, List.flatten_cons, List.flatten_nil,
  Nat.reduceAdd, Nat.reduceSub, Nat.zero_add, Nat.add_zero, Nat.reduceLeDiff, Nat.reduceLT, Int.reduceLE, Int.reduceLT, Int.reduceToNat, Int.reduceNeg, decide_true, decide_false, Bool.not_true, Bool.not_false, Bool.and_true, Bool.true_and, Bool.and_false, Bool.false_and, Bool.or_true, Bool.true_or, Bool.or_false, Bool.false_or, if_true, if_false, reduceIte, Bool.false_eq_true, String.reduceEq, and_true, true_and, and_self, reduceCtorEq, ne_eq, not_true_eq_false, not_false_eq_true, List.getElem?_append_right, Nat.sub_self, Nat.le_refl, List.length_append, grd_pos, Sum.inr.injEq, eq_self, Ev.big, Int.reduceEq, Int.reduceNe, Int.reducePow, Int.reduceMul, Int.reduceAdd, Int.reduceSub, List.length_map, List.isEmpty_nil, List.isEmpty_cons, List.set_set, take_set, List.getElem?_set_self, List.getElem?_set_ne, List.length_set, List.getElem?_append_left, Option.isSome_some, mayPut, ixN_lit])
namespace K11
open PySem Ev
def leW : Stms := .cons (.asg (.nm 4) (.frz (.meth "pop" (.var 3) .nil))) (.cons (.ife (.cmp .NotIn (.var 4) (.var 2)) (.cons (.sto (.var 2) (.var 4) (.bl true)) (.cons (.expr (.meth "extend" (.var 3) (.cons (.call 0 (.cons (.idx (.var 1) (.var 4)) .nil)) .nil))) .nil)) .nil) .nil)
theorem le1 : b_loose_ends_1 = .cons (.whl (.cmp .NotEq (.var 3) (.lst .nil)) leW) b_loose_ends_2 := rfl
set_option maxHeartbeats 8000000 in
theorem le_turn (wf k : Nat) (hk : 0 < k) (E : Eh) {ss : List Sc} {bg : Str} (g : Gr ss bg) (fd wk : List Str) (x : Str) (h : Srch ss bg fd (wk ++ [x])) (hw : wk.length ≤ 1000) (a0 o4 o5 : Option D) :
    ∃ fd' wk', bodF (callF prog wf k) wf E.length leW [a0, some (.dct ((byN ss).map (·.1)) ((byN ss).map (·.2))), some (.ref E.length), some (.ref (E.length + 1)), o4, o5] (E ++ [.dct (tr fd)] ++ [.lst ((wk ++ [x]).map .str)]) =
      some (.nx [a0, some (.dct ((byN ss).map (·.1)) ((byN ss).map (·.2))), some (.ref E.length), some (.ref (E.length + 1)), some (.str x), o5], E ++ [.dct (tr fd')] ++ [.lst (wk'.map .str)]) ∧ Srch ss bg fd' wk' ∧ (fd' = fd ∧ wk' = wk ∨ fd'.length = fd.length + 1 ∧ wk'.length ≤ wk.length + 14) := by
  have hlen := h.len g
  have hn : x ∈ ss.map (·.name) := (h.rw x (List.mem_append_right _ (List.mem_singleton.mpr rfl))).mem g
  obtain ⟨s, hs, rfl⟩ := List.mem_map.mp hn
  have hl := byN_look g.nd hs
  have e1 := fun E => named_on wf k E s hk (g.lo s hs)
  have ho := (g.out_len hs).1
  have wm : (wk ++ [s.name]).map D.str = wk.map .str ++ [.str s.name] := by rw [List.map_append]; rfl
  rw [wm]
  generalize hW : wk.map D.str = W
  have g1 := ap_get1 E (.dct (tr fd)) (.lst (W ++ [.str s.name]))
  have p1 := ap_set1 E (.dct (tr fd)) (.lst (W ++ [.str s.name]))
  have g0 := ap_get0 E (.dct (tr fd)) (.lst W)
  have p0 := ap_set0 E (.dct (tr fd)) (.lst W)
  have lk := look_tr fd s.name
  by_cases hx : s.name ∈ fd
  · refine ⟨fd, wk, ?_, h.skip hx, .inl ⟨rfl, rfl⟩⟩
    rw [decide_eq_true hx] at lk
    rw [hW]
    clear h hl e1 ho hw hlen hn
    unfold bodF leW
    walk_at "evh"
  · refine ⟨fd ++ [s.name], wk ++ s.outs, ?_, h.take g hs hx, .inr ⟨by simp, by rw [List.length_append]; omega⟩⟩
    rw [decide_eq_false hx] at lk
    have pt := put_tr fd s.name
    rw [more, if_neg hx] at pt
    have g2 := ap_get1 E (.dct (tr (fd ++ [s.name]))) (.lst W)
    have p2 := ap_set1 E (.dct (tr (fd ++ [s.name]))) (.lst W)
    have z1 : (tr fd).length < 16777216 := by unfold tr; rw [List.length_map]; omega
    have z2 : W.length + s.outs.length ≤ 16777216 := by rw [← hW, List.length_map]; omega
    unfold put at pt
    have nl : ¬ (E.length + 1 < E.length) := by omega
    have nl0 : ¬ (E.length < E.length) := by omega
    have wm2 : (wk ++ s.outs).map D.str = W ++ s.outs.map .str := by rw [List.map_append, hW]
    rw [wm2]
    clear h ho hw hlen hn wm wm2 hW
    generalize tr (fd ++ [s.name]) = T2 at *
    generalize tr fd = T1 at *
    generalize (byN ss).map (·.1) = b1 at *
    generalize (byN ss).map (·.2) = b2 at *
    generalize s.d = sd at *
    unfold bodF leW
    walk_at "evh"
end K11
end QB11
section QC11
namespace Ev
open PySem
/-- a story by its first five things, its scenes, where it begins -/
structure Ty where
  p0 : D
  p1 : D
  p2 : D
  p3 : D
  p4 : D
  ss : List Sc
  bg : Str
def Ty.d (t : Ty) : D := .tup [t.p0, t.p1, t.p2, t.p3, t.p4, .tup (t.ss.map Sc.d), .str t.bg]
def Ty.loose (t : Ty) (fd : List Str) : List Str := (t.ss.map (·.name)).filter fun x => !decide (x ∈ fd)
theorem keyD_map {ss : List Sc} : ((byN ss).map (·.1)).map keyD = (ss.map (·.name)).map .str := by
  unfold byN
  rw [List.map_map, List.map_map, List.map_map]; rfl
/-- as the law goes on -/
structure Lgo (ss : List Sc) (bg : Str) (fd lf : List Str) : Prop where
  nd : fd.Nodup
  rf : ∀ x ∈ fd, Rch ss bg x
  sb : ∀ x ∈ lf, x ∈ fd
  st : bg ∈ fd
  cl : ∀ s ∈ ss, s.name ∈ fd → s.name ∈ lf ∨ ∀ y ∈ s.outs, y ∈ fd
def outs2 (s : Sc) : List Str := s.woven ++ s.nx
theorem mem_outs2 {s : Sc} {y : Str} : y ∈ outs2 s ↔ y ∈ s.outs := by
  simp only [outs2, Sc.outs, List.mem_append]; exact or_comm
def fresh (s : Sc) (fd : List Str) : List Str := (sortS (once (outs2 s))).filter fun x => !decide (x ∈ fd)
theorem mem_fresh {s : Sc} {fd : List Str} {y : Str} : y ∈ fresh s fd ↔ y ∈ s.outs ∧ y ∉ fd := by
  simp only [fresh, List.mem_filter, (sortS_perm _).mem_iff, mem_once, mem_outs2, Bool.not_eq_true', decide_eq_false_iff_not]
theorem fresh_nd (s : Sc) (fd : List Str) : (fresh s fd).Nodup := List.Pairwise.filter _ ((sortS_perm _).nodup_iff.mpr (once_nd _))
theorem Lgo.step {ss : List Sc} {bg : Str} {s : Sc} {fd lf : List Str} (g : Gr ss bg) (h : Lgo ss bg fd (lf ++ [s.name])) (hs : s ∈ ss) :
    Lgo ss bg ((once (outs2 s)).foldl more fd) (lf ++ fresh s fd) ∧ fd.length + (fresh s fd).length ≤ ((once (outs2 s)).foldl more fd).length := by
  have hm : ∀ y, y ∈ (once (outs2 s)).foldl more fd ↔ y ∈ fd ∨ y ∈ s.outs := fun y => by rw [fold_mem, mem_once, mem_outs2]
  have hsr : Rch ss bg s.name := h.rf _ (h.sb _ (List.mem_append_right _ (List.mem_singleton.mpr rfl)))
  refine ⟨⟨fold_nd _ _ h.nd, fun x hx => ?_, fun x hx => ?_, (hm _).mpr (.inl h.st), fun t ht hf => ?_⟩, ?_⟩
  · rcases (hm x).mp hx with z | z
    · exact h.rf x z
    · exact .step hs hsr z
  · rcases List.mem_append.mp hx with z | z
    · exact (hm x).mpr (.inl (h.sb x (List.mem_append_left _ z)))
    · exact (hm x).mpr (.inr (mem_fresh.mp z).1)
  · by_cases hd : t.name ∈ fd
    · rcases h.cl t ht hd with z | z
      · rcases List.mem_append.mp z with z | z
        · exact .inl (List.mem_append_left _ z)
        · have e := nd_same g.nd ht hs (List.mem_singleton.mp z)
          subst e
          exact .inr fun y hy => (hm y).mpr (.inr hy)
      · exact .inr fun y hy => (hm y).mpr (.inl (z y hy))
    · rcases (hm _).mp hf with z | z
      · exact absurd z hd
      · exact .inl (List.mem_append_right _ (mem_fresh.mpr ⟨z, hd⟩))
  · have := nd_len (fd ++ fresh s fd) ((once (outs2 s)).foldl more fd) (List.nodup_append.mpr ⟨h.nd, fresh_nd s fd, fun y hy z hz e => (mem_fresh.mp hz).2 (e ▸ hy)⟩) (fun x hx => by
      rcases List.mem_append.mp hx with z | z
      · exact (hm x).mpr (.inl z)
      · exact (hm x).mpr (.inr (mem_fresh.mp z).1))
    rwa [List.length_append] at this
theorem Lgo.len {ss : List Sc} {bg : Str} {fd lf : List Str} (g : Gr ss bg) (h : Lgo ss bg fd lf) : fd.length ≤ 8 := by
  have := nd_len fd (ss.map (·.name)) h.nd (fun x hx => (h.rf x hx).mem g)
  rw [List.length_map] at this
  have := g.few
  omega
theorem Lgo.done {ss : List Sc} {bg : Str} {fd : List Str} (h : Lgo ss bg fd []) (x : Str) : x ∈ fd ↔ Rch ss bg x := by
  refine ⟨h.rf x, fun r => ?_⟩
  induction r with
  | base => exact h.st
  | step hs _ hy ih => exact (h.cl _ hs ih).elim (fun z => by cases z) (fun z => z _ hy)
theorem in_strs (E : Eh) (x : Str) (xs : List Str) : inRv E (.val (.str x)) (.val (.lst (xs.map .str))) = some (decide (x ∈ xs)) := by
  have h1 : ((D.str x).flat && (xs.map D.str).all D.flat) = true := by
    simp only [D.flat, Bool.true_and, List.all_map, List.all_eq_true]
    exact fun _ _ => rfl
  rw [n_lst h1, List.any_map]
  congr 1
  rw [Bool.eq_iff_iff, List.any_eq_true, decide_eq_true_eq]
  constructor
  · rintro ⟨y, hy, e⟩
    have e : decide (y = x) = true := e
    rw [← of_decide_eq_true e]; exact hy
  · intro h
    exact ⟨x, h, show decide (x = x) = true from decide_eq_true rfl⟩
end Ev
open PySem Ev
local macro_rules | `(tactic| walk_at "ev") => `(tactic| simp only [bnd_some, fin_rt, fin_nx, getv_zero, getv_succ, kVal_e, kTup_e, kLst_e, kDct_e, kRv_e, kBl_e, kBo_e, kBin2_e, kBin_e, kNeg_e, kNot_e, kNotB_e, kBop_e, kCmp2_e, kCmp_e, kTst2_e, kTst_e, kIfx_t, kIfx_f, kCall_e, kCallB_e, kMeth2_e, kMeth_e, kIdx2_e, kIdx_e, kSlc3_e, kSlc2_e, kSlc_e, kRev_e, kNew_e, kReg_v, kReg_n, kLc_e, kLc2_e, kAnd_t, kAnd_f, kOr_t, kOr_f, kVarB_e, asB_bl, asBE_bl, kCallT_e, kTcall_e, kCons2_e, kCons_v, kCons_n, kRs2_e, kRs_e, kPr2_e, kPr_v, kPr_n, kL_e, getL_e, kK_e, asL_ref, s_var, s_int, s_str, s_bl, s_non, s_tup, s_lst, s_dct, s_bin, s_neg, s_not, s_bop, s_cmp, s_ifx, s_call, s_callB, s_meth, s_idx, s_slc, s_rev, s_lc, s_lc2, t_not, t_bop, t_bl, t_var, t_cmp, t_call, t_callB, b_one, b_and, b_or, es_nil, es_cons, er_nil, er_cons, eo_none, asI_int, eo_some, ec_none, ec_some, ep_nil, ep_cons, asIt_dct, asIt_tup, asIt_new, kItR_e, asIt_ref, asIt_str, ei_seq, asRg_one, asRg_nat, ei_range, kEnR_e, asEn_ref, asEn_new, ei_enum, kPut_e, kAsg_v, kAsg_n, x_asg, kPar_e, x_par, kHeap_e, kSto3_e, kSto2_e, kSto_v, kSto_n, x_sto, kExpr_e, x_expr, kRet_e, x_ret, kIf_t, kIf_f, x_if, kFor_e, x_for, x_whl, x_pass, x_brk, x_cont, kSeq_nx, kSeq_rt, kSeq_bk, kSeq_ct, xs_nil, xs_cons, a_nm, a_tp, a_star, as_nil, kTs_e, as_cons, o_addi, o_adds, o_addt, o_addnn, kAddN_e, o_addrn, kAddX_e, o_addnr, kAddR_e, o_addrr, o_subi, o_muli, o_mult, o_div, o_mod, o_pow, c_lt, c_lts, c_le, c_gt, c_ge, c_is, c_isn, kNeq_e, c_eq, c_ne, c_in, c_nin, q_str, q_int, n_tup, i_tup, i_new, i_scr, kAt_e, i_ref, kLook_e, i_dct, i_dnew, l_tup, l_new, l_scr, kCut_e, l_ref, v_tup, v_new, kRvs_e, v_ref, f_len, f_tup, f_lst, f_rep, f_len_t, f_len_n, f_tup_t, f_tup_n, f_lst_t, f_lst_n, kLen_e, f_len_r, kTupB_e, f_tup_r, kLstB_e, f_lst_r, m_app, m_ext, m_pop, m_spl, kApp_e, m_app_e, kExt_e, m_ext_n, kPop_e, m_pop_e, r_app, r_ext, r_pop, kStL_e, st_lst, r_spl, kLv_t, leave_new, leave_val, kFrz_v, kFrz_l, kFrz_d, kIsi_non, kIsi_bl, kIsi_int, kIsi_str, kIsi_tup, kIsi_lst, kIsiT_non, kIsiT_bl, kIsiT_int, kIsiT_str, kIsiT_tup, kIsiT_lst, kDgA_str, kDg3_e, kDg2_e, s_frz, s_isi, t_isi, a_starF, o_addll, o_addln, o_addnl, o_addrl, o_multn, n_lst, n_new, i_lst, i_dctv, l_lst, v_lst, f_len_l, f_tup_l, f_lst_l, asIt_lst, asEn_lst, m_ext_l, f_str, f_int, f_all, f_any, f_srt, f_str_i, f_str_s, f_str_n, f_int_i, f_int_b, m_join, r_join, s_sset, s_lset, kPx2_e, kPx1_v, kPx1_n, kPx_s, kPx_i, ex_nil, ex_cons, s_dcx, kNewD_e, kDcm_e, s_dcm, f_dic, m_upd, r_upd, kUpd_e, m_upd_n, kStK_e, st_dct, kHas_e, n_dref, n_dctv, q_at, Ev.setAll, wipeD, D.low, D.lows, Rv.low, O.low, D.flat, D.eqf, D.keyOf, Ev.look, Ev.put, ofString_inj, sizeLine_eq, atI0, atI1, atI2, atI3, atI4, atI5, lows_app, isiB, lookR,
  List.map_cons, List.map_nil, List.length_cons, List.length_nil, List.getElem?_cons_zero, List.getElem?_cons_succ, List.replicate, List.cons_append, List.nil_append, List.append_nil, List.set_cons_succ, List.set_cons_zero, List.drop_succ_cons, List.drop_zero, List.take_left, List.take_length, List.all_cons, List.all_nil, List.any_cons, List.any_nil, List.getElem?_nil, List.foldl_cons, List.foldl_nil, List.zip_cons_cons, List.zip_nil_right, List.zip_nil_left, List.flatten_cons, List.flatten_nil,
  Nat.reduceAdd, Nat.reduceSub, Nat.zero_add, Nat.add_zero, Nat.reduceLeDiff, Nat.reduceLT, Int.reduceLE, Int.reduceLT, Int.reduceToNat, Int.reduceNeg, decide_true, decide_false, Bool.not_true, Bool.not_false, Bool.and_true, Bool.true_and, Bool.and_false, Bool.false_and, Bool.or_true, Bool.true_or, Bool.or_false, Bool.false_or, if_true, if_false, reduceIte, Bool.false_eq_true, String.reduceEq, and_true, true_and, and_self, reduceCtorEq, ne_eq, not_true_eq_false, not_false_eq_true, List.getElem?_append_right, Nat.sub_self, Nat.le_refl, List.length_append, grd_pos, Sum.inr.injEq, eq_self, Ev.big, Int.reduceEq, Int.reduceNe, Int.reducePow, Int.reduceMul, Int.reduceAdd, Int.reduceSub, List.length_map, List.isEmpty_nil, List.isEmpty_cons, List.set_set, take_set, List.getElem?_set_self, List.getElem?_set_ne, List.length_set, List.getElem?_append_left, Option.isSome_some, mayPut, ixN_lit])
local macro_rules | `(tactic| walk_at "evh") => `(tactic| simp only [*, bnd_some, fin_rt, fin_nx, getv_zero, getv_succ, kVal_e, kTup_e, kLst_e, kDct_e, kRv_e, kBl_e, kBo_e, kBin2_e, kBin_e, kNeg_e, kNot_e, kNotB_e, kBop_e, kCmp2_e, kCmp_e, kTst2_e, kTst_e, kIfx_t, kIfx_f, kCall_e, kCallB_e, kMeth2_e, kMeth_e, kIdx2_e, kIdx_e, kSlc3_e, kSlc2_e, kSlc_e, kRev_e, kNew_e, kReg_v, kReg_n, kLc_e, kLc2_e, kAnd_t, kAnd_f, kOr_t, kOr_f, kVarB_e, asB_bl, asBE_bl, kCallT_e, kTcall_e, kCons2_e, kCons_v, kCons_n, kRs2_e, kRs_e, kPr2_e, kPr_v, kPr_n, kL_e, getL_e, kK_e, asL_ref, s_var, s_int, s_str, s_bl, s_non, s_tup, s_lst, s_dct, s_bin, s_neg, s_not, s_bop, s_cmp, s_ifx, s_call, s_callB, s_meth, s_idx, s_slc, s_rev, s_lc, s_lc2, t_not, t_bop, t_bl, t_var, t_cmp, t_call, t_callB, b_one, b_and, b_or, es_nil, es_cons, er_nil, er_cons, eo_none, asI_int, eo_some, ec_none, ec_some, ep_nil, ep_cons, asIt_dct, asIt_tup, asIt_new, kItR_e, asIt_ref, asIt_str, ei_seq, asRg_one, asRg_nat, ei_range, kEnR_e, asEn_ref, asEn_new, ei_enum, kPut_e, kAsg_v, kAsg_n, x_asg, kPar_e, x_par, kHeap_e, kSto3_e, kSto2_e, kSto_v, kSto_n, x_sto, kExpr_e, x_expr, kRet_e, x_ret, kIf_t, kIf_f, x_if, kFor_e, x_for, x_whl, x_pass, x_brk, x_cont, kSeq_nx, kSeq_rt, kSeq_bk, kSeq_ct, xs_nil, xs_cons, a_nm, a_tp, a_star, as_nil, kTs_e, as_cons, o_addi, o_adds, o_addt, o_addnn, kAddN_e, o_addrn, kAddX_e, o_addnr, kAddR_e, o_addrr, o_subi, o_muli, o_mult, o_div, o_mod, o_pow, c_lt, c_lts, c_le, c_gt, c_ge, c_is, c_isn, kNeq_e, c_eq, c_ne, c_in, c_nin, q_str, q_int, n_tup, i_tup, i_new, i_scr, kAt_e, i_ref, kLook_e, i_dct, i_dnew, l_tup, l_new, l_scr, kCut_e, l_ref, v_tup, v_new, kRvs_e, v_ref, f_len, f_tup, f_lst, f_rep, f_len_t, f_len_n, f_tup_t, f_tup_n, f_lst_t, f_lst_n, kLen_e, f_len_r, kTupB_e, f_tup_r, kLstB_e, f_lst_r, m_app, m_ext, m_pop, m_spl, kApp_e, m_app_e, kExt_e, m_ext_n, kPop_e, m_pop_e, r_app, r_ext, r_pop, kStL_e, st_lst, r_spl, kLv_t, leave_new, leave_val, kFrz_v, kFrz_l, kFrz_d, kIsi_non, kIsi_bl, kIsi_int, kIsi_str, kIsi_tup, kIsi_lst, kIsiT_non, kIsiT_bl, kIsiT_int, kIsiT_str, kIsiT_tup, kIsiT_lst, kDgA_str, kDg3_e, kDg2_e, s_frz, s_isi, t_isi, a_starF, o_addll, o_addln, o_addnl, o_addrl, o_multn, n_lst, n_new, i_lst, i_dctv, l_lst, v_lst, f_len_l, f_tup_l, f_lst_l, asIt_lst, asEn_lst, m_ext_l, f_str, f_int, f_all, f_any, f_srt, f_str_i, f_str_s, f_str_n, f_int_i, f_int_b, m_join, r_join, s_sset, s_lset, kPx2_e, kPx1_v, kPx1_n, kPx_s, kPx_i, ex_nil, ex_cons, s_dcx, kNewD_e, kDcm_e, s_dcm, f_dic, m_upd, r_upd, kUpd_e, m_upd_n, kStK_e, st_dct, kHas_e, n_dref, n_dctv, q_at, Ev.setAll, wipeD, D.low, D.lows, Rv.low, O.low, D.flat, D.eqf, D.keyOf, Ev.look, Ev.put, ofString_inj, sizeLine_eq, atI0, atI1, atI2, atI3, atI4, atI5, lows_app, isiB, lookR,
  List.map_cons, List.map_nil, List.length_cons, List.length_nil, List.getElem?_cons_zero, List.getElem?_cons_succ, List.replicate, List.cons_append, List.nil_append, List.append_nil, List.set_cons_succ, List.set_cons_zero, List.drop_succ_cons, List.drop_zero, List.take_left, List.take_length, List.all_cons, List.all_nil, List.any_cons, List.any_nil, List.getElem?_nil, List.foldl_cons, List.foldl_nil, List.zip_cons_cons, List.zip_nil_right, List.zip_nil_left, List.flatten_cons, List.flatten_nil,
  Nat.reduceAdd, Nat.reduceSub, Nat.zero_add, Nat.add_zero, Nat.reduceLeDiff, Nat.reduceLT, Int.reduceLE, Int.reduceLT, Int.reduceToNat, Int.reduceNeg, decide_true, decide_false, Bool.not_true, Bool.not_false, Bool.and_true, Bool.true_and, Bool.and_false, Bool.false_and, Bool.or_true, Bool.true_or, Bool.or_false, Bool.false_or, if_true, if_false, reduceIte, Bool.false_eq_true, String.reduceEq, and_true, true_and, and_self, reduceCtorEq, ne_eq, not_true_eq_false, not_false_eq_true, List.getElem?_append_right, Nat.sub_self, Nat.le_refl, List.length_append, grd_pos, Sum.inr.injEq, eq_self, Ev.big, Int.reduceEq, Int.reduceNe, Int.reducePow, Int.reduceMul, Int.reduceAdd, Int.reduceSub, List.length_map, List.isEmpty_nil, List.isEmpty_cons, List.set_set, take_set, List.getElem?_set_self, List.getElem?_set_ne, List.length_set, List.getElem?_append_left, Option.isSome_some, mayPut, ixN_lit])
namespace K11
open PySem Ev
set_option maxHeartbeats 8000000 in
theorem loose_ends (wf k : Nat) (hk : 1 < k) (hw : 1000 < wf) (E : Eh) (t : Ty) (g : Gr t.ss t.bg) : ∃ fd : List Str, (∀ x, x ∈ fd ↔ Rch t.ss t.bg x) ∧ callF prog wf k 1 [t.d] E = some (.val (.tup ((t.loose fd).map .str)), E) := by
  obtain ⟨k, rfl⟩ : ∃ k', k = k' + 1 := ⟨k - 1, by omega⟩
  rw [call_step pg1 _ _ _ _ rfl]
  have hdc := fun σ (hn : 6 ≤ σ.length) => dcL_map (asgT (.nm 5)) (cndF (callF prog wf k) E.length .none) (kvF (callF prog wf k) E.length (.idx (.var 5) (.int 0)) (.var 5)) σ E Sc.d (fun s => σ.set 5 (some s.d)) (fun s => ((Sum.inr s.name : Key), s.d)) t.ss [] (by have := g.few; simp only [List.length_nil]; omega)
    (fun s _ => by rw [a_nm]) (fun s _ => by rw [cndF, ec_none]) (fun s _ => by
      have hv : getv (σ.set 5 (some s.d)) 5 = some s.d := getv_set _ (by omega)
      unfold kvF
      simp only [Sc.d] at hv ⊢
      generalize σ.set 5 _ = σ5 at hv
      walk_at "evh"
      rfl)
  simp only [byN_made g.nd] at hdc
  obtain ⟨σ', H', ⟨fd, o4, rfl, rfl, hfd⟩, hrun⟩ := while_run (tstF (callF prog wf k) E.length (.cmp .NotEq (.var 3) (.lst .nil))) (bodF (callF prog wf k) wf E.length leW)
    (fun m σ H => ∃ fd wk o4, σ = [some t.d, some (.dct ((byN t.ss).map (·.1)) ((byN t.ss).map (·.2))), some (.ref E.length), some (.ref (E.length + 1)), o4, none] ∧ H = E ++ [.dct (tr fd)] ++ [.lst (wk.map .str)] ∧ Srch t.ss t.bg fd wk ∧ m = wk.length + 15 * (8 - fd.length) ∧ m ≤ 500)
    (fun σ H => ∃ fd o4, σ = [some t.d, some (.dct ((byN t.ss).map (·.1)) ((byN t.ss).map (·.2))), some (.ref E.length), some (.ref (E.length + 1)), o4, none] ∧ H = E ++ [.dct (tr fd)] ++ [.lst []] ∧ ∀ x, x ∈ fd ↔ Rch t.ss t.bg x)
    (by
      rintro m σ H ⟨fd, wk, o4, rfl, rfl, hS, rfl, hm⟩
      have g1 := ap_get1 E (.dct (tr fd)) (.lst (wk.map .str))
      have hq := eqRv_strs g1 (g.sts (fun x hx => (hS.rw x hx).mem g))
      rcases List.eq_nil_or_concat wk with rfl | ⟨wk', x, rfl⟩
      · refine .inl ⟨?_, fd, o4, rfl, rfl, hS.done⟩
        simp only [List.map_nil, List.isEmpty_nil] at hq
        unfold tstF
        walk_at "evh"
      · obtain ⟨fd', wk2, e1, h2, h3⟩ := le_turn wf k (by omega) E g fd wk' x (by simpa using hS) (by simp at hm; omega) (some t.d) o4 none
        refine .inr ⟨wk2.length + 15 * (8 - fd'.length), _, _, ?_, ⟨fd', wk2, some (.str x), rfl, rfl, h2, rfl, ?_⟩, ?_, by simpa using e1⟩
        · have := h2.len g; rcases h3 with ⟨rfl, rfl⟩ | ⟨h4, h5⟩ <;> simp at hm ⊢ <;> omega
        · have := h2.len g; rcases h3 with ⟨rfl, rfl⟩ | ⟨h4, h5⟩ <;> simp at hm <;> omega
        · have he : (wk' ++ [x]).isEmpty = false := by simp
          simp only [List.concat_eq_append] at hq ⊢
          rw [he] at hq
          unfold tstF
          walk_at "evh")
    wf (1 + 15 * 8) [some t.d, some (.dct ((byN t.ss).map (·.1)) ((byN t.ss).map (·.2))), some (.ref E.length), some (.ref (E.length + 1)), none, none] (E ++ [.dct (tr [])] ++ [.lst ([t.bg].map .str)])
    ⟨[], [t.bg], none, rfl, rfl, ⟨List.nodup_nil, fun x hx => (by cases hx), fun x hx => (by rw [List.mem_singleton.mp hx]; exact .base), .inr (List.mem_singleton.mpr rfl), fun s _ hs => (by cases hs)⟩, rfl, by omega⟩ (by omega)
  refine ⟨fd, hfd, ?_⟩
  have hf : (E ++ [O.dct (tr fd)] ++ [O.lst []]).take E.length = E := ap_take ..
  have g0 := ap_get0 E (.dct (tr fd)) (.lst [])
  have hlc := lc_filtN (callF prog wf k) E.length 4 6 (by omega) (.var 4) (.cmp .NotIn (.var 4) (.var 2)) .str .str (fun x => !decide (x ∈ fd)) (t.ss.map (·.name)) (by have := g.few; rw [List.length_map]; omega)
    [some t.d, some (.dct ((byN t.ss).map (·.1)) ((byN t.ss).map (·.2))), some (.ref E.length), some (.ref (E.length + 1)), none, none] (E ++ [.dct (tr fd)] ++ [.lst []]) (by simp)
    (fun x _ => by
      have lk := look_tr fd x
      unfold cndF
      simp only [List.set_cons_succ, List.set_cons_zero]
      walk_at "evh")
    (fun x _ _ => by unfold eltF; simp only [List.set_cons_succ, List.set_cons_zero]; walk_at "evh")
  have hlow := lows_strs E.length (t.loose fd)
  have kd := keyD_map (ss := t.ss)
  simp only [Ty.loose, Ty.d, List.map_cons, List.map_nil, tr, List.map_nil] at hrun hlc hlow hdc ⊢
  clear hfd g
  have a6 : L2.atI [t.p0, t.p1, t.p2, t.p3, t.p4, D.tup (t.ss.map Sc.d), D.str t.bg] 6 = some (D.str t.bg) := rfl
  simp only [b_loose_ends, le1, b_loose_ends_2]
  walk_at "evh"
  rw [ap_take]
end K11
end QC11
section QD11
open PySem Ev
local macro_rules | `(tactic| walk_at "ev") => `(tactic| simp only [bnd_some, fin_rt, fin_nx, getv_zero, getv_succ, kVal_e, kTup_e, kLst_e, kDct_e, kRv_e, kBl_e, kBo_e, kBin2_e, kBin_e, kNeg_e, kNot_e, kNotB_e, kBop_e, kCmp2_e, kCmp_e, kTst2_e, kTst_e, kIfx_t, kIfx_f, kCall_e, kCallB_e, kMeth2_e, kMeth_e, kIdx2_e, kIdx_e, kSlc3_e, kSlc2_e, kSlc_e, kRev_e, kNew_e, kReg_v, kReg_n, kLc_e, kLc2_e, kAnd_t, kAnd_f, kOr_t, kOr_f, kVarB_e, asB_bl, asBE_bl, kCallT_e, kTcall_e, kCons2_e, kCons_v, kCons_n, kRs2_e, kRs_e, kPr2_e, kPr_v, kPr_n, kL_e, getL_e, kK_e, asL_ref, s_var, s_int, s_str, s_bl, s_non, s_tup, s_lst, s_dct, s_bin, s_neg, s_not, s_bop, s_cmp, s_ifx, s_call, s_callB, s_meth, s_idx, s_slc, s_rev, s_lc, s_lc2, t_not, t_bop, t_bl, t_var, t_cmp, t_call, t_callB, b_one, b_and, b_or, es_nil, es_cons, er_nil, er_cons, eo_none, asI_int, eo_some, ec_none, ec_some, ep_nil, ep_cons, asIt_dct, asIt_tup, asIt_new, kItR_e, asIt_ref, asIt_str, ei_seq, asRg_one, asRg_nat, ei_range, kEnR_e, asEn_ref, asEn_new, ei_enum, kPut_e, kAsg_v, kAsg_n, x_asg, kPar_e, x_par, kHeap_e, kSto3_e, kSto2_e, kSto_v, kSto_n, x_sto, kExpr_e, x_expr, kRet_e, x_ret, kIf_t, kIf_f, x_if, kFor_e, x_for, x_whl, x_pass, x_brk, x_cont, kSeq_nx, kSeq_rt, kSeq_bk, kSeq_ct, xs_nil, xs_cons, a_nm, a_tp, a_star, as_nil, kTs_e, as_cons, o_addi, o_adds, o_addt, o_addnn, kAddN_e, o_addrn, kAddX_e, o_addnr, kAddR_e, o_addrr, o_subi, o_muli, o_mult, o_div, o_mod, o_pow, c_lt, c_lts, c_le, c_gt, c_ge, c_is, c_isn, kNeq_e, c_eq, c_ne, c_in, c_nin, q_str, q_int, n_tup, i_tup, i_new, i_scr, kAt_e, i_ref, kLook_e, i_dct, i_dnew, l_tup, l_new, l_scr, kCut_e, l_ref, v_tup, v_new, kRvs_e, v_ref, f_len, f_tup, f_lst, f_rep, f_len_t, f_len_n, f_tup_t, f_tup_n, f_lst_t, f_lst_n, kLen_e, f_len_r, kTupB_e, f_tup_r, kLstB_e, f_lst_r, m_app, m_ext, m_pop, m_spl, kApp_e, m_app_e, kExt_e, m_ext_n, kPop_e, m_pop_e, r_app, r_ext, r_pop, kStL_e, st_lst, r_spl, kLv_t, leave_new, leave_val, kFrz_v, kFrz_l, kFrz_d, kIsi_non, kIsi_bl, kIsi_int, kIsi_str, kIsi_tup, kIsi_lst, kIsiT_non, kIsiT_bl, kIsiT_int, kIsiT_str, kIsiT_tup, kIsiT_lst, kDgA_str, kDg3_e, kDg2_e, s_frz, s_isi, t_isi, a_starF, o_addll, o_addln, o_addnl, o_addrl, o_multn, n_lst, n_new, i_lst, i_dctv, l_lst, v_lst, f_len_l, f_tup_l, f_lst_l, asIt_lst, asEn_lst, m_ext_l, f_str, f_int, f_all, f_any, f_srt, f_str_i, f_str_s, f_str_n, f_int_i, f_int_b, m_join, r_join, s_sset, s_lset, kPx2_e, kPx1_v, kPx1_n, kPx_s, kPx_i, ex_nil, ex_cons, s_dcx, kNewD_e, kDcm_e, s_dcm, f_dic, m_upd, r_upd, kUpd_e, m_upd_n, kStK_e, st_dct, kHas_e, n_dref, n_dctv, q_at, Ev.setAll, wipeD, D.low, D.lows, Rv.low, O.low, D.flat, D.eqf, D.keyOf, Ev.look, Ev.put, ofString_inj, sizeLine_eq, atI0, atI1, atI2, atI3, atI4, atI5, lows_app, isiB, lookR,
  List.map_cons, List.map_nil, List.length_cons, List.length_nil, List.getElem?_cons_zero, List.getElem?_cons_succ, List.replicate, List.cons_append, List.nil_append, List.append_nil, List.set_cons_succ, List.set_cons_zero, List.drop_succ_cons, List.drop_zero, List.take_left, List.take_length, List.all_cons, List.all_nil, List.any_cons, List.any_nil, List.getElem?_nil, List.foldl_cons, List.foldl_nil, List.zip_cons_cons, List.zip_nil_right, List.zip_nil_left, List.flatten_cons, List.flatten_nil,
  Nat.reduceAdd, Nat.reduceSub, Nat.zero_add, Nat.add_zero, Nat.reduceLeDiff, Nat.reduceLT, Int.reduceLE, Int.reduceLT, Int.reduceToNat, Int.reduceNeg, decide_true, decide_false, Bool.not_true, Bool.not_false, Bool.and_true, Bool.true_and, Bool.and_false, Bool.false_and, Bool.or_true, Bool.true_or, Bool.or_false, Bool.false_or, if_true, if_false, reduceIte, Bool.false_eq_true, String.reduceEq, and_true, true_and, and_self, reduceCtorEq, ne_eq, not_true_eq_false, not_false_eq_true, List.getElem?_append_right, Nat.sub_self, Nat.le_refl, List.length_append, grd_pos, Sum.inr.injEq, eq_self, Ev.big, Int.reduceEq, Int.reduceNe, Int.reducePow, Int.reduceMul, Int.reduceAdd, Int.reduceSub, List.length_map, List.isEmpty_nil, List.isEmpty_cons, List.set_set, take_set, List.getElem?_set_self, List.getElem?_set_ne, List.length_set, List.getElem?_append_left, Option.isSome_some, mayPut, ixN_lit])
local macro_rules | `(tactic| walk_at "evh") => `(tactic| simp only [*, bnd_some, fin_rt, fin_nx, getv_zero, getv_succ, kVal_e, kTup_e, kLst_e, kDct_e, kRv_e, kBl_e, kBo_e, kBin2_e, kBin_e, kNeg_e, kNot_e, kNotB_e, kBop_e, kCmp2_e, kCmp_e, kTst2_e, kTst_e, kIfx_t, kIfx_f, kCall_e, kCallB_e, kMeth2_e, kMeth_e, kIdx2_e, kIdx_e, kSlc3_e, kSlc2_e, kSlc_e, kRev_e, kNew_e, kReg_v, kReg_n, kLc_e, kLc2_e, kAnd_t, kAnd_f, kOr_t, kOr_f, kVarB_e, asB_bl, asBE_bl, kCallT_e, kTcall_e, kCons2_e, kCons_v, kCons_n, kRs2_e, kRs_e, kPr2_e, kPr_v, kPr_n, kL_e, getL_e, kK_e, asL_ref, s_var, s_int, s_str, s_bl, s_non, s_tup, s_lst, s_dct, s_bin, s_neg, s_not, s_bop, s_cmp, s_ifx, s_call, s_callB, s_meth, s_idx, s_slc, s_rev, s_lc, s_lc2, t_not, t_bop, t_bl, t_var, t_cmp, t_call, t_callB, b_one, b_and, b_or, es_nil, es_cons, er_nil, er_cons, eo_none, asI_int, eo_some, ec_none, ec_some, ep_nil, ep_cons, asIt_dct, asIt_tup, asIt_new, kItR_e, asIt_ref, asIt_str, ei_seq, asRg_one, asRg_nat, ei_range, kEnR_e, asEn_ref, asEn_new, ei_enum, kPut_e, kAsg_v, kAsg_n, x_asg, kPar_e, x_par, kHeap_e, kSto3_e, kSto2_e, kSto_v, kSto_n, x_sto, kExpr_e, x_expr, kRet_e, x_ret, kIf_t, kIf_f, x_if, kFor_e, x_for, x_whl, x_pass, x_brk, x_cont, kSeq_nx, kSeq_rt, kSeq_bk, kSeq_ct, xs_nil, xs_cons, a_nm, a_tp, a_star, as_nil, kTs_e, as_cons, o_addi, o_adds, o_addt, o_addnn, kAddN_e, o_addrn, kAddX_e, o_addnr, kAddR_e, o_addrr, o_subi, o_muli, o_mult, o_div, o_mod, o_pow, c_lt, c_lts, c_le, c_gt, c_ge, c_is, c_isn, kNeq_e, c_eq, c_ne, c_in, c_nin, q_str, q_int, n_tup, i_tup, i_new, i_scr, kAt_e, i_ref, kLook_e, i_dct, i_dnew, l_tup, l_new, l_scr, kCut_e, l_ref, v_tup, v_new, kRvs_e, v_ref, f_len, f_tup, f_lst, f_rep, f_len_t, f_len_n, f_tup_t, f_tup_n, f_lst_t, f_lst_n, kLen_e, f_len_r, kTupB_e, f_tup_r, kLstB_e, f_lst_r, m_app, m_ext, m_pop, m_spl, kApp_e, m_app_e, kExt_e, m_ext_n, kPop_e, m_pop_e, r_app, r_ext, r_pop, kStL_e, st_lst, r_spl, kLv_t, leave_new, leave_val, kFrz_v, kFrz_l, kFrz_d, kIsi_non, kIsi_bl, kIsi_int, kIsi_str, kIsi_tup, kIsi_lst, kIsiT_non, kIsiT_bl, kIsiT_int, kIsiT_str, kIsiT_tup, kIsiT_lst, kDgA_str, kDg3_e, kDg2_e, s_frz, s_isi, t_isi, a_starF, o_addll, o_addln, o_addnl, o_addrl, o_multn, n_lst, n_new, i_lst, i_dctv, l_lst, v_lst, f_len_l, f_tup_l, f_lst_l, asIt_lst, asEn_lst, m_ext_l, f_str, f_int, f_all, f_any, f_srt, f_str_i, f_str_s, f_str_n, f_int_i, f_int_b, m_join, r_join, s_sset, s_lset, kPx2_e, kPx1_v, kPx1_n, kPx_s, kPx_i, ex_nil, ex_cons, s_dcx, kNewD_e, kDcm_e, s_dcm, f_dic, m_upd, r_upd, kUpd_e, m_upd_n, kStK_e, st_dct, kHas_e, n_dref, n_dctv, q_at, Ev.setAll, wipeD, D.low, D.lows, Rv.low, O.low, D.flat, D.eqf, D.keyOf, Ev.look, Ev.put, ofString_inj, sizeLine_eq, atI0, atI1, atI2, atI3, atI4, atI5, lows_app, isiB, lookR,
  List.map_cons, List.map_nil, List.length_cons, List.length_nil, List.getElem?_cons_zero, List.getElem?_cons_succ, List.replicate, List.cons_append, List.nil_append, List.append_nil, List.set_cons_succ, List.set_cons_zero, List.drop_succ_cons, List.drop_zero, List.take_left, List.take_length, List.all_cons, List.all_nil, List.any_cons, List.any_nil, List.getElem?_nil, List.foldl_cons, List.foldl_nil, List.zip_cons_cons, List.zip_nil_right, List.zip_nil_left, List.flatten_cons, List.flatten_nil,
  Nat.reduceAdd, Nat.reduceSub, Nat.zero_add, Nat.add_zero, Nat.reduceLeDiff, Nat.reduceLT, Int.reduceLE, Int.reduceLT, Int.reduceToNat, Int.reduceNeg, decide_true, decide_false, Bool.not_true, Bool.not_false, Bool.and_true, Bool.true_and, Bool.and_false, Bool.false_and, Bool.or_true, Bool.true_or, Bool.or_false, Bool.false_or, if_true, if_false, reduceIte, Bool.false_eq_true, String.reduceEq, and_true, true_and, and_self, reduceCtorEq, ne_eq, not_true_eq_false, not_false_eq_true, List.getElem?_append_right, Nat.sub_self, Nat.le_refl, List.length_append, grd_pos, Sum.inr.injEq, eq_self, Ev.big, Int.reduceEq, Int.reduceNe, Int.reducePow, Int.reduceMul, Int.reduceAdd, Int.reduceSub, List.length_map, List.isEmpty_nil, List.isEmpty_cons, List.set_set, take_set, List.getElem?_set_self, List.getElem?_set_ne, List.length_set, List.getElem?_append_left, Option.isSome_some, mayPut, ixN_lit])
namespace K11
open PySem Ev
def ctF : Stms := .cons (.asg (.nm 5) (.frz (.bin .Add (.var 5) (.callB "list" (.cons (.slc (.idx (.var 6) (.int 5)) (.some (.int 1)) .none) .nil))))) .nil
def ctW : Stms := .cons (.asg (.nm 3) (.frz (.meth "pop" (.var 2) .nil))) (.cons (.asg (.nm 4) (.idx (.lc (.var 7) (.nm 7) (.seq (.idx (.var 0) (.int 5))) (.some (.cmp .Eq (.idx (.var 7) (.int 0)) (.var 3))) [("_law_one", 7)]) (.int 0))) (.cons (.asg (.nm 5) (.frz (.callB "list" (.cons (.idx (.var 4) (.int 3)) .nil)))) (.cons (.loop (.nm 6) (.seq (.idx (.var 4) (.int 2))) ctF) (.cons (.asg (.nm 2) (.bin .Add (.var 2) (.lc (.var 7) (.nm 7) (.seq (.sset (.var 5))) (.some (.cmp .NotIn (.var 7) (.var 1))) [("_law_one", 7)]))) (.cons (.expr (.meth "update" (.var 1) (.cons (.callB "dict" (.cons (.lc (.tup (.cons (.var 7) (.cons (.bl true) .nil))) (.nm 7) (.seq (.var 5)) .none [("_law_one", 7)]) .nil)) .nil))) .nil)))))
theorem ct1 : b__law_come_to_1 = .cons (.whl (.cmp .NotEq (.var 2) (.lst .nil)) ctW) b__law_come_to_2 := rfl
/-- the found dict lies at f, what is left at p; below f all is E -/
structure Lh (E : Eh) (p : Nat) (fd lf : List Str) (H : Eh) : Prop where
  hf : H[E.length]? = some (.dct (tr fd))
  hp : H[p]? = some (.lst (lf.map .str))
  lt : E.length < p
  tk : H.take E.length = E
theorem take_set_ge {H E : Eh} {n : Nat} {o : O} (h : H.take E.length = E) (hn : E.length ≤ n) : (H.set n o).take E.length = E := by
  rw [List.take_set_of_le hn]; exact h
set_option maxHeartbeats 16000000 in
theorem ct_turn (wf k : Nat) (E H : Eh) (t : Ty) (g : Gr t.ss t.bg) (p : Nat) (fd lf : List Str) (x : Str) (hL : Lh E p fd (lf ++ [x]) H) (h : Lgo t.ss t.bg fd (lf ++ [x])) (hlf : lf.length ≤ 1000) (o3 o4 o5 o6 : Option D) :
    ∃ s ∈ t.ss, s.name = x ∧ ∃ (p' : Nat) (H' : Eh) (q4 q5 q6 : Option D), bodF (callF prog wf k) wf E.length ctW [some t.d, some (.ref E.length), some (.ref p), o3, o4, o5, o6, none] H =
      some (.nx [some t.d, some (.ref E.length), some (.ref p'), some (.str x), q4, q5, q6, none], H') ∧ Lh E p' ((once (outs2 s)).foldl more fd) (lf ++ fresh s fd) H' := by
  have hn : x ∈ t.ss.map (·.name) := (h.rf x (h.sb x (List.mem_append_right _ (List.mem_singleton.mpr rfl)))).mem g
  obtain ⟨s, hs, rfl⟩ := List.mem_map.mp hn
  refine ⟨s, hs, rfl, H.length, ?_⟩
  have lo := g.lo s hs
  have ol := g.out_len hs
  have o2 : (outs2 s).length ≤ 14 := by have := ol.1; simp only [outs2, Sc.outs, List.length_append] at *; omega
  have hfd := h.len g
  obtain ⟨hf, hp, hlt, htk⟩ := hL
  have hpl := ltE hp
  rw [List.map_append] at hp
  -- the scene
  have e4 := fun (σ : Sd) (hn : 8 ≤ σ.length) (hv : getv σ 3 = some (.str s.name)) (E1 : Eh) => lc_filtN (callF prog wf k) E.length 7 8 (by omega) (.var 7) (.cmp .Eq (.idx (.var 7) (.int 0)) (.var 3)) Sc.d Sc.d (fun c => decide (c.name = s.name)) t.ss (by have := g.few; omega) σ E1 hn
    (fun c _ => by
      have v7 : getv (σ.set 7 (some c.d)) 7 = some c.d := getv_set _ (by omega)
      have v3 : getv (σ.set 7 (some c.d)) 3 = some (.str s.name) := by rw [getv_set_ne _ (by omega)]; exact hv
      generalize σ.set 7 (some c.d) = σ7 at v7 v3
      simp only [Sc.d] at v7
      unfold cndF
      walk_at "evh")
    (fun c _ _ => by
      have v7 : getv (σ.set 7 (some c.d)) 7 = some c.d := getv_set _ (by omega)
      generalize σ.set 7 (some c.d) = σ7 at v7
      unfold eltF
      walk_at "evh")
  simp only [pick_one g.nd hs, List.map_cons, List.map_nil] at e4
  -- what it names
  have e6 : ∀ (E1 : Eh) (a2 a3 a4 o6 : Option D), ∃ o' : Option D, forL (asgT (.nm 6)) (bodF (callF prog wf k) wf E.length ctF) (chk none) (s.choices.map Ch.d) [some t.d, some (.ref E.length), a2, a3, a4, some (.lst (s.woven.map .str)), o6, none] E1 = some (.nx [some t.d, some (.ref E.length), a2, a3, a4, some (.lst ((outs2 s).map .str)), o', none], E1) := by
    intro E1 a2 a3 a4 o6
    obtain ⟨o, e⟩ := forL_val (asgT (.nm 6)) (bodF (callF prog wf k) wf E.length ctF) Ch.d (fun h : Ch => h.next.ns.map .str) (fun acc o => [some t.d, some (.ref E.length), a2, a3, a4, some (.lst acc), o, none]) E1 s.choices (s.woven.map .str) o6
      (by rw [flatMap_strs, List.length_map, List.length_map]; have := nx_len s.choices; omega) (fun a ha acc o hl => by
        refine ⟨[some t.d, some (.ref E.length), a2, a3, a4, some (.lst acc), some a.d, none], some a.d, by rw [a_nm]; rfl, ?_⟩
        have ct := cut_tail a.next.hd (a.next.ns.map .str)
        simp only [List.length_map] at hl
        simp only [Ch.d, a.next.d_eq]
        unfold bodF ctF
        clear e4
        walk_at "evh")
    rw [flatMap_strs] at e
    refine ⟨o, ?_⟩
    have om : (outs2 s).map D.str = s.woven.map .str ++ s.nx.map .str := by rw [outs2, List.map_append]
    rw [om]
    exact e
  have H1t : (H.set p (.lst (lf.map .str))).take E.length = E := take_set_ge htk (by omega)
  have H1f : (H.set p (.lst (lf.map .str)))[E.length]? = some (.dct (tr fd)) := by rw [List.getElem?_set_ne (by omega)]; exact hf
  have H1p : (H.set p (.lst (lf.map .str)))[p]? = some (.lst (lf.map .str)) := List.getElem?_set_self hpl
  have H1l : (H.set p (.lst (lf.map .str))).length = H.length := List.length_set ..
  generalize hH1 : H.set p (.lst (lf.map .str)) = H1 at H1t H1f H1p H1l
  obtain ⟨o', e6⟩ := e6 H1 (some (.ref p)) (some (.str s.name)) (some s.d) o6
  have e7 := fun (o6 : Option D) => lc_filtN (callF prog wf k) E.length 7 8 (by omega) (.var 7) (.cmp .NotIn (.var 7) (.var 1)) .str .str (fun x => !decide (x ∈ fd)) (sortS (once (outs2 s))) (by have := once_len (outs2 s); have := (sortS_perm (once (outs2 s))).length_eq; omega)
    [some t.d, some (.ref E.length), some (.ref p), some (.str s.name), some s.d, some (.lst ((outs2 s).map .str)), o6, none] H1 (by simp)
    (fun x _ => by
      have lk := look_tr fd x
      unfold cndF
      simp only [List.set_cons_succ, List.set_cons_zero]
      clear e4 e6
      walk_at "evh")
    (fun x _ _ => by unfold eltF; simp only [List.set_cons_succ, List.set_cons_zero]; clear e4 e6; walk_at "evh")
  have ks : ∀ E1 : Eh, kSset (.val (.lst ((outs2 s).map .str)), E1) = some (.new (.lst ((sortS (once (outs2 s))).map .str)), E1) := fun E1 => sset_f rfl (by omega) (by have := once_len (outs2 s); omega)
  have e8 := fun (p' : Nat) (o6 : Option D) (E1 : Eh) => lc_eachN (callF prog wf k) E.length 7 8 (by omega) (.tup (.cons (.var 7) (.cons (.bl true) .nil))) .str (fun x => .tup [.str x, .bl true]) (outs2 s) (by omega)
    (fun x _ σ E1 hl hv => by unfold eltF; clear e4 e6 e7; walk_at "evh") [some t.d, some (.ref E.length), some (.ref p'), some (.str s.name), some s.d, some (.lst ((outs2 s).map .str)), o6, none] E1 (by simp)
  have e9 : ∀ E1 : Eh, dicB E1 [.new (.lst ((outs2 s).map fun x => .tup [.str x, .bl true]))] = some (.new (.dct (tr (once (outs2 s))))) := fun E1 => by
    rw [dic_f (fun x => x) (fun _ => .bl true) rfl]
    have := putAll_tr (outs2 s) []
    unfold tr at this ⊢
    rw [List.map_nil] at this
    rw [this]; rfl
  have fr : (sortS (once (outs2 s))).filter (fun x => !decide (x ∈ fd)) = fresh s fd := rfl
  rw [fr] at e7
  have ff : (H1 ++ [O.lst (lf.map .str ++ (fresh s fd).map .str)])[E.length]? = some (.dct (tr fd)) := getE_app H1f _
  have z1 : lf.length + (fresh s fd).length ≤ 16777216 := by
    have a := once_len (outs2 s)
    have b := (sortS_perm (once (outs2 s))).length_eq
    have c : (fresh s fd).length ≤ (sortS (once (outs2 s))).length := List.length_filter_le ..
    omega
  have z2 : (tr fd).length + (tr (once (outs2 s))).length ≤ 16777216 := by have := once_len (outs2 s); unfold tr; rw [List.length_map, List.length_map]; omega
  have nl0 : ¬ (E.length < E.length) := by omega
  have pa := putAll_tr (once (outs2 s)) fd
  refine ⟨(H1 ++ [O.lst (lf.map .str ++ (fresh s fd).map .str)]).set E.length (.dct (tr ((once (outs2 s)).foldl more fd))), some s.d, some (.lst ((outs2 s).map .str)), o', ?_, ?_⟩
  · have d3 : ∀ (o : Option D), getv [some t.d, some (.ref E.length), some (.ref p), some (.str s.name), o, o5, o6, none] 3 = some (.str s.name) := fun _ => rfl
    have e4' := fun (o : Option D) => e4 [some t.d, some (.ref E.length), some (.ref p), some (.str s.name), o, o5, o6, none] (by simp) (d3 o) H1
    clear e4 h hn lo ol o2 hfd hlt htk hlf H1t
    have td : t.d = .tup [t.p0, t.p1, t.p2, t.p3, t.p4, .tup (t.ss.map Sc.d), .str t.bg] := rfl
    rw [td] at e4' e6 e7 e8 ⊢
    simp only [Sc.d] at e4' e6 e7 e8 ⊢
    unfold bodF ctW
    walk_at "evh"
    done
  · refine ⟨?_, ?_, ?_, ?_⟩
    · rw [List.getElem?_set_self (by rw [List.length_append]; have := ltE H1f; omega)]
    · rw [List.getElem?_set_ne (by have := ltE H1f; omega), ← H1l, List.getElem?_append_right (Nat.le_refl _), Nat.sub_self, List.map_append]; rfl
    · omega
    · refine take_set_ge ?_ (Nat.le_refl _)
      rw [List.take_append_of_le_length (by have := ltE H1f; omega)]; exact H1t
end K11
end QD11
section QE11
namespace Ev
open PySem
/-! the chains -/
def nm (k : Nat) : Str := sign (97 + k % 8)
def aft (w k : Nat) : Nx := match w with
  | 0 => .to (nm (k + 2))
  | 1 => .into (nm (k + 2)) (nm k)
  | 2 => .into (nm k) (nm (k + 2))
  | _ => .back
def chC (w k : Nat) : Sc := ⟨nm k, .nil, [⟨"go", .cons (.worth (.seen (nm (k + 1)))) .nil, .all .nil, false, [], aft w k⟩], if w = 3 then [nm (k + 2)] else [], none⟩
theorem nm_at (k : Fin 8) : L2.atI (Str.ofString "abcdefgh").cps.toList ((k.val : Int)) = some (97 + k.val % 8) ∧ L2.atI (Str.ofString "abcdefgh").cps.toList (((k.val : Int) + 1).fmod 8) = some (97 + (k.val + 1) % 8) ∧ L2.atI (Str.ofString "abcdefgh").cps.toList (((k.val : Int) + 2).fmod 8) = some (97 + (k.val + 2) % 8) := by
  revert k; decide +kernel
theorem abc_len : (Str.ofString "abcdefgh").length ≤ sizeLine := by decide +kernel
theorem nm_ix (E : Eh) {k : Nat} (h : k < 8) : idxop E (.val (.str "abcdefgh")) (.val (.int k)) = some (.str (nm k)) ∧ idxop E (.val (.str "abcdefgh")) (.val (.int (((k : Int) + 1).fmod 8))) = some (.str (nm (k + 1))) ∧ idxop E (.val (.str "abcdefgh")) (.val (.int (((k : Int) + 2).fmod 8))) = some (.str (nm (k + 2))) := by
  obtain ⟨h1, h2, h3⟩ := nm_at ⟨k, h⟩
  simp only at h1 h2 h3
  refine ⟨?_, ?_, ?_⟩
  · simp only [idxop, asS, abc_len, if_true, h1, Option.map_some]; rfl
  · simp only [idxop, asS, abc_len, if_true, h2, Option.map_some]; rfl
  · simp only [idxop, asS, abc_len, if_true, h3, Option.map_some]; rfl
def chT (w : Nat) : Ty := ⟨.tup [], .tup [], .tup [], .tup [], .tup [], (List.range' 0 8).map (chC w), "a"⟩
end Ev
open PySem Ev
local macro_rules | `(tactic| walk_at "ev") => `(tactic| simp only [bnd_some, fin_rt, fin_nx, getv_zero, getv_succ, kVal_e, kTup_e, kLst_e, kDct_e, kRv_e, kBl_e, kBo_e, kBin2_e, kBin_e, kNeg_e, kNot_e, kNotB_e, kBop_e, kCmp2_e, kCmp_e, kTst2_e, kTst_e, kIfx_t, kIfx_f, kCall_e, kCallB_e, kMeth2_e, kMeth_e, kIdx2_e, kIdx_e, kSlc3_e, kSlc2_e, kSlc_e, kRev_e, kNew_e, kReg_v, kReg_n, kLc_e, kLc2_e, kAnd_t, kAnd_f, kOr_t, kOr_f, kVarB_e, asB_bl, asBE_bl, kCallT_e, kTcall_e, kCons2_e, kCons_v, kCons_n, kRs2_e, kRs_e, kPr2_e, kPr_v, kPr_n, kL_e, getL_e, kK_e, asL_ref, s_var, s_int, s_str, s_bl, s_non, s_tup, s_lst, s_dct, s_bin, s_neg, s_not, s_bop, s_cmp, s_ifx, s_call, s_callB, s_meth, s_idx, s_slc, s_rev, s_lc, s_lc2, t_not, t_bop, t_bl, t_var, t_cmp, t_call, t_callB, b_one, b_and, b_or, es_nil, es_cons, er_nil, er_cons, eo_none, asI_int, eo_some, ec_none, ec_some, ep_nil, ep_cons, asIt_dct, asIt_tup, asIt_new, kItR_e, asIt_ref, asIt_str, ei_seq, asRg_one, asRg_nat, ei_range, kEnR_e, asEn_ref, asEn_new, ei_enum, kPut_e, kAsg_v, kAsg_n, x_asg, kPar_e, x_par, kHeap_e, kSto3_e, kSto2_e, kSto_v, kSto_n, x_sto, kExpr_e, x_expr, kRet_e, x_ret, kIf_t, kIf_f, x_if, kFor_e, x_for, x_whl, x_pass, x_brk, x_cont, kSeq_nx, kSeq_rt, kSeq_bk, kSeq_ct, xs_nil, xs_cons, a_nm, a_tp, a_star, as_nil, kTs_e, as_cons, o_addi, o_adds, o_addt, o_addnn, kAddN_e, o_addrn, kAddX_e, o_addnr, kAddR_e, o_addrr, o_subi, o_muli, o_mult, o_div, o_mod, o_pow, c_lt, c_lts, c_le, c_gt, c_ge, c_is, c_isn, kNeq_e, c_eq, c_ne, c_in, c_nin, q_str, q_int, n_tup, i_tup, i_new, i_scr, kAt_e, i_ref, kLook_e, i_dct, i_dnew, l_tup, l_new, l_scr, kCut_e, l_ref, v_tup, v_new, kRvs_e, v_ref, f_len, f_tup, f_lst, f_rep, f_len_t, f_len_n, f_tup_t, f_tup_n, f_lst_t, f_lst_n, kLen_e, f_len_r, kTupB_e, f_tup_r, kLstB_e, f_lst_r, m_app, m_ext, m_pop, m_spl, kApp_e, m_app_e, kExt_e, m_ext_n, kPop_e, m_pop_e, r_app, r_ext, r_pop, kStL_e, st_lst, r_spl, kLv_t, leave_new, leave_val, kFrz_v, kFrz_l, kFrz_d, kIsi_non, kIsi_bl, kIsi_int, kIsi_str, kIsi_tup, kIsi_lst, kIsiT_non, kIsiT_bl, kIsiT_int, kIsiT_str, kIsiT_tup, kIsiT_lst, kDgA_str, kDg3_e, kDg2_e, s_frz, s_isi, t_isi, a_starF, o_addll, o_addln, o_addnl, o_addrl, o_multn, n_lst, n_new, i_lst, i_dctv, l_lst, v_lst, f_len_l, f_tup_l, f_lst_l, asIt_lst, asEn_lst, m_ext_l, f_str, f_int, f_all, f_any, f_srt, f_str_i, f_str_s, f_str_n, f_int_i, f_int_b, m_join, r_join, s_sset, s_lset, kPx2_e, kPx1_v, kPx1_n, kPx_s, kPx_i, ex_nil, ex_cons, s_dcx, kNewD_e, kDcm_e, s_dcm, f_dic, m_upd, r_upd, kUpd_e, m_upd_n, kStK_e, st_dct, kHas_e, n_dref, n_dctv, q_at, Ev.setAll, wipeD, D.low, D.lows, Rv.low, O.low, D.flat, D.eqf, D.keyOf, Ev.look, Ev.put, ofString_inj, sizeLine_eq, atI0, atI1, atI2, atI3, atI4, atI5, lows_app, isiB, lookR,
  List.map_cons, List.map_nil, List.length_cons, List.length_nil, List.getElem?_cons_zero, List.getElem?_cons_succ, List.replicate, List.cons_append, List.nil_append, List.append_nil, List.set_cons_succ, List.set_cons_zero, List.drop_succ_cons, List.drop_zero, List.take_left, List.take_length, List.all_cons, List.all_nil, List.any_cons, List.any_nil, List.getElem?_nil, List.foldl_cons, List.foldl_nil, List.zip_cons_cons, List.zip_nil_right, List.zip_nil_left, List.flatten_cons, List.flatten_nil,
  Nat.reduceAdd, Nat.reduceSub, Nat.zero_add, Nat.add_zero, Nat.reduceLeDiff, Nat.reduceLT, Int.reduceLE, Int.reduceLT, Int.reduceToNat, Int.reduceNeg, decide_true, decide_false, Bool.not_true, Bool.not_false, Bool.and_true, Bool.true_and, Bool.and_false, Bool.false_and, Bool.or_true, Bool.true_or, Bool.or_false, Bool.false_or, if_true, if_false, reduceIte, Bool.false_eq_true, String.reduceEq, and_true, true_and, and_self, reduceCtorEq, ne_eq, not_true_eq_false, not_false_eq_true, List.getElem?_append_right, Nat.sub_self, Nat.le_refl, List.length_append, grd_pos, Sum.inr.injEq, eq_self, Ev.big, Int.reduceEq, Int.reduceNe, Int.reducePow, Int.reduceMul, Int.reduceAdd, Int.reduceSub, List.length_map, List.isEmpty_nil, List.isEmpty_cons, List.set_set, take_set, List.getElem?_set_self, List.getElem?_set_ne, List.length_set, List.getElem?_append_left, Option.isSome_some, mayPut, ixN_lit])
local macro_rules | `(tactic| walk_at "evh") => `(tactic| simp only [*, bnd_some, fin_rt, fin_nx, getv_zero, getv_succ, kVal_e, kTup_e, kLst_e, kDct_e, kRv_e, kBl_e, kBo_e, kBin2_e, kBin_e, kNeg_e, kNot_e, kNotB_e, kBop_e, kCmp2_e, kCmp_e, kTst2_e, kTst_e, kIfx_t, kIfx_f, kCall_e, kCallB_e, kMeth2_e, kMeth_e, kIdx2_e, kIdx_e, kSlc3_e, kSlc2_e, kSlc_e, kRev_e, kNew_e, kReg_v, kReg_n, kLc_e, kLc2_e, kAnd_t, kAnd_f, kOr_t, kOr_f, kVarB_e, asB_bl, asBE_bl, kCallT_e, kTcall_e, kCons2_e, kCons_v, kCons_n, kRs2_e, kRs_e, kPr2_e, kPr_v, kPr_n, kL_e, getL_e, kK_e, asL_ref, s_var, s_int, s_str, s_bl, s_non, s_tup, s_lst, s_dct, s_bin, s_neg, s_not, s_bop, s_cmp, s_ifx, s_call, s_callB, s_meth, s_idx, s_slc, s_rev, s_lc, s_lc2, t_not, t_bop, t_bl, t_var, t_cmp, t_call, t_callB, b_one, b_and, b_or, es_nil, es_cons, er_nil, er_cons, eo_none, asI_int, eo_some, ec_none, ec_some, ep_nil, ep_cons, asIt_dct, asIt_tup, asIt_new, kItR_e, asIt_ref, asIt_str, ei_seq, asRg_one, asRg_nat, ei_range, kEnR_e, asEn_ref, asEn_new, ei_enum, kPut_e, kAsg_v, kAsg_n, x_asg, kPar_e, x_par, kHeap_e, kSto3_e, kSto2_e, kSto_v, kSto_n, x_sto, kExpr_e, x_expr, kRet_e, x_ret, kIf_t, kIf_f, x_if, kFor_e, x_for, x_whl, x_pass, x_brk, x_cont, kSeq_nx, kSeq_rt, kSeq_bk, kSeq_ct, xs_nil, xs_cons, a_nm, a_tp, a_star, as_nil, kTs_e, as_cons, o_addi, o_adds, o_addt, o_addnn, kAddN_e, o_addrn, kAddX_e, o_addnr, kAddR_e, o_addrr, o_subi, o_muli, o_mult, o_div, o_mod, o_pow, c_lt, c_lts, c_le, c_gt, c_ge, c_is, c_isn, kNeq_e, c_eq, c_ne, c_in, c_nin, q_str, q_int, n_tup, i_tup, i_new, i_scr, kAt_e, i_ref, kLook_e, i_dct, i_dnew, l_tup, l_new, l_scr, kCut_e, l_ref, v_tup, v_new, kRvs_e, v_ref, f_len, f_tup, f_lst, f_rep, f_len_t, f_len_n, f_tup_t, f_tup_n, f_lst_t, f_lst_n, kLen_e, f_len_r, kTupB_e, f_tup_r, kLstB_e, f_lst_r, m_app, m_ext, m_pop, m_spl, kApp_e, m_app_e, kExt_e, m_ext_n, kPop_e, m_pop_e, r_app, r_ext, r_pop, kStL_e, st_lst, r_spl, kLv_t, leave_new, leave_val, kFrz_v, kFrz_l, kFrz_d, kIsi_non, kIsi_bl, kIsi_int, kIsi_str, kIsi_tup, kIsi_lst, kIsiT_non, kIsiT_bl, kIsiT_int, kIsiT_str, kIsiT_tup, kIsiT_lst, kDgA_str, kDg3_e, kDg2_e, s_frz, s_isi, t_isi, a_starF, o_addll, o_addln, o_addnl, o_addrl, o_multn, n_lst, n_new, i_lst, i_dctv, l_lst, v_lst, f_len_l, f_tup_l, f_lst_l, asIt_lst, asEn_lst, m_ext_l, f_str, f_int, f_all, f_any, f_srt, f_str_i, f_str_s, f_str_n, f_int_i, f_int_b, m_join, r_join, s_sset, s_lset, kPx2_e, kPx1_v, kPx1_n, kPx_s, kPx_i, ex_nil, ex_cons, s_dcx, kNewD_e, kDcm_e, s_dcm, f_dic, m_upd, r_upd, kUpd_e, m_upd_n, kStK_e, st_dct, kHas_e, n_dref, n_dctv, q_at, Ev.setAll, wipeD, D.low, D.lows, Rv.low, O.low, D.flat, D.eqf, D.keyOf, Ev.look, Ev.put, ofString_inj, sizeLine_eq, atI0, atI1, atI2, atI3, atI4, atI5, lows_app, isiB, lookR,
  List.map_cons, List.map_nil, List.length_cons, List.length_nil, List.getElem?_cons_zero, List.getElem?_cons_succ, List.replicate, List.cons_append, List.nil_append, List.append_nil, List.set_cons_succ, List.set_cons_zero, List.drop_succ_cons, List.drop_zero, List.take_left, List.take_length, List.all_cons, List.all_nil, List.any_cons, List.any_nil, List.getElem?_nil, List.foldl_cons, List.foldl_nil, List.zip_cons_cons, List.zip_nil_right, List.zip_nil_left, List.flatten_cons, List.flatten_nil,
  Nat.reduceAdd, Nat.reduceSub, Nat.zero_add, Nat.add_zero, Nat.reduceLeDiff, Nat.reduceLT, Int.reduceLE, Int.reduceLT, Int.reduceToNat, Int.reduceNeg, decide_true, decide_false, Bool.not_true, Bool.not_false, Bool.and_true, Bool.true_and, Bool.and_false, Bool.false_and, Bool.or_true, Bool.true_or, Bool.or_false, Bool.false_or, if_true, if_false, reduceIte, Bool.false_eq_true, String.reduceEq, and_true, true_and, and_self, reduceCtorEq, ne_eq, not_true_eq_false, not_false_eq_true, List.getElem?_append_right, Nat.sub_self, Nat.le_refl, List.length_append, grd_pos, Sum.inr.injEq, eq_self, Ev.big, Int.reduceEq, Int.reduceNe, Int.reducePow, Int.reduceMul, Int.reduceAdd, Int.reduceSub, List.length_map, List.isEmpty_nil, List.isEmpty_cons, List.set_set, take_set, List.getElem?_set_self, List.getElem?_set_ne, List.length_set, List.getElem?_append_left, Option.isSome_some, mayPut, ixN_lit])
namespace K11
open PySem Ev
set_option maxHeartbeats 8000000 in
theorem come_to (wf k : Nat) (hk : 1 < k) (hw : 1000 < wf) (E : Eh) (t : Ty) (g : Gr t.ss t.bg) : ∃ fd : List Str, (∀ x, x ∈ fd ↔ Rch t.ss t.bg x) ∧ callF prog wf k 15 [t.d] E = some (.new (.lst ((sortS fd).map .str)), E) := by
  obtain ⟨k, rfl⟩ : ∃ k', k = k' + 1 := ⟨k - 1, by omega⟩
  rw [call_step pg15 _ _ _ _ rfl]
  obtain ⟨σ', H', ⟨p, fd, o2, o3, o4, o5, o6, rfl, hL, h8, hfd⟩, hrun⟩ := while_run (tstF (callF prog wf k) E.length (.cmp .NotEq (.var 2) (.lst .nil))) (bodF (callF prog wf k) wf E.length ctW)
    (fun m σ H => ∃ p fd lf o3 o4 o5 o6, σ = [some t.d, some (.ref E.length), some (.ref p), o3, o4, o5, o6, none] ∧ Lh E p fd lf H ∧ Lgo t.ss t.bg fd lf ∧ m = lf.length + 2 * (8 - fd.length) ∧ m ≤ 100)
    (fun σ H => ∃ p fd o2 o3 o4 o5 o6, σ = [some t.d, some (.ref E.length), o2, o3, o4, o5, o6, none] ∧ Lh E p fd [] H ∧ fd.length ≤ 8 ∧ ∀ x, x ∈ fd ↔ Rch t.ss t.bg x)
    (by
      rintro m σ H ⟨p, fd, lf, o3, o4, o5, o6, rfl, hL, hS, rfl, hm⟩
      have hp := hL.hp
      have hq := eqRv_strs hp (g.sts (fun x hx => (hS.rf x (hS.sb x hx)).mem g))
      rcases List.eq_nil_or_concat lf with rfl | ⟨lf', x, rfl⟩
      · refine .inl ⟨?_, p, fd, _, o3, o4, o5, o6, rfl, hL, hS.len g, hS.done⟩
        simp only [List.isEmpty_nil] at hq
        unfold tstF
        walk_at "evh"
      · rw [List.concat_eq_append] at *
        obtain ⟨s, hs, rfl, p', H2, q4, q5, q6, e1, h2⟩ := ct_turn wf k E H t g p fd lf' x hL hS (by simp at hm; omega) o3 o4 o5 o6
        obtain ⟨h3, h4⟩ := hS.step g hs
        have := h3.len g
        refine .inr ⟨(lf' ++ fresh s fd).length + 2 * (8 - ((once (outs2 s)).foldl more fd).length), _, H2, ?_, ⟨p', _, _, _, q4, q5, q6, rfl, h2, h3, rfl, ?_⟩, ?_, e1⟩
        · rw [List.length_append, List.length_append]; simp only [List.length_cons, List.length_nil]; omega
        · rw [List.length_append] at hm ⊢; simp only [List.length_cons, List.length_nil] at hm; omega
        · have he : (lf' ++ [s.name]).isEmpty = false := by simp
          rw [he] at hq
          unfold tstF
          walk_at "evh")
    wf (1 + 2 * 7) [some t.d, some (.ref E.length), some (.ref (E.length + 1)), none, none, none, none, none] (E ++ [.dct (tr [t.bg])] ++ [.lst ([t.bg].map .str)])
    ⟨E.length + 1, [t.bg], [t.bg], none, none, none, none, rfl, ⟨ap_get0 .., ap_get1 .., by omega, ap_take ..⟩, ⟨by simp, fun x hx => (by rw [List.mem_singleton.mp hx]; exact .base), fun x hx => hx, List.mem_singleton.mpr rfl, fun s _ hs => .inl hs⟩, rfl, by omega⟩ (by omega)
  refine ⟨fd, hfd, ?_⟩
  have hs : sortB H' [.val (.ref E.length)] = some (.new (.lst ((sortS (fd.map id)).map .str))) := sort_d id (fun _ => .bl true) hL.hf (by omega)
  rw [List.map_id] at hs
  have hlow := lows_strs E.length (sortS fd)
  have htk := hL.tk
  have a6 : L2.atI [t.p0, t.p1, t.p2, t.p3, t.p4, D.tup (t.ss.map Sc.d), D.str t.bg] 6 = some (D.str t.bg) := rfl
  simp only [Ty.d, List.map_cons, List.map_nil, tr] at hrun ⊢
  clear hfd g hL
  simp only [b__law_come_to, ct1, b__law_come_to_2]
  walk_at "evh"
  done
def chB : Stms := .cons (.asg (.nm 4) (.idx (.var 1) (.bin .Mod (.bin .Add (.var 3) (.int 2)) (.int 8)))) (.cons (.asg (.nm 5) (.idx (.lst (.cons (.tup (.cons (.str "to") (.cons (.var 4) .nil))) (.cons (.tup (.cons (.str "into") (.cons (.var 4) (.cons (.idx (.var 1) (.var 3)) .nil)))) (.cons (.tup (.cons (.str "into") (.cons (.idx (.var 1) (.var 3)) (.cons (.var 4) .nil)))) (.cons (.tup (.cons (.str "back") .nil)) .nil))))) (.var 0))) (.cons (.asg (.nm 6) (.tup (.cons (.str "go") (.cons (.tup (.cons (.tup (.cons (.str "worth") (.cons (.tup (.cons (.str "seen") (.cons (.idx (.var 1) (.bin .Mod (.bin .Add (.var 3) (.int 1)) (.int 8))) .nil))) .nil))) .nil)) (.cons (.tup (.cons (.str "all") (.cons (.tup .nil) .nil))) (.cons (.bl false) (.cons (.tup .nil) (.cons (.var 5) .nil)))))))) (.cons (.expr (.meth "append" (.var 2) (.cons (.tup (.cons (.idx (.var 1) (.var 3)) (.cons (.tup .nil) (.cons (.tup (.cons (.var 6) .nil)) (.cons (.frz (.ifx (.cmp .Eq (.var 0) (.int 3)) (.tup (.cons (.var 4) .nil)) (.tup .nil))) (.cons .non .nil)))))) .nil))) .nil)))
theorem hch1 : b__law_chain_1 = .cons (.loop (.nm 3) (.range (.cons (.int 8) .nil)) chB) b__law_chain_2 := rfl
set_option maxHeartbeats 8000000 in
theorem ch_turn (cf : Cf) (wf w k : Nat) (E : Eh) (hw : w < 4) (hk : k < 8) (xs : List D) (hx : xs.length ≤ 100) (o4 o5 o6 : Option D) : ∃ (q4 q5 q6 : Option D), bodF cf wf E.length chB [some (.int w), some (.str "abcdefgh"), some (.ref E.length), some (.int k), o4, o5, o6] (E ++ [.lst xs]) =
    some (.nx [some (.int w), some (.str "abcdefgh"), some (.ref E.length), some (.int k), q4, q5, q6], E ++ [.lst (xs ++ [(chC w k).d])]) := by
  have i1 := fun E => (nm_ix E hk).1
  have i2 := fun E => (nm_ix E hk).2.1
  have i3 := fun E => (nm_ix E hk).2.2
  have g0 : (E ++ [O.lst xs])[E.length]? = some (.lst xs) := by simp
  have p0 : ∀ c, (E ++ [O.lst xs]).set E.length c = E ++ [c] := fun c => by simp
  have nl0 : ¬ (E.length < E.length) := by omega
  have hx2 : xs.length < 16777216 := by omega
  have : w = 0 ∨ w = 1 ∨ w = 2 ∨ w = 3 := by omega
  rcases this with rfl | rfl | rfl | rfl
  all_goals
    simp only [chC, aft, Sc.d, Ch.d, Pcs.ds, Pc.d, Sm.d, Te.d, Tes.ds, Nx.d, oStr, List.map_cons, List.map_nil, Nat.reduceEqDiff, if_true, if_false, show ((0 : Nat) : Int) = 0 from rfl, show ((1 : Nat) : Int) = 1 from rfl, show ((2 : Nat) : Int) = 2 from rfl, show ((3 : Nat) : Int) = 3 from rfl]
    unfold bodF chB
    walk_at "evh"
    exact ⟨_, _, _, rfl⟩
theorem ch_loop (cf : Cf) (wf w : Nat) (E : Eh) (hw : w < 4) : ∀ (n i : Nat) (ss : List Sc) (o3 o4 o5 o6 : Option D), i + n ≤ 8 → ss.length = i → ∃ (q3 q4 q5 q6 : Option D), forL (asgT (.nm 3)) (bodF cf wf E.length chB) (chk none) (rangeD i n) [some (.int w), some (.str "abcdefgh"), some (.ref E.length), o3, o4, o5, o6] (E ++ [.lst (ss.map Sc.d)]) =
    some (.nx [some (.int w), some (.str "abcdefgh"), some (.ref E.length), q3, q4, q5, q6], E ++ [.lst ((ss ++ (List.range' i n).map (chC w)).map Sc.d)]) := by
  intro n
  induction n with
  | zero => intro i ss o3 o4 o5 o6 _ _; exact ⟨o3, o4, o5, o6, by rw [rangeD, forL, if_pos (show chk none _ = true from rfl)]; simp⟩
  | succ n ih =>
    intro i ss o3 o4 o5 o6 hi hl
    obtain ⟨p4, p5, p6, e1⟩ := ch_turn cf wf w i E hw (by omega) (ss.map Sc.d) (by rw [List.length_map]; omega) o4 o5 o6
    obtain ⟨q3, q4, q5, q6, e2⟩ := ih (i + 1) (ss ++ [chC w i]) (some (.int i)) p4 p5 p6 (by omega) (by rw [List.length_append, List.length_singleton]; omega)
    refine ⟨q3, q4, q5, q6, ?_⟩
    rw [rangeD, forL, if_pos (show chk none _ = true from rfl), a_nm]
    simp only [List.set_cons_succ, List.set_cons_zero, e1]
    rw [List.range'_succ, List.map_cons]
    rw [List.append_assoc, List.map_append] at e2
    rw [List.map_append] at e2 ⊢
    simpa using e2
set_option maxHeartbeats 4000000 in
theorem chain (wf k w : Nat) (hk : 0 < k) (E : Eh) (hw : w < 4) : callF prog wf k 16 [.int w] E = some (.val (chT w).d, E) := by
  obtain ⟨k, rfl⟩ : ∃ k', k = k' + 1 := ⟨k - 1, by omega⟩
  rw [call_step pg16 _ _ _ _ rfl]
  obtain ⟨q3, q4, q5, q6, e⟩ := ch_loop (callF prog wf k) wf w E hw 8 0 [] none none none none (by omega) rfl
  have g0 : ∀ xs, (E ++ [O.lst xs])[E.length]? = some (.lst xs) := fun xs => by simp
  have tk : ∀ o, (E ++ [o]).take E.length = E := fun o => by simp
  have hlow : D.lows E.length (((List.range' 0 8).map (chC w)).map Sc.d) = true := lows_map E.length Sc.d (Sc.dlow E.length) _
  simp only [Ty.d, chT, List.nil_append, List.map_nil, show ((0 : Nat) : Int) = 0 from rfl] at e ⊢
  generalize ((List.range' 0 8).map (chC w)).map Sc.d = X at *
  simp only [b__law_chain, hch1, b__law_chain_2]
  walk_at "evh"
end K11
end QE11
section EvBd
/-! how long and how deep the made things are -/
namespace Ev
open PySem
mutual
theorem ft_up : ∀ (d : D) (n : Nat), d.ft n = true → d.ft (n + 1) = true
  | .non, n, h => by simp only [D.ft]
  | .bl _, n, h => by simp only [D.ft]
  | .int _, n, h => by cases n <;> simpa only [D.ft] using h
  | .str _, n, h => by cases n <;> simpa only [D.ft] using h
  | .tup ds, 0, h => by simp [D.ft] at h
  | .tup ds, n + 1, h => by
    simp only [D.ft] at h ⊢
    exact fts_up ds n h
  | .lst ds, 0, h => by simp [D.ft] at h
  | .lst ds, n + 1, h => by
    simp only [D.ft] at h ⊢
    exact fts_up ds n h
  | .dct _ _, n, h => by cases n <;> simp [D.ft] at h
  | .ref _, n, h => by cases n <;> simp [D.ft] at h
  | .fn _, n, h => by cases n <;> simp [D.ft] at h
  | .scr _, n, h => by cases n <;> simp [D.ft] at h
theorem fts_up : ∀ (ds : List D) (n : Nat), D.fts n ds = true → D.fts (n + 1) ds = true
  | [], n, h => by simp only [D.fts]
  | d :: r, n, h => by
    simp only [D.fts, Bool.and_eq_true] at h ⊢
    exact ⟨ft_up d n h.1, fts_up r n h.2⟩
end
theorem ft_le {d : D} {n m : Nat} (h : d.ft n = true) (hnm : n ≤ m) : d.ft m = true := by
  obtain ⟨k, rfl⟩ : ∃ k, m = n + k := ⟨m - n, by omega⟩
  clear hnm
  induction k with
  | zero => exact h
  | succ k ih => exact ft_up _ _ ih
theorem fts_le {d : List D} {n m : Nat} (h : D.fts n d = true) (hnm : n ≤ m) : D.fts m d = true := by
  obtain ⟨k, rfl⟩ : ∃ k, m = n + k := ⟨m - n, by omega⟩
  clear hnm
  induction k with
  | zero => exact h
  | succ k ih => exact fts_up _ _ ih
theorem ft_tup (n : Nat) (ds : List D) : (D.tup ds).ft (n + 1) = D.fts n ds := by simp only [D.ft]
theorem wd_tup (ds : List D) : (D.tup ds).wd = 4 + D.wds ds := by simp only [D.wd]
theorem gd_wd {x : Str} (h : gd x = true) : (D.str x).wd ≤ 20 := by
  simp only [gd, Bool.and_eq_true, decide_eq_true_eq] at h; exact h.1.2
theorem gd_ft {x : Str} (h : gd x = true) (n : Nat) : (D.str x).ft n = true := by
  simp only [gd, Bool.and_eq_true, decide_eq_true_eq] at h
  cases n <;> simp only [D.ft, h.1.1]
theorem int_small : ∀ i : Fin 201, (PyData.int ((i.val : Int) - 100)).shown.length ≤ 10 ∧ ((i.val : Int) - 100).natAbs.log2 < 1920 := by decide +kernel
theorem int_wd {i : Int} (h : -100 ≤ i ∧ i ≤ 100) : (D.int i).wd ≤ 10 ∧ ∀ n, (D.int i).ft n = true := by
  have h0 : (i + 100).toNat < 201 := by omega
  have := int_small ⟨(i + 100).toNat, h0⟩
  simp only [Int.toNat_of_nonneg (show 0 ≤ i + 100 by omega), show i + 100 - 100 = i by omega] at this
  exact ⟨this.1, fun n => by cases n <;> simp only [D.ft, this.2, decide_true]⟩
theorem ft_lst (n : Nat) (ds : List D) : (D.lst ds).ft (n + 1) = D.fts n ds := by simp only [D.ft]
theorem wd_lst (ds : List D) : (D.lst ds).wd = 4 + D.wds ds := by simp only [D.wd]
theorem w1 : ∀ x ∈ (["num", "of", "seen", "plus", "minus", "is", "not", "all", "any", "at", "with", "if", "only", "worth", "place", "text", "end", "glue", "set", "draw", "go", "put", "join", "leave", "back", "into", "to", "number", "figure", "scene"] : List String), gd (Str.ofString x) = true := by decide +kernel
theorem wd_w (x : String) (h : x ∈ (["num", "of", "seen", "plus", "minus", "is", "not", "all", "any", "at", "with", "if", "only", "worth", "place", "text", "end", "glue", "set", "draw", "go", "put", "join", "leave", "back", "into", "to", "number", "figure", "scene"] : List String)) : (D.str (Str.ofString x)).wd ≤ 20 := gd_wd (w1 x h)
theorem ft_w (x : String) (n : Nat) (h : x ∈ (["num", "of", "seen", "plus", "minus", "is", "not", "all", "any", "at", "with", "if", "only", "worth", "place", "text", "end", "glue", "set", "draw", "go", "put", "join", "leave", "back", "into", "to", "number", "figure", "scene"] : List String)) : (D.str (Str.ofString x)).ft n = true := gd_ft (w1 x h) n
structure Gw (w : Wp) : Prop where
  sc : ∀ x, decide (x ∈ w.sc) = true → gd x = true
  nu : ∀ x, decide (x ∈ w.nu) = true → gd x = true
  pl : ∀ x, decide (x ∈ w.pl) = true → gd x = true
  fi : ∀ x, decide (x ∈ w.fi) = true → gd x = true
theorem Gw.of {w : Wp} (a : goodL w.sc) (b : goodL w.nu) (c : goodL w.pl) (d : goodL w.fi) : Gw w :=
  ⟨fun x h => a.2 x (of_decide_eq_true h), fun x h => b.2 x (of_decide_eq_true h), fun x h => c.2 x (of_decide_eq_true h), fun x h => d.2 x (of_decide_eq_true h)⟩
theorem sgn_gd {o : Str} (h : sgnOk o = true) : gd o = true := by
  simp only [sgnOk, decide_eq_true_eq] at h
  rcases h with rfl | rfl | rfl <;> decide +kernel
theorem Sm.bd {w : Wp} (hg : Gw w) : ∀ (s : Sm) (d : Nat), s.ok w d = true → s.d.wd ≤ 50 * 3 ^ d ∧ s.d.ft (d + 1) = true
  | .num i, d, h => by
    have h' : -100 ≤ i ∧ i ≤ 100 := by cases d <;> simpa [Sm.ok] using h
    obtain ⟨h1, h2⟩ := int_wd h'
    have h3 := wd_w "num" (by simp)
    have hp : 1 ≤ 3 ^ d := Nat.pow_pos (by omega)
    exact ⟨by simp only [Sm.d, wd_tup, D.wds]; omega, by simp only [Sm.d, ft_tup, D.fts, h2, ft_w "num" d (by simp), Bool.and_self]⟩
  | .of n, d, h => by
    have h' : gd n = true := hg.nu n (by cases d <;> simpa only [Sm.ok] using h)
    have h1 := gd_wd h'
    have h2 := gd_ft h' d
    have h3 := wd_w "of" (by simp)
    have hp : 1 ≤ 3 ^ d := Nat.pow_pos (by omega)
    exact ⟨by simp only [Sm.d, wd_tup, D.wds]; omega, by simp only [Sm.d, ft_tup, D.fts, h2, ft_w "of" d (by simp), Bool.and_self]⟩
  | .seen n, d, h => by
    have h' : gd n = true := hg.sc n (by cases d <;> simpa only [Sm.ok] using h)
    have h1 := gd_wd h'
    have h2 := gd_ft h' d
    have h3 := wd_w "seen" (by simp)
    have hp : 1 ≤ 3 ^ d := Nat.pow_pos (by omega)
    exact ⟨by simp only [Sm.d, wd_tup, D.wds]; omega, by simp only [Sm.d, ft_tup, D.fts, h2, ft_w "seen" d (by simp), Bool.and_self]⟩
  | .plus a b, 0, h => by simp [Sm.ok] at h
  | .plus a b, d + 1, h => by
    simp only [Sm.ok, Bool.and_eq_true] at h
    obtain ⟨a3, a4⟩ := Sm.bd hg a d h.1
    obtain ⟨b3, b4⟩ := Sm.bd hg b d h.2
    have h3 := wd_w "plus" (by simp)
    have hp : 1 ≤ 3 ^ d := Nat.pow_pos (by omega)
    have e1 : 3 ^ (d + 1) = 3 * 3 ^ d := by rw [Nat.pow_succ]; omega
    exact ⟨by simp only [Sm.d, wd_tup, D.wds]; omega, by simp only [Sm.d, ft_tup, D.fts, a4, b4, ft_w "plus" (d + 1) (by simp), Bool.and_self]⟩
  | .minus a b, 0, h => by simp [Sm.ok] at h
  | .minus a b, d + 1, h => by
    simp only [Sm.ok, Bool.and_eq_true] at h
    obtain ⟨a3, a4⟩ := Sm.bd hg a d h.1
    obtain ⟨b3, b4⟩ := Sm.bd hg b d h.2
    have h3 := wd_w "minus" (by simp)
    have hp : 1 ≤ 3 ^ d := Nat.pow_pos (by omega)
    have e1 : 3 ^ (d + 1) = 3 * 3 ^ d := by rw [Nat.pow_succ]; omega
    exact ⟨by simp only [Sm.d, wd_tup, D.wds]; omega, by simp only [Sm.d, ft_tup, D.fts, a4, b4, ft_w "minus" (d + 1) (by simp), Bool.and_self]⟩
mutual
theorem Te.bd {w : Wp} (hg : Gw w) : ∀ (t : Te) (d : Nat), t.ok w d = true → t.d.wd ≤ 400 * 3 ^ d ∧ t.d.ft (2 * d + 3) = true
  | .is a o b, d, h => by
    have h' : (a.ok w 1 = true ∧ sgnOk o = true) ∧ b.ok w 1 = true := by cases d <;> simpa only [Te.ok, Bool.and_eq_true] using h
    obtain ⟨a3, a4⟩ := Sm.bd hg a 1 h'.1.1
    obtain ⟨b3, b4⟩ := Sm.bd hg b 1 h'.2
    have k2 := sgn_gd h'.1.2
    have h2 := gd_wd k2
    have h3 := wd_w "is" (by simp)
    have hp : 1 ≤ 3 ^ d := Nat.pow_pos (by omega)
    exact ⟨by simp only [Te.d, wd_tup, D.wds]; omega, by simp only [Te.d, ft_tup, D.fts, gd_ft k2, ft_le a4 (show 1 + 1 ≤ 2 * d + 2 by omega), ft_le b4 (show 1 + 1 ≤ 2 * d + 2 by omega), ft_w "is" (2 * d + 2) (by simp), Bool.and_self]⟩
  | .at a b, d, h => by
    have h' : decide (a ∈ w.fi) = true ∧ decide (b ∈ w.pl) = true := by cases d <;> simpa only [Te.ok, Bool.and_eq_true] using h
    have k1 := hg.fi a h'.1
    have k2 := hg.pl b h'.2
    have h1 := gd_wd k1
    have h2 := gd_wd k2
    have h3 := wd_w "at" (by simp)
    have hp : 1 ≤ 3 ^ d := Nat.pow_pos (by omega)
    exact ⟨by simp only [Te.d, wd_tup, D.wds]; omega, by simp only [Te.d, ft_tup, D.fts, gd_ft k1, gd_ft k2, ft_w "at" (2 * d + 2) (by simp), Bool.and_self]⟩
  | .wth a b, d, h => by
    have h' : decide (a ∈ w.fi) = true ∧ decide (b ∈ w.fi) = true := by cases d <;> simpa only [Te.ok, Bool.and_eq_true] using h
    have k1 := hg.fi a h'.1
    have k2 := hg.fi b h'.2
    have h1 := gd_wd k1
    have h2 := gd_wd k2
    have h3 := wd_w "with" (by simp)
    have hp : 1 ≤ 3 ^ d := Nat.pow_pos (by omega)
    exact ⟨by simp only [Te.d, wd_tup, D.wds]; omega, by simp only [Te.d, ft_tup, D.fts, gd_ft k1, gd_ft k2, ft_w "with" (2 * d + 2) (by simp), Bool.and_self]⟩
  | .not t, 0, h => by simp [Te.ok] at h
  | .any t, 0, h => by simp [Te.ok] at h
  | .all (.cons a b), 0, h => by simp [Te.ok] at h
  | .all .nil, 0, h => by
    have h3 := wd_w "all" (by simp)
    exact ⟨by simp only [Te.d, Tes.ds, wd_tup, D.wds]; omega, by simp only [Te.d, Tes.ds, ft_tup, D.fts, ft_w "all" _ (by simp), Bool.and_self]⟩
  | .not t, d + 1, h => by
    simp only [Te.ok] at h
    obtain ⟨a3, a4⟩ := Te.bd hg t d h
    have h3 := wd_w "not" (by simp)
    have hp : 1 ≤ 3 ^ d := Nat.pow_pos (by omega)
    have e1 : 3 ^ (d + 1) = 3 * 3 ^ d := by rw [Nat.pow_succ]; omega
    exact ⟨by simp only [Te.d, wd_tup, D.wds]; omega, by simp only [Te.d, show 2 * (d + 1) + 3 = 2 * d + 4 + 1 by omega, ft_tup, D.fts, ft_le a4 (show 2 * d + 3 ≤ 2 * d + 4 by omega), ft_w "not" (2 * d + 4) (by simp), Bool.and_self]⟩
  | .all ts, d + 1, h => by
    simp only [Te.ok, Bool.and_eq_true, decide_eq_true_eq] at h
    obtain ⟨a3, a4⟩ := Tes.bd hg ts d h.1
    have h3 := wd_w "all" (by simp)
    have hp : 1 ≤ 3 ^ d := Nat.pow_pos (by omega)
    have e1 : 3 ^ (d + 1) = 3 * 3 ^ d := by rw [Nat.pow_succ]; omega
    have m2 : ts.len * (400 * 3 ^ d + 2) ≤ 2 * (400 * 3 ^ d + 2) := Nat.mul_le_mul_right _ h.2
    exact ⟨by simp only [Te.d, wd_tup, D.wds]; omega, by simp only [Te.d, show 2 * (d + 1) + 3 = 2 * d + 3 + 1 + 1 by omega, ft_tup, D.fts, a4, ft_w "all" (2 * d + 3 + 1) (by simp), Bool.and_self]⟩
  | .any ts, d + 1, h => by
    simp only [Te.ok, Bool.and_eq_true, decide_eq_true_eq] at h
    obtain ⟨a3, a4⟩ := Tes.bd hg ts d h.1
    have h3 := wd_w "any" (by simp)
    have hp : 1 ≤ 3 ^ d := Nat.pow_pos (by omega)
    have e1 : 3 ^ (d + 1) = 3 * 3 ^ d := by rw [Nat.pow_succ]; omega
    have m2 : ts.len * (400 * 3 ^ d + 2) ≤ 2 * (400 * 3 ^ d + 2) := Nat.mul_le_mul_right _ h.2
    exact ⟨by simp only [Te.d, wd_tup, D.wds]; omega, by simp only [Te.d, show 2 * (d + 1) + 3 = 2 * d + 3 + 1 + 1 by omega, ft_tup, D.fts, a4, ft_w "any" (2 * d + 3 + 1) (by simp), Bool.and_self]⟩
theorem Tes.bd {w : Wp} (hg : Gw w) : ∀ (t : Tes) (d : Nat), t.ok w d = true → D.wds t.ds ≤ t.len * (400 * 3 ^ d + 2) ∧ D.fts (2 * d + 3) t.ds = true
  | .nil, d, h => by simp [Tes.ds, D.wds, D.fts]
  | .cons t r, d, h => by
    simp only [Tes.ok, Bool.and_eq_true] at h
    obtain ⟨a3, a4⟩ := Te.bd hg t d h.1
    obtain ⟨b3, b4⟩ := Tes.bd hg r d h.2
    exact ⟨by simp only [Tes.ds, D.wds, Tes.len, Nat.add_mul, Nat.one_mul] at *; omega, by simp only [Tes.ds, D.fts, a4, b4, Bool.and_self]⟩
end
end Ev
end EvBd
section EvBd2
namespace Ev
open PySem
mutual
theorem Pc.bd {w : Wp} (hg : Gw w) {on : Bool} : ∀ (t : Pc) (d : Nat), t.ok w on d = true → t.d.wd ≤ 2000 * 5 ^ d ∧ t.d.ft (2 * d + 6) = true
  | .worth s, d, h => by
    have h' : s.ok w 2 = true := by cases d <;> simpa only [Pc.ok] using h
    obtain ⟨a3, a4⟩ := Sm.bd hg s 2 h'
    have h3 := wd_w "worth" (by simp)
    have hp : 1 ≤ 5 ^ d := Nat.pow_pos (by omega)
    exact ⟨by simp only [Pc.d, wd_tup, D.wds]; omega, by simp only [Pc.d, ft_tup, D.fts, ft_le a4 (show 2 + 1 ≤ 2 * d + 5 by omega), ft_w "worth" (2 * d + 5) (by simp), Bool.and_self]⟩
  | .place n, d, h => by
    have k1 := hg.fi n (by cases d <;> simpa only [Pc.ok] using h)
    have h1 := gd_wd k1
    have h3 := wd_w "place" (by simp)
    have hp : 1 ≤ 5 ^ d := Nat.pow_pos (by omega)
    exact ⟨by simp only [Pc.d, wd_tup, D.wds]; omega, by simp only [Pc.d, ft_tup, D.fts, gd_ft k1, ft_w "place" (2 * d + 5) (by simp), Bool.and_self]⟩
  | .txt n, d, h => by
    have k1 : gd n = true := by cases d <;> simpa only [Pc.ok] using h
    have h1 := gd_wd k1
    have h3 := wd_w "text" (by simp)
    have hp : 1 ≤ 5 ^ d := Nat.pow_pos (by omega)
    exact ⟨by simp only [Pc.d, wd_tup, D.wds]; omega, by simp only [Pc.d, ft_tup, D.fts, gd_ft k1, ft_w "text" (2 * d + 5) (by simp), Bool.and_self]⟩
  | .fin, d, h => by
    have h3 := wd_w "end" (by simp)
    have hp : 1 ≤ 5 ^ d := Nat.pow_pos (by omega)
    exact ⟨by simp only [Pc.d, wd_tup, D.wds]; omega, by simp only [Pc.d, ft_tup, D.fts, ft_w "end" (2 * d + 5) (by simp), Bool.and_self]⟩
  | .glue, d, h => by
    have h3 := wd_w "glue" (by simp)
    have hp : 1 ≤ 5 ^ d := Nat.pow_pos (by omega)
    exact ⟨by simp only [Pc.d, wd_tup, D.wds]; omega, by simp only [Pc.d, ft_tup, D.fts, ft_w "glue" (2 * d + 5) (by simp), Bool.and_self]⟩
  | .iff t a b, 0, h => by simp [Pc.ok] at h
  | .only t a, 0, h => by simp [Pc.ok] at h
  | .iff t a b, d + 1, h => by
    simp only [Pc.ok, Bool.and_eq_true, decide_eq_true_eq] at h
    obtain ⟨a3, a4⟩ := Te.bd hg t 1 h.1.1
    obtain ⟨b3, b4⟩ := Pcs.bd hg a d h.1.2.1
    obtain ⟨c3, c4⟩ := Pcs.bd hg b d h.2.1
    have h3 := wd_w "if" (by simp)
    have hp : 1 ≤ 5 ^ d := Nat.pow_pos (by omega)
    have e1 : 5 ^ (d + 1) = 5 * 5 ^ d := by rw [Nat.pow_succ]; omega
    have m2 : a.len * (2000 * 5 ^ d + 2) ≤ 2 * (2000 * 5 ^ d + 2) := Nat.mul_le_mul_right _ h.1.2.2
    have n2 : b.len * (2000 * 5 ^ d + 2) ≤ 2 * (2000 * 5 ^ d + 2) := Nat.mul_le_mul_right _ h.2.2
    exact ⟨by simp only [Pc.d, wd_tup, D.wds]; omega, by simp only [Pc.d, show 2 * (d + 1) + 6 = 2 * d + 6 + 1 + 1 by omega, ft_tup, D.fts, ft_le a4 (show 2 * 1 + 3 ≤ 2 * d + 6 + 1 by omega), b4, c4, ft_w "if" (2 * d + 6 + 1) (by simp), Bool.and_self]⟩
  | .only n a, d + 1, h => by
    simp only [Pc.ok, Bool.and_eq_true, decide_eq_true_eq] at h
    obtain ⟨b3, b4⟩ := Pcs.bd hg a d h.2.1
    have h1 := gd_wd h.1.2
    have h3 := wd_w "only" (by simp)
    have hp : 1 ≤ 5 ^ d := Nat.pow_pos (by omega)
    have e1 : 5 ^ (d + 1) = 5 * 5 ^ d := by rw [Nat.pow_succ]; omega
    have m2 : a.len * (2000 * 5 ^ d + 2) ≤ 2 * (2000 * 5 ^ d + 2) := Nat.mul_le_mul_right _ h.2.2
    exact ⟨by simp only [Pc.d, wd_tup, D.wds]; omega, by simp only [Pc.d, show 2 * (d + 1) + 6 = 2 * d + 6 + 1 + 1 by omega, ft_tup, D.fts, gd_ft h.1.2, b4, ft_w "only" (2 * d + 6 + 1) (by simp), Bool.and_self]⟩
theorem Pcs.bd {w : Wp} (hg : Gw w) {on : Bool} : ∀ (t : Pcs) (d : Nat), t.ok w on d = true → D.wds t.ds ≤ t.len * (2000 * 5 ^ d + 2) ∧ D.fts (2 * d + 6) t.ds = true
  | .nil, d, h => by simp [Pcs.ds, D.wds, D.fts]
  | .cons t r, d, h => by
    simp only [Pcs.ok, Bool.and_eq_true] at h
    obtain ⟨a3, a4⟩ := Pc.bd hg t d h.1
    obtain ⟨b3, b4⟩ := Pcs.bd hg r d h.2
    exact ⟨by simp only [Pcs.ds, D.wds, Pcs.len, Nat.add_mul, Nat.one_mul] at *; omega, by simp only [Pcs.ds, D.fts, a4, b4, Bool.and_self]⟩
end
theorem Ac.bd {w : Wp} (hg : Gw w) (a : Ac) (h : a.ok w = true) : a.d.wd ≤ 600 ∧ a.d.ft 4 = true := by
  cases a with
  | set n s =>
    simp only [Ac.ok, Bool.and_eq_true] at h
    obtain ⟨a3, a4⟩ := Sm.bd hg s 2 h.2
    have k1 := hg.nu n h.1
    have h1 := gd_wd k1
    have h3 := wd_w "set" (by simp)
    exact ⟨by simp only [Ac.d, wd_tup, D.wds]; omega, by simp only [Ac.d, ft_tup, D.fts, gd_ft k1, ft_w "set" 3 (by simp), a4, Bool.and_self]⟩
  | draw n =>
    have k1 := hg.nu n (by simpa only [Ac.ok] using h)
    have h1 := gd_wd k1
    have h3 := wd_w "draw" (by simp)
    exact ⟨by simp only [Ac.d, wd_tup, D.wds]; omega, by simp only [Ac.d, ft_tup, D.fts, gd_ft k1, ft_w "draw" 3 (by simp), Bool.and_self]⟩
  | leave n =>
    have k1 := hg.fi n (by simpa only [Ac.ok] using h)
    have h1 := gd_wd k1
    have h3 := wd_w "leave" (by simp)
    exact ⟨by simp only [Ac.d, wd_tup, D.wds]; omega, by simp only [Ac.d, ft_tup, D.fts, gd_ft k1, ft_w "leave" 3 (by simp), Bool.and_self]⟩
  | go x y =>
    simp only [Ac.ok, Bool.and_eq_true] at h
    have k1 := hg.fi x h.1
    have k2 := hg.pl y h.2
    have h1 := gd_wd k1
    have h2 := gd_wd k2
    have h3 := wd_w "go" (by simp)
    exact ⟨by simp only [Ac.d, wd_tup, D.wds]; omega, by simp only [Ac.d, ft_tup, D.fts, gd_ft k1, gd_ft k2, ft_w "go" 3 (by simp), Bool.and_self]⟩
  | put x y =>
    simp only [Ac.ok, Bool.and_eq_true] at h
    have k1 := hg.fi x h.1
    have k2 := hg.pl y h.2
    have h1 := gd_wd k1
    have h2 := gd_wd k2
    have h3 := wd_w "put" (by simp)
    exact ⟨by simp only [Ac.d, wd_tup, D.wds]; omega, by simp only [Ac.d, ft_tup, D.fts, gd_ft k1, gd_ft k2, ft_w "put" 3 (by simp), Bool.and_self]⟩
  | join x y =>
    simp only [Ac.ok, Bool.and_eq_true] at h
    have k1 := hg.fi x h.1
    have k2 := hg.fi y h.2
    have h1 := gd_wd k1
    have h2 := gd_wd k2
    have h3 := wd_w "join" (by simp)
    exact ⟨by simp only [Ac.d, wd_tup, D.wds]; omega, by simp only [Ac.d, ft_tup, D.fts, gd_ft k1, gd_ft k2, ft_w "join" 3 (by simp), Bool.and_self]⟩
theorem acs_bd {w : Wp} (hg : Gw w) : ∀ as : List Ac, as.all (Ac.ok w) = true → D.wds (as.map Ac.d) ≤ 602 * as.length ∧ D.fts 4 (as.map Ac.d) = true
  | [], _ => by simp [D.wds, D.fts]
  | a :: as, h => by
    simp only [List.all_cons, Bool.and_eq_true] at h
    obtain ⟨a3, a4⟩ := Ac.bd hg a h.1
    obtain ⟨b3, b4⟩ := acs_bd hg as h.2
    exact ⟨by simp only [List.map_cons, D.wds, List.length_cons]; omega, by simp only [List.map_cons, D.fts, a4, b4, Bool.and_self]⟩
theorem Nx.bd {w : Wp} (hg : Gw w) (a : Nx) (h : a.ok w = true) : a.d.wd ≤ 100 ∧ a.d.ft 4 = true := by
  cases a with
  | back =>
    have h3 := wd_w "back" (by simp)
    exact ⟨by simp only [Nx.d, wd_tup, D.wds]; omega, by simp only [Nx.d, ft_tup, D.fts, ft_w "back" 3 (by simp), Bool.and_self]⟩
  | into x y =>
    simp only [Nx.ok, Bool.and_eq_true] at h
    have k1 := hg.sc x h.1
    have k2 := hg.sc y h.2
    have h1 := gd_wd k1
    have h2 := gd_wd k2
    have h3 := wd_w "into" (by simp)
    exact ⟨by simp only [Nx.d, wd_tup, D.wds]; omega, by simp only [Nx.d, ft_tup, D.fts, gd_ft k1, gd_ft k2, ft_w "into" 3 (by simp), Bool.and_self]⟩
  | to n =>
    have k1 := hg.sc n (by simpa only [Nx.ok] using h)
    have h1 := gd_wd k1
    have h3 := wd_w "to" (by simp)
    exact ⟨by simp only [Nx.d, wd_tup, D.wds]; omega, by simp only [Nx.d, ft_tup, D.fts, gd_ft k1, ft_w "to" 3 (by simp), Bool.and_self]⟩
theorem bl_wd (b : Bool) : (D.bl b).wd = 5 := by simp only [D.wd]
theorem bl_ft (b : Bool) (n : Nat) : (D.bl b).ft n = true := by cases n <;> simp only [D.ft]
theorem Ch.bd {w : Wp} (hg : Gw w) (c : Ch) (h : c.ok w = true) : c.d.wd ≤ 26000 ∧ c.d.ft 10 = true := by
  obtain ⟨nm, lb, te, on, as, nx⟩ := c
  simp only [Ch.ok, Bool.and_eq_true, decide_eq_true_eq] at h
  obtain ⟨⟨⟨⟨g1, g2, g3⟩, g4⟩, g5, g6⟩, g7⟩ := h
  obtain ⟨b3, b4⟩ := Pcs.bd hg lb 1 g2
  obtain ⟨t3, t4⟩ := Te.bd hg te 2 g4
  obtain ⟨c3, c4⟩ := acs_bd hg as g5
  obtain ⟨d2, d3⟩ := Nx.bd hg nx g7
  have h1 := gd_wd g1
  have m2 : lb.len * (2000 * 5 ^ 1 + 2) ≤ 2 * (2000 * 5 ^ 1 + 2) := Nat.mul_le_mul_right _ g3
  have h5 := bl_wd on
  exact ⟨by simp only [Ch.d, wd_tup, D.wds]; omega, by simp only [Ch.d, ft_tup, D.fts, gd_ft g1, bl_ft, fts_le b4 (show 2 * 1 + 6 ≤ 8 by omega), ft_le t4 (show 2 * 2 + 3 ≤ 9 by omega), fts_le c4 (show 4 ≤ 8 by omega), ft_le d3 (show 4 ≤ 9 by omega), Bool.and_self]⟩
theorem chs_bd {w : Wp} (hg : Gw w) : ∀ as : List Ch, as.all (Ch.ok w) = true → D.wds (as.map Ch.d) ≤ 26002 * as.length ∧ D.fts 10 (as.map Ch.d) = true
  | [], _ => by simp [D.wds, D.fts]
  | a :: as, h => by
    simp only [List.all_cons, Bool.and_eq_true] at h
    obtain ⟨a3, a4⟩ := Ch.bd hg a h.1
    obtain ⟨b3, b4⟩ := chs_bd hg as h.2
    exact ⟨by simp only [List.map_cons, D.wds, List.length_cons]; omega, by simp only [List.map_cons, D.fts, a4, b4, Bool.and_self]⟩
theorem strs_bd : ∀ xs : List Str, (∀ x ∈ xs, gd x = true) → D.wds (xs.map .str) ≤ 22 * xs.length ∧ ∀ n, D.fts n (xs.map .str) = true
  | [], _ => by simp [D.wds, D.fts]
  | a :: as, h => by
    have k1 := h a (List.mem_cons_self ..)
    have h1 := gd_wd k1
    obtain ⟨b1, b2⟩ := strs_bd as (fun x hx => h x (List.mem_cons_of_mem _ hx))
    exact ⟨by simp only [List.map_cons, D.wds, List.length_cons]; omega, fun n => by simp only [List.map_cons, D.fts, gd_ft k1, b2, Bool.and_self]⟩
theorem oStr_bd (o : Option Str) (h : oStrOk o = true) : (oStr o).wd ≤ 20 ∧ ∀ n, (oStr o).ft n = true := by
  cases o with
  | none => exact ⟨by simp [oStr, D.wd], fun n => by cases n <;> simp [oStr, D.ft]⟩
  | some x => exact ⟨gd_wd h, fun n => gd_ft h n⟩
theorem Sc.bd {w : Wp} (hg : Gw w) (c : Sc) (hn : w.sc.length ≤ 1000) (h : c.ok w = true) : c.d.wd ≤ 210000 ∧ c.d.ft 15 = true := by
  obtain ⟨nm, ps, cs, wv, en⟩ := c
  simp only [Sc.ok, Bool.and_eq_true, decide_eq_true_eq] at h
  obtain ⟨⟨⟨⟨g1, g2, g3⟩, g4, g5⟩, g6, g7⟩, g8⟩ := h
  obtain ⟨b3, b4⟩ := Pcs.bd hg ps 2 g2
  obtain ⟨c3, c4⟩ := chs_bd hg cs g4
  obtain ⟨d1, d2⟩ := strs_bd wv (fun x hx => hg.sc x (List.all_eq_true.mp g6 x hx))
  obtain ⟨e1, e2⟩ := oStr_bd en g8
  have h1 := gd_wd g1
  have m2 : ps.len * (2000 * 5 ^ 2 + 2) ≤ 2 * (2000 * 5 ^ 2 + 2) := Nat.mul_le_mul_right _ g3
  exact ⟨by simp only [Sc.d, wd_tup, D.wds]; omega, by simp only [Sc.d, ft_tup, D.fts, gd_ft g1, fts_le b4 (show 2 * 2 + 6 ≤ 13 by omega), fts_le c4 (show 10 ≤ 13 by omega), d2, e2, Bool.and_self]⟩
theorem map_bd {α : Type} (f : α → D) (m n : Nat) : ∀ as : List α, (∀ a ∈ as, (f a).wd ≤ m ∧ (f a).ft n = true) → D.wds (as.map f) ≤ (m + 2) * as.length ∧ D.fts n (as.map f) = true
  | [], _ => by simp [D.wds, D.fts]
  | a :: as, h => by
    obtain ⟨a3, a4⟩ := h a (List.mem_cons_self ..)
    obtain ⟨b3, b4⟩ := map_bd f m n as (fun x hx => h x (List.mem_cons_of_mem _ hx))
    exact ⟨by simp only [List.map_cons, D.wds, List.length_cons, Nat.mul_succ]; omega, by simp only [List.map_cons, D.fts, a4, b4, Bool.and_self]⟩
end Ev
end EvBd2
section QF11
namespace Ev
open PySem
def Pf (d : D) : Prop := d.wd ≤ 20000 ∧ d.ft 50 = true
def Sf (c : Sc) : Prop := c.d.wd ≤ 210000 ∧ c.d.ft 15 = true
structure Ty.ok (t : Ty) : Prop where
  gr : Gr t.ss t.bg
  ft : t.d.ft 60 = true
  wd : t.d.wd ≤ 16777216
theorem Ty.mk_ok {t : Ty} (h0 : Pf t.p0) (h1 : Pf t.p1) (h2 : Pf t.p2) (h3 : Pf t.p3) (h4 : Pf t.p4) (hs : ∀ s ∈ t.ss, Sf s) (g : Gr t.ss t.bg) : t.ok := by
  obtain ⟨f1, f2⟩ := map_bd Sc.d 210000 15 t.ss hs
  have hb := g.gd g.bg
  have b1 := gd_wd hb
  have b2 := gd_ft hb
  have l := g.few
  have m1 : 210002 * t.ss.length ≤ 210002 * 8 := Nat.mul_le_mul_left _ l
  have := h0.1; have := h1.1; have := h2.1; have := h3.1; have := h4.1
  refine ⟨g, ?_, ?_⟩
  · simp only [Ty.d, show (60 : Nat) = 58 + 1 + 1 from rfl, ft_tup, D.fts, ft_le h0.2 (show 50 ≤ 58 + 1 by omega), ft_le h1.2 (show 50 ≤ 58 + 1 by omega), ft_le h2.2 (show 50 ≤ 58 + 1 by omega), ft_le h3.2 (show 50 ≤ 58 + 1 by omega), ft_le h4.2 (show 50 ≤ 58 + 1 by omega), fts_le f2 (show 15 ≤ 58 by omega), b2, Bool.and_self]
  · simp only [Ty.d, wd_tup, D.wds]; omega
/-- scenes with the same names that lead to no more -/
theorem Gr.less {ss ss' : List Sc} {bg bg' : Str} (g : Gr ss bg) (hn : ss'.map (·.name) = ss.map (·.name)) (ho : ∀ c ∈ ss', ∃ s ∈ ss, (∀ y ∈ c.outs, y ∈ s.outs) ∧ c.choices.length ≤ s.choices.length ∧ c.woven.length ≤ s.woven.length) (hb : bg' ∈ ss.map (·.name)) : Gr ss' bg' where
  nd := by rw [hn]; exact g.nd
  cl := fun c hc y hy => by
    obtain ⟨s, hs, h1, _⟩ := ho c hc
    rw [hn]; exact g.cl s hs y (h1 y hy)
  few := by have := congrArg List.length hn; rw [List.length_map, List.length_map] at this; have := g.few; omega
  lo := fun c hc => by
    obtain ⟨s, hs, _, h2, h3⟩ := ho c hc
    have := g.lo s hs; omega
  ok := fun c hc => by
    have : c.name ∈ ss.map (·.name) := by rw [← hn]; exact List.mem_map_of_mem hc
    exact g.gd this
  bg := by rw [hn]; exact hb
def Sc.bare (c : Sc) : Sc := ⟨c.name, c.pieces, [], c.woven, c.ending⟩
theorem Sf.bare {c : Sc} (h : Sf c) : Sf c.bare := by
  obtain ⟨h1, h2⟩ := h
  unfold Sf Sc.bare
  simp only [Sc.d, wd_tup, D.wds, List.map_nil] at h1 ⊢
  simp only [Sc.d, show (15 : Nat) = 13 + 1 + 1 from rfl, ft_tup, D.fts, Bool.and_eq_true, List.map_nil] at h2 ⊢
  exact ⟨by omega, h2.1, h2.2.1, trivial, h2.2.2.2⟩
theorem bare_less (c : Sc) : (∀ y ∈ c.bare.outs, y ∈ c.outs) ∧ c.bare.choices.length ≤ c.choices.length ∧ c.bare.woven.length ≤ c.woven.length := by
  refine ⟨fun y hy => ?_, Nat.zero_le _, Nat.le_refl _⟩
  simp only [Sc.outs, Sc.nx, Sc.bare, List.flatMap_nil, List.nil_append] at hy
  exact List.mem_append_right _ hy
/-- the tale's own -/
def tlT (t : Tl) : Ty := ⟨.tup (t.rows.map rowD), .tup (t.places.map .str), .tup (t.doors.map prD), .tup (t.folk.map prD), .tup (t.digits.map .int), t.scenes, t.begin⟩
theorem tlT_d (t : Tl) : (tlT t).d = t.d := rfl
theorem Nx.ok_ns {w : Wp} {n : Nx} (h : n.ok w = true) : ∀ y ∈ n.ns, y ∈ w.sc := by
  cases n with
  | back => intro y hy; cases hy
  | into a b =>
    simp only [Nx.ok, Bool.and_eq_true, decide_eq_true_eq] at h
    intro y hy
    simp only [Nx.ns, List.mem_cons, List.not_mem_nil, or_false] at hy
    rcases hy with rfl | rfl
    · exact h.1
    · exact h.2
  | to a =>
    simp only [Nx.ok, decide_eq_true_eq] at h
    intro y hy
    rw [List.mem_singleton.mp hy]; exact h
theorem Sc.ok_outs {w : Wp} {c : Sc} (h : c.ok w = true) : ∀ y ∈ c.outs, y ∈ w.sc := by
  simp only [Sc.ok, Bool.and_eq_true, decide_eq_true_eq] at h
  obtain ⟨⟨⟨_, g4, g5⟩, g6, g7⟩, g8⟩ := h
  intro y hy
  simp only [Sc.outs, Sc.nx] at hy
  rcases List.mem_append.mp hy with z | z
  · obtain ⟨a, ha, z⟩ := List.mem_flatMap.mp z
    have := List.all_eq_true.mp g4 a ha
    simp only [Ch.ok, Bool.and_eq_true] at this
    exact Nx.ok_ns this.2 y z
  · exact of_decide_eq_true (List.all_eq_true.mp g6 y z)
theorem tl_gr {t : Tl} {w : Wp} (h : t.ok w) (hnd : w.sc.Nodup) {bg : Str} (hb : bg ∈ w.sc) : Gr t.scenes bg where
  nd := by rw [h.scenes.1]; exact hnd
  cl := fun s hs y hy => by rw [h.scenes.1]; exact Sc.ok_outs (h.scenes.2 s hs) y hy
  few := by
    have := congrArg List.length h.scenes.1
    rw [List.length_map] at this
    have := h.few.1
    omega
  lo := fun s hs => by
    have h1 := h.scenes.2 s hs
    simp only [Sc.ok, Bool.and_eq_true, decide_eq_true_eq] at h1
    have := h.few.1
    omega
  ok := fun s hs => h.ga.2 _ (by rw [← h.scenes.1]; exact List.mem_map_of_mem hs)
  bg := by rw [h.scenes.1]; exact hb
theorem tl_pf {t : Tl} {w : Wp} (h : t.ok w) : Pf (tlT t).p0 ∧ Pf (tlT t).p1 ∧ Pf (tlT t).p2 ∧ Pf (tlT t).p3 ∧ Pf (tlT t).p4 ∧ ∀ s ∈ t.scenes, Sf s := by
  have hG : Gw w := Gw.of h.ga h.gb h.gc h.gdd
  obtain ⟨n1, n2, n3, n4⟩ := h.few
  have lr := congrArg List.length h.rows.1
  have lf := congrArg List.length h.folk.1
  rw [List.length_map] at lr lf
  have hp : ∀ x ∈ w.pl, gd x = true := fun x hx => hG.pl x (decide_eq_true hx)
  have prb : ∀ p : Str × Str, gd p.1 = true → gd p.2 = true → (prD p).wd ≤ 60 ∧ (prD p).ft 49 = true := fun p a b => by
    have := gd_wd a; have := gd_wd b
    refine ⟨by simp only [prD, wd_tup, D.wds]; omega, ?_⟩
    simp only [prD, show (49 : Nat) = 48 + 1 from rfl, ft_tup, D.fts, gd_ft a, gd_ft b, Bool.and_self]
  obtain ⟨r1, r2⟩ := map_bd rowD 100 49 t.rows (fun r hr => by
    have hn : gd r.1 = true := hG.nu _ (decide_eq_true (by rw [← h.rows.1]; exact List.mem_map_of_mem hr))
    obtain ⟨g1, g2⟩ := h.rows.2 r hr
    have a1 := gd_wd hn
    obtain ⟨b1, b2⟩ := int_wd g1
    obtain ⟨c1, c2⟩ := int_wd (show (-100 : Int) ≤ r.2.2 ∧ r.2.2 ≤ 100 by omega)
    obtain ⟨d1, d2⟩ := int_wd (show (-100 : Int) ≤ 0 ∧ (0 : Int) ≤ 100 by omega)
    refine ⟨by simp only [rowD, wd_tup, D.wds]; omega, ?_⟩
    simp only [rowD, show (49 : Nat) = 48 + 1 from rfl, ft_tup, D.fts, gd_ft hn, b2, c2, d2, Bool.and_self])
  obtain ⟨p1, p2⟩ := strs_bd t.places (fun x hx => hp x (by rw [← h.places]; exact hx))
  obtain ⟨d1, d2⟩ := map_bd prD 60 49 t.doors (fun p hp' => prb p (hp _ (h.doors.1 p hp').1) (hp _ (h.doors.1 p hp').2))
  obtain ⟨f1, f2⟩ := map_bd prD 60 49 t.folk (fun p hp' => prb p (hG.fi _ (decide_eq_true (by rw [← h.folk.1]; exact List.mem_map_of_mem hp'))) (hp _ (h.folk.2 p hp')))
  obtain ⟨i1, i2⟩ := map_bd D.int 10 49 t.digits (fun i hi => by
    have := h.digits.1 i hi
    obtain ⟨a, b⟩ := int_wd (show (-100 : Int) ≤ i ∧ i ≤ 100 by omega)
    exact ⟨a, b _⟩)
  have l3 := h.doors.2
  have l4 := h.digits.2
  have l5 : t.places.length ≤ 3 := by rw [h.places]; exact n3
  refine ⟨⟨?_, ?_⟩, ⟨?_, ?_⟩, ⟨?_, ?_⟩, ⟨?_, ?_⟩, ⟨?_, ?_⟩, fun s hs => Sc.bd hG s (by omega) (h.scenes.2 s hs)⟩
  · simp only [tlT, wd_tup]; omega
  · simp only [tlT, show (50 : Nat) = 49 + 1 from rfl, ft_tup, r2]
  · simp only [tlT, wd_tup]; omega
  · simp only [tlT, show (50 : Nat) = 49 + 1 from rfl, ft_tup, p2]
  · simp only [tlT, wd_tup]; omega
  · simp only [tlT, show (50 : Nat) = 49 + 1 from rfl, ft_tup, d2]
  · simp only [tlT, wd_tup]; omega
  · simp only [tlT, show (50 : Nat) = 49 + 1 from rfl, ft_tup, f2]
  · simp only [tlT, wd_tup]; omega
  · simp only [tlT, show (50 : Nat) = 49 + 1 from rfl, ft_tup, i2]
/-! the tale with another beginning; without choices; with those of its first scene alone -/
def Ty.at (t : Ty) (x : Str) : Ty := { t with bg := x }
def Ty.bare (t : Ty) : Ty := { t with ss := t.ss.map Sc.bare }
def Ty.half (t : Ty) : Ty := { t with ss := t.ss.take 1 ++ (t.ss.map Sc.bare).tail }
theorem half_names (ss : List Sc) : (ss.take 1 ++ (ss.map Sc.bare).tail).map (·.name) = ss.map (·.name) := by
  cases ss with
  | nil => rfl
  | cons s ss => simp [Sc.bare, Function.comp_def]
theorem half_mem {ss : List Sc} {c : Sc} (h : c ∈ ss.take 1 ++ (ss.map Sc.bare).tail) : c ∈ ss ∨ ∃ s ∈ ss, c = s.bare := by
  rcases List.mem_append.mp h with h | h
  · exact .inl (List.mem_of_mem_take h)
  · obtain ⟨s, hs, e⟩ := List.mem_map.mp (List.mem_of_mem_tail h)
    exact .inr ⟨s, hs, e.symm⟩
theorem tl_oks {t : Tl} {w : Wp} (h : t.ok w) (hnd : w.sc.Nodup) : (∀ x ∈ w.sc, ((tlT t).at x).ok) ∧ (tlT t).bare.ok ∧ (tlT t).half.ok := by
  obtain ⟨h0, h1, h2, h3, h4, hs⟩ := tl_pf h
  have g := tl_gr h hnd h.begin
  have hb := g.bg
  refine ⟨fun x hx => Ty.mk_ok h0 h1 h2 h3 h4 hs (tl_gr h hnd hx), ?_, ?_⟩
  · refine Ty.mk_ok h0 h1 h2 h3 h4 (fun c hc => ?_) (g.less ?_ (fun c hc => ?_) hb)
    · obtain ⟨s, hs', rfl⟩ := List.mem_map.mp hc; exact (hs s hs').bare
    · show (t.scenes.map Sc.bare).map _ = _
      rw [List.map_map]; rfl
    · obtain ⟨s, hs', rfl⟩ := List.mem_map.mp hc; exact ⟨s, hs', bare_less s⟩
  · refine Ty.mk_ok h0 h1 h2 h3 h4 (fun c hc => ?_) (g.less (half_names _) (fun c hc => ?_) hb)
    · rcases half_mem hc with z | ⟨s, hs', rfl⟩
      · exact hs c z
      · exact (hs s hs').bare
    · rcases half_mem hc with z | ⟨s, hs', rfl⟩
      · exact ⟨c, z, fun y hy => hy, Nat.le_refl _, Nat.le_refl _⟩
      · exact ⟨s, hs', bare_less s⟩
/-! the chains -/
def reachN (ss : List Sc) (bg : Str) : Nat → List Str
  | 0 => [bg]
  | n + 1 => reachN ss bg n ++ (ss.filter fun s => decide (s.name ∈ reachN ss bg n)).flatMap Sc.outs
theorem reach_ok {ss : List Sc} {bg : Str} : ∀ (n : Nat) (x : Str), x ∈ reachN ss bg n → Rch ss bg x
  | 0, x, h => by rw [List.mem_singleton.mp h]; exact .base
  | n + 1, x, h => by
    rcases List.mem_append.mp h with z | z
    · exact reach_ok n x z
    · obtain ⟨s, hs, z⟩ := List.mem_flatMap.mp z
      obtain ⟨h1, h2⟩ := List.mem_filter.mp hs
      exact .step h1 (reach_ok n _ (of_decide_eq_true h2)) z
def closB (ss : List Sc) (l : List Str) : Bool := ss.all fun s => !decide (s.name ∈ l) || s.outs.all fun y => decide (y ∈ l)
theorem clos_ok {ss : List Sc} {bg : Str} {l : List Str} (h : closB ss l = true) (hb : bg ∈ l) {x : Str} (r : Rch ss bg x) : x ∈ l := by
  induction r with
  | base => exact hb
  | @step s y hs _ hy ih =>
    have := List.all_eq_true.mp h s hs
    simp only [Bool.or_eq_true, Bool.not_eq_true', decide_eq_false_iff_not] at this
    rcases this with z | z
    · exact absurd ih z
    · exact of_decide_eq_true (List.all_eq_true.mp z y hy)
theorem loose_is {t : Ty} {fd : List Str} (h : ∀ x, x ∈ fd ↔ Rch t.ss t.bg x) (hc : closB t.ss (reachN t.ss t.bg 8) = true) (hb : decide (t.bg ∈ reachN t.ss t.bg 8) = true) : t.loose fd = t.loose (reachN t.ss t.bg 8) := by
  unfold Ty.loose
  refine List.filter_congr fun x _ => ?_
  congr 1
  refine decide_eq_decide.mpr ?_
  rw [h]
  exact ⟨fun r => clos_ok hc (of_decide_eq_true hb) r, reach_ok 8 x⟩
def grB (ss : List Sc) (bg : Str) : Bool := decide ((ss.map (·.name)).Nodup) && ss.all (fun s => s.outs.all fun y => decide (y ∈ ss.map (·.name))) && decide (ss.length ≤ 8) && ss.all (fun s => decide (s.choices.length ≤ 3 ∧ s.woven.length ≤ 8)) && ss.all (fun s => gd s.name) && decide (bg ∈ ss.map (·.name))
theorem grB_ok {ss : List Sc} {bg : Str} (h : grB ss bg = true) : Gr ss bg := by
  simp only [grB, Bool.and_eq_true, decide_eq_true_eq, List.all_eq_true] at h
  obtain ⟨⟨⟨⟨⟨h1, h2⟩, h3⟩, h4⟩, h5⟩, h6⟩ := h
  exact ⟨h1, h2, h3, h4, h5, h6⟩
def tyB (t : Ty) : Bool := grB t.ss t.bg && t.d.ft 60 && decide (t.d.wd ≤ 16777216)
theorem tyB_ok {t : Ty} (h : tyB t = true) : t.ok := by
  simp only [tyB, Bool.and_eq_true, decide_eq_true_eq] at h
  exact ⟨grB_ok h.1.1, h.1.2, h.2⟩
def Sc.shut (c : Sc) : Sc := { c with ending := some "x" }
def chCut (w : Nat) : List Sc := ((chT w).ss.take 4 ++ [⟨nm 4, .nil, [], [], none⟩]) ++ (chT w).ss.drop 5
def cutT (w : Nat) (x : Str) : Ty := { chT w with ss := chCut w, bg := x }
def shutT (w : Nat) : Ty := { chT w with ss := (chT w).ss.map Sc.shut }
theorem chs_ok : ∀ w : Fin 4, tyB (chT w) = true ∧ tyB ((chT w).at "d") = true ∧ tyB (cutT w "a") = true ∧ tyB (cutT w "g") = true ∧ tyB (shutT w) = true := by decide +kernel
def oneT : Ty := ⟨.tup [], .tup [], .tup [], .tup [], .tup [], [⟨"a", .nil, [], [], some "x"⟩], "a"⟩
theorem one_ok : tyB oneT = true := by decide +kernel
theorem chs_loose : ∀ w : Fin 4, closB (chT w).ss (reachN (chT w).ss "a" 8) = true ∧ closB (chT w).ss (reachN (chT w).ss "d" 8) = true ∧ (chT w).loose (reachN (chT w).ss "a" 8) = (["b", "d", "f", "h"] : List Str) ∧ (chT w).loose (reachN (chT w).ss "d" 8) = (["a", "c", "e", "g"] : List Str) ∧ decide (("a" : Str) ∈ reachN (chT w).ss "a" 8) = true ∧ decide (("d" : Str) ∈ reachN (chT w).ss "d" 8) = true := by decide +kernel
end Ev
end QF11
section QG11
namespace Ev
open PySem
theorem cut_take {α : Type} (xs : List α) (n : Nat) : cut xs none (some (n : Int)) = xs.take n := by
  rw [cut, HT.sIx_none, HT.sIx_nat, List.drop_zero, Nat.sub_zero]
  by_cases h : n ≤ xs.length
  · rw [Nat.min_eq_left h]
  · rw [Nat.min_eq_right (by omega), List.take_of_length_le (Nat.le_refl _), List.take_of_length_le (by omega)]
theorem cut_drop {α : Type} (xs : List α) (n : Nat) : cut xs (some (n : Int)) none = xs.drop n := by
  rw [cut, HT.sIx_none, HT.sIx_nat]
  by_cases h : n ≤ xs.length
  · rw [Nat.min_eq_left h, List.take_of_length_le (by rw [List.length_drop]; exact Nat.le_refl _)]
  · rw [Nat.min_eq_right (by omega), Nat.sub_self, List.take_zero, List.drop_of_length_le (by omega)]
theorem cut_take1 {α : Type} (xs : List α) : cut xs none (some 1) = xs.take 1 := cut_take xs 1
theorem cut_take4 {α : Type} (xs : List α) : cut xs none (some 4) = xs.take 4 := cut_take xs 4
theorem cut_drop5 {α : Type} (xs : List α) : cut xs (some 5) none = xs.drop 5 := cut_drop xs 5
theorem eqRv_same (E : Eh) (ds : List D) (h : (D.tup ds).ft 60 = true) : eqRv E (.val (.tup ds)) (.val (.tup ds)) = some true := by
  obtain ⟨h1, h2, h3⟩ := ft_can _ _ h
  have h5 : SeqAt.shaped (D.tup ds).pd = true := by
    unfold SeqAt.shaped
    rw [h1, Bool.true_and, decide_eq_true_eq]
    omega
  have h6 : PyData.eqv (D.tup ds).pd (D.tup ds).pd = true := SeqAt.eqv_refl _ h1
  simp only [eqRv, toPr, toP_pd E _ 60 80 h (by omega), h5, h6, Bool.and_self, if_true]
theorem ty_c5 (t : Ty) : cut [t.p0, t.p1, t.p2, t.p3, t.p4, D.tup (t.ss.map Sc.d), D.str t.bg] none (some 5) = [t.p0, t.p1, t.p2, t.p3, t.p4] := rfl
theorem ty_c6 (t : Ty) : cut [t.p0, t.p1, t.p2, t.p3, t.p4, D.tup (t.ss.map Sc.d), D.str t.bg] none (some 6) = [t.p0, t.p1, t.p2, t.p3, t.p4, D.tup (t.ss.map Sc.d)] := rfl
theorem ty_a6 (t : Ty) : L2.atI [t.p0, t.p1, t.p2, t.p3, t.p4, D.tup (t.ss.map Sc.d), D.str t.bg] 6 = some (D.str t.bg) := rfl
theorem sc_c2 (c : Sc) : cut [D.str c.name, .tup c.pieces.ds, .tup (c.choices.map Ch.d), .tup (c.woven.map .str), oStr c.ending] none (some 2) = [D.str c.name, .tup c.pieces.ds] := rfl
theorem sc_c3 (c : Sc) : cut [D.str c.name, .tup c.pieces.ds, .tup (c.choices.map Ch.d), .tup (c.woven.map .str), oStr c.ending] (some 3) none = [.tup (c.woven.map .str), oStr c.ending] := rfl
theorem sc_c4 (c : Sc) : cut [D.str c.name, .tup c.pieces.ds, .tup (c.choices.map Ch.d), .tup (c.woven.map .str), oStr c.ending] none (some 4) = [D.str c.name, .tup c.pieces.ds, .tup (c.choices.map Ch.d), .tup (c.woven.map .str)] := rfl
theorem lc_mapN {α : Type} (cf : Cf) (b j n : Nat) (hjn : j < n) (e : Ex) (f g : α → D) (as : List α) (hl : as.length ≤ 16777216) (σ : Sd) (E : Eh) (hn : n ≤ σ.length)
    (h : ∀ a ∈ as, eltF cf b e (σ.set j (some (f a))) E = some (g a, E)) :
    lcL (asgT (.nm j)) (cndF cf b .none) (eltF cf b e) (chk none) σ (as.map f) [] E = some (as.map g, E) := by
  have := lcL_map (asgT (.nm j)) (cndF cf b .none) (eltF cf b e) none σ E rfl f (fun a => σ.set j (some (f a))) g as [] (by simp only [List.length_nil]; omega) (fun a _ => by rw [a_nm]) (fun a _ => by rw [cndF, ec_none]) h
  rw [List.nil_append] at this
  exact this
theorem loose_repr {t : Ty} (g : Gr t.ss t.bg) (fd : List Str) (E : Eh) : reprB E [.val (.tup ((t.loose fd).map .str))] = some (.val (.str (shw (.tup ((t.loose fd).map .str))))) := by
  have hm : ∀ x ∈ t.loose fd, Ev.gd x = true := fun x hx => g.gd (List.mem_filter.mp hx).1
  obtain ⟨a, b⟩ := strs_bd _ hm
  have l : (t.loose fd).length ≤ 8 := by
    have := g.few
    have h2 : (t.loose fd).length ≤ (t.ss.map (·.name)).length := List.length_filter_le ..
    rw [List.length_map] at h2; omega
  exact reprB_any E _ (by rw [show (60 : Nat) = 59 + 1 from rfl, ft_tup]; exact b 59) (by rw [wd_tup]; omega)
end Ev
open PySem Ev
local macro_rules | `(tactic| walk_at "ev") => `(tactic| simp only [bnd_some, fin_rt, fin_nx, getv_zero, getv_succ, kVal_e, kTup_e, kLst_e, kDct_e, kRv_e, kBl_e, kBo_e, kBin2_e, kBin_e, kNeg_e, kNot_e, kNotB_e, kBop_e, kCmp2_e, kCmp_e, kTst2_e, kTst_e, kIfx_t, kIfx_f, kCall_e, kCallB_e, kMeth2_e, kMeth_e, kIdx2_e, kIdx_e, kSlc3_e, kSlc2_e, kSlc_e, kRev_e, kNew_e, kReg_v, kReg_n, kLc_e, kLc2_e, kAnd_t, kAnd_f, kOr_t, kOr_f, kVarB_e, asB_bl, asBE_bl, kCallT_e, kTcall_e, kCons2_e, kCons_v, kCons_n, kRs2_e, kRs_e, kPr2_e, kPr_v, kPr_n, kL_e, getL_e, kK_e, asL_ref, s_var, s_int, s_str, s_bl, s_non, s_tup, s_lst, s_dct, s_bin, s_neg, s_not, s_bop, s_cmp, s_ifx, s_call, s_callB, s_meth, s_idx, s_slc, s_rev, s_lc, s_lc2, t_not, t_bop, t_bl, t_var, t_cmp, t_call, t_callB, b_one, b_and, b_or, es_nil, es_cons, er_nil, er_cons, eo_none, asI_int, eo_some, ec_none, ec_some, ep_nil, ep_cons, asIt_dct, asIt_tup, asIt_new, kItR_e, asIt_ref, asIt_str, ei_seq, asRg_one, asRg_nat, ei_range, kEnR_e, asEn_ref, asEn_new, ei_enum, kPut_e, kAsg_v, kAsg_n, x_asg, kPar_e, x_par, kHeap_e, kSto3_e, kSto2_e, kSto_v, kSto_n, x_sto, kExpr_e, x_expr, kRet_e, x_ret, kIf_t, kIf_f, x_if, kFor_e, x_for, x_whl, x_pass, x_brk, x_cont, kSeq_nx, kSeq_rt, kSeq_bk, kSeq_ct, xs_nil, xs_cons, a_nm, a_tp, a_star, as_nil, kTs_e, as_cons, o_addi, o_adds, o_addt, o_addnn, kAddN_e, o_addrn, kAddX_e, o_addnr, kAddR_e, o_addrr, o_subi, o_muli, o_mult, o_div, o_mod, o_pow, c_lt, c_lts, c_le, c_gt, c_ge, c_is, c_isn, kNeq_e, c_eq, c_ne, c_in, c_nin, q_str, q_int, n_tup, i_tup, i_new, i_scr, kAt_e, i_ref, kLook_e, i_dct, i_dnew, l_tup, l_new, l_scr, kCut_e, l_ref, v_tup, v_new, kRvs_e, v_ref, f_len, f_tup, f_lst, f_rep, f_len_t, f_len_n, f_tup_t, f_tup_n, f_lst_t, f_lst_n, kLen_e, f_len_r, kTupB_e, f_tup_r, kLstB_e, f_lst_r, m_app, m_ext, m_pop, m_spl, kApp_e, m_app_e, kExt_e, m_ext_n, kPop_e, m_pop_e, r_app, r_ext, r_pop, kStL_e, st_lst, r_spl, kLv_t, leave_new, leave_val, kFrz_v, kFrz_l, kFrz_d, kIsi_non, kIsi_bl, kIsi_int, kIsi_str, kIsi_tup, kIsi_lst, kIsiT_non, kIsiT_bl, kIsiT_int, kIsiT_str, kIsiT_tup, kIsiT_lst, kDgA_str, kDg3_e, kDg2_e, s_frz, s_isi, t_isi, a_starF, o_addll, o_addln, o_addnl, o_addrl, o_multn, n_lst, n_new, i_lst, i_dctv, l_lst, v_lst, f_len_l, f_tup_l, f_lst_l, asIt_lst, asEn_lst, m_ext_l, f_str, f_int, f_all, f_any, f_srt, f_str_i, f_str_s, f_str_n, f_int_i, f_int_b, m_join, r_join, s_sset, s_lset, kPx2_e, kPx1_v, kPx1_n, kPx_s, kPx_i, ex_nil, ex_cons, s_dcx, kNewD_e, kDcm_e, s_dcm, f_dic, m_upd, r_upd, kUpd_e, m_upd_n, kStK_e, st_dct, kHas_e, n_dref, n_dctv, q_at, Ev.setAll, wipeD, D.low, D.lows, Rv.low, O.low, D.flat, D.eqf, D.keyOf, Ev.look, Ev.put, ofString_inj, sizeLine_eq, atI0, atI1, atI2, atI3, atI4, atI5, lows_app, isiB, lookR,
  List.map_cons, List.map_nil, List.length_cons, List.length_nil, List.getElem?_cons_zero, List.getElem?_cons_succ, List.replicate, List.cons_append, List.nil_append, List.append_nil, List.set_cons_succ, List.set_cons_zero, List.drop_succ_cons, List.drop_zero, List.take_left, List.take_length, List.all_cons, List.all_nil, List.any_cons, List.any_nil, List.getElem?_nil, List.foldl_cons, List.foldl_nil, List.zip_cons_cons, List.zip_nil_right, List.zip_nil_left, List.flatten_cons, List.flatten_nil,
  Nat.reduceAdd, Nat.reduceSub, Nat.zero_add, Nat.add_zero, Nat.reduceLeDiff, Nat.reduceLT, Int.reduceLE, Int.reduceLT, Int.reduceToNat, Int.reduceNeg, decide_true, decide_false, Bool.not_true, Bool.not_false, Bool.and_true, Bool.true_and, Bool.and_false, Bool.false_and, Bool.or_true, Bool.true_or, Bool.or_false, Bool.false_or, if_true, if_false, reduceIte, Bool.false_eq_true, String.reduceEq, and_true, true_and, and_self, reduceCtorEq, ne_eq, not_true_eq_false, not_false_eq_true, List.getElem?_append_right, Nat.sub_self, Nat.le_refl, List.length_append, grd_pos, Sum.inr.injEq, eq_self, Ev.big, Int.reduceEq, Int.reduceNe, Int.reducePow, Int.reduceMul, Int.reduceAdd, Int.reduceSub, List.length_map, List.isEmpty_nil, List.isEmpty_cons, List.set_set, take_set, List.getElem?_set_self, List.getElem?_set_ne, List.length_set, List.getElem?_append_left, Option.isSome_some, mayPut, ixN_lit])
local macro_rules | `(tactic| walk_at "evh") => `(tactic| simp only [*, bnd_some, fin_rt, fin_nx, getv_zero, getv_succ, kVal_e, kTup_e, kLst_e, kDct_e, kRv_e, kBl_e, kBo_e, kBin2_e, kBin_e, kNeg_e, kNot_e, kNotB_e, kBop_e, kCmp2_e, kCmp_e, kTst2_e, kTst_e, kIfx_t, kIfx_f, kCall_e, kCallB_e, kMeth2_e, kMeth_e, kIdx2_e, kIdx_e, kSlc3_e, kSlc2_e, kSlc_e, kRev_e, kNew_e, kReg_v, kReg_n, kLc_e, kLc2_e, kAnd_t, kAnd_f, kOr_t, kOr_f, kVarB_e, asB_bl, asBE_bl, kCallT_e, kTcall_e, kCons2_e, kCons_v, kCons_n, kRs2_e, kRs_e, kPr2_e, kPr_v, kPr_n, kL_e, getL_e, kK_e, asL_ref, s_var, s_int, s_str, s_bl, s_non, s_tup, s_lst, s_dct, s_bin, s_neg, s_not, s_bop, s_cmp, s_ifx, s_call, s_callB, s_meth, s_idx, s_slc, s_rev, s_lc, s_lc2, t_not, t_bop, t_bl, t_var, t_cmp, t_call, t_callB, b_one, b_and, b_or, es_nil, es_cons, er_nil, er_cons, eo_none, asI_int, eo_some, ec_none, ec_some, ep_nil, ep_cons, asIt_dct, asIt_tup, asIt_new, kItR_e, asIt_ref, asIt_str, ei_seq, asRg_one, asRg_nat, ei_range, kEnR_e, asEn_ref, asEn_new, ei_enum, kPut_e, kAsg_v, kAsg_n, x_asg, kPar_e, x_par, kHeap_e, kSto3_e, kSto2_e, kSto_v, kSto_n, x_sto, kExpr_e, x_expr, kRet_e, x_ret, kIf_t, kIf_f, x_if, kFor_e, x_for, x_whl, x_pass, x_brk, x_cont, kSeq_nx, kSeq_rt, kSeq_bk, kSeq_ct, xs_nil, xs_cons, a_nm, a_tp, a_star, as_nil, kTs_e, as_cons, o_addi, o_adds, o_addt, o_addnn, kAddN_e, o_addrn, kAddX_e, o_addnr, kAddR_e, o_addrr, o_subi, o_muli, o_mult, o_div, o_mod, o_pow, c_lt, c_lts, c_le, c_gt, c_ge, c_is, c_isn, kNeq_e, c_eq, c_ne, c_in, c_nin, q_str, q_int, n_tup, i_tup, i_new, i_scr, kAt_e, i_ref, kLook_e, i_dct, i_dnew, l_tup, l_new, l_scr, kCut_e, l_ref, v_tup, v_new, kRvs_e, v_ref, f_len, f_tup, f_lst, f_rep, f_len_t, f_len_n, f_tup_t, f_tup_n, f_lst_t, f_lst_n, kLen_e, f_len_r, kTupB_e, f_tup_r, kLstB_e, f_lst_r, m_app, m_ext, m_pop, m_spl, kApp_e, m_app_e, kExt_e, m_ext_n, kPop_e, m_pop_e, r_app, r_ext, r_pop, kStL_e, st_lst, r_spl, kLv_t, leave_new, leave_val, kFrz_v, kFrz_l, kFrz_d, kIsi_non, kIsi_bl, kIsi_int, kIsi_str, kIsi_tup, kIsi_lst, kIsiT_non, kIsiT_bl, kIsiT_int, kIsiT_str, kIsiT_tup, kIsiT_lst, kDgA_str, kDg3_e, kDg2_e, s_frz, s_isi, t_isi, a_starF, o_addll, o_addln, o_addnl, o_addrl, o_multn, n_lst, n_new, i_lst, i_dctv, l_lst, v_lst, f_len_l, f_tup_l, f_lst_l, asIt_lst, asEn_lst, m_ext_l, f_str, f_int, f_all, f_any, f_srt, f_str_i, f_str_s, f_str_n, f_int_i, f_int_b, m_join, r_join, s_sset, s_lset, kPx2_e, kPx1_v, kPx1_n, kPx_s, kPx_i, ex_nil, ex_cons, s_dcx, kNewD_e, kDcm_e, s_dcm, f_dic, m_upd, r_upd, kUpd_e, m_upd_n, kStK_e, st_dct, kHas_e, n_dref, n_dctv, q_at, Ev.setAll, wipeD, D.low, D.lows, Rv.low, O.low, D.flat, D.eqf, D.keyOf, Ev.look, Ev.put, ofString_inj, sizeLine_eq, atI0, atI1, atI2, atI3, atI4, atI5, lows_app, isiB, lookR,
  List.map_cons, List.map_nil, List.length_cons, List.length_nil, List.getElem?_cons_zero, List.getElem?_cons_succ, List.replicate, List.cons_append, List.nil_append, List.append_nil, List.set_cons_succ, List.set_cons_zero, List.drop_succ_cons, List.drop_zero, List.take_left, List.take_length, List.all_cons, List.all_nil, List.any_cons, List.any_nil, List.getElem?_nil, List.foldl_cons, List.foldl_nil, List.zip_cons_cons, List.zip_nil_right, List.zip_nil_left, List.flatten_cons, List.flatten_nil,
  Nat.reduceAdd, Nat.reduceSub, Nat.zero_add, Nat.add_zero, Nat.reduceLeDiff, Nat.reduceLT, Int.reduceLE, Int.reduceLT, Int.reduceToNat, Int.reduceNeg, decide_true, decide_false, Bool.not_true, Bool.not_false, Bool.and_true, Bool.true_and, Bool.and_false, Bool.false_and, Bool.or_true, Bool.true_or, Bool.or_false, Bool.false_or, if_true, if_false, reduceIte, Bool.false_eq_true, String.reduceEq, and_true, true_and, and_self, reduceCtorEq, ne_eq, not_true_eq_false, not_false_eq_true, List.getElem?_append_right, Nat.sub_self, Nat.le_refl, List.length_append, grd_pos, Sum.inr.injEq, eq_self, Ev.big, Int.reduceEq, Int.reduceNe, Int.reducePow, Int.reduceMul, Int.reduceAdd, Int.reduceSub, List.length_map, List.isEmpty_nil, List.isEmpty_cons, List.set_set, take_set, List.getElem?_set_self, List.getElem?_set_ne, List.length_set, List.getElem?_append_left, Option.isSome_some, mayPut, ixN_lit])
namespace K11
open PySem Ev
def lastB : Stms := (.cons (.asg (.tp (.cons (.nm 9) (.cons (.nm 10) .nil))) (.tup (.cons (.callB "repr" (.cons (.var 4) .nil)) (.cons (.frz (.call 15 (.cons (.var 4) .nil))) .nil)))) (.cons (.asg (.nm 11) (.callB "tuple" (.cons (.lc (.idx (.var 12) (.int 0)) (.nm 12) (.seq (.idx (.var 4) (.int 5))) (.some (.cmp .NotIn (.idx (.var 12) (.int 0)) (.var 10))) [("_law_scene_here", 12)]) .nil))) (.cons (.ife (.bop false (.cons (.cmp .NotEq (.callB "repr" (.cons (.call 1 (.cons (.var 4) .nil)) .nil)) (.callB "repr" (.cons (.var 11) .nil))) (.cons (.cmp .NotEq (.callB "repr" (.cons (.var 4) .nil)) (.var 9)) .nil))) (.cons (.ret (.bl false)) .nil) .nil) .nil)))
theorem hl4 : b_law_4 = .cons (.loop (.nm 4) (.seq (.var 2)) lastB) b_law_5 := rfl
set_option maxHeartbeats 8000000 in
theorem check_ok (k : Nat) (hk : 2 < k) (E : Eh) (t : Ty) (ht : t.ok) (a0 a1 a2 a3 a5 a6 a7 a8 o9 o10 o11 : Option D) :
    ∃ (q9 q10 q11 : Option D), bodF (callF prog 100000 k) 100000 0 lastB [a0, a1, a2, a3, some t.d, a5, a6, a7, a8, o9, o10, o11, none] E = some (.nx [a0, a1, a2, a3, some t.d, a5, a6, a7, a8, q9, q10, q11, none], E) := by
  obtain ⟨fd, hfd, e1⟩ := loose_ends 100000 k (by omega) (by omega) E t ht.gr
  obtain ⟨gd', hgd, e2⟩ := come_to 100000 k (by omega) (by omega) E t ht.gr
  have r1 : reprB E [.val t.d] = some (.val (.str (shw t.d))) := reprB_any E _ ht.ft ht.wd
  have r2 := loose_repr ht.gr fd E
  have hlc := fun (o9 : Option D) => lc_filtN (callF prog 100000 k) 0 12 13 (by omega) (.idx (.var 12) (.int 0)) (.cmp .NotIn (.idx (.var 12) (.int 0)) (.var 10)) Sc.d (fun s => .str s.name) (fun s => !decide (s.name ∈ sortS gd')) t.ss (by have := ht.gr.few; omega)
    [a0, a1, a2, a3, some t.d, a5, a6, a7, a8, o9, some (.lst ((sortS gd').map .str)), o11, none] E (by simp)
    (fun s _ => by
      have i1 := in_strs E s.name (sortS gd')
      unfold cndF
      simp only [List.set_cons_succ, List.set_cons_zero, Sc.d]
      walk_at "evh")
    (fun s _ _ => by unfold eltF; simp only [List.set_cons_succ, List.set_cons_zero, Sc.d]; walk_at "evh")
  have due : (t.ss.filter fun s => !decide (s.name ∈ sortS gd')).map (fun s => D.str s.name) = (t.loose fd).map .str := by
    unfold Ty.loose
    rw [List.filter_map, List.map_map]
    have : t.ss.filter (fun s => !decide (s.name ∈ sortS gd')) = t.ss.filter ((fun x => !decide (x ∈ fd)) ∘ fun x => x.name) := by
      refine List.filter_congr fun s _ => ?_
      show (!_) = !_
      congr 1
      refine decide_eq_decide.mpr ?_
      rw [(sortS_perm _).mem_iff, hgd, hfd]
    rw [this]; rfl
  rw [due] at hlc
  generalize (t.loose fd).map D.str = L at *
  generalize shw (.tup L) = sL at *
  generalize shw t.d = sh at *
  have td : t.d = .tup [t.p0, t.p1, t.p2, t.p3, t.p4, .tup (t.ss.map Sc.d), .str t.bg] := rfl
  clear due hfd hgd ht
  rw [td] at e1 e2 r1 hlc ⊢
  unfold bodF lastB
  walk_at "evh"
  exact ⟨_, _, _, rfl⟩
def chainB : Stms := (.cons (.asg (.nm 4) (.frz (.call 16 (.cons (.var 3) .nil)))) (.cons (.ife (.bop false (.cons (.cmp .NotEq (.call 1 (.cons (.var 4) .nil)) (.tup (.cons (.str "b") (.cons (.str "d") (.cons (.str "f") (.cons (.str "h") .nil)))))) (.cons (.cmp .NotEq (.call 1 (.cons (.frz (.bin .Add (.slc (.var 4) .none (.some (.int 6))) (.tup (.cons (.str "d") .nil)))) .nil)) (.tup (.cons (.str "a") (.cons (.str "c") (.cons (.str "e") (.cons (.str "g") .nil)))))) .nil))) (.cons (.ret (.bl false)) .nil) .nil) (.cons (.asg (.nm 5) (.frz (.bin .Add (.bin .Add (.slc (.idx (.var 4) (.int 5)) .none (.some (.int 4))) (.tup (.cons (.tup (.cons (.idx (.idx (.idx (.var 4) (.int 5)) (.int 4)) (.int 0)) (.cons (.tup .nil) (.cons (.tup .nil) (.cons (.tup .nil) (.cons .non .nil)))))) .nil))) (.slc (.idx (.var 4) (.int 5)) (.some (.int 5)) .none)))) (.cons (.asg (.nm 6) (.callB "tuple" (.cons (.lc (.frz (.bin .Add (.slc (.var 12) .none (.some (.int 4))) (.tup (.cons (.str "x") .nil)))) (.nm 12) (.seq (.idx (.var 4) (.int 5))) .none [("_law_scene_here", 12)]) .nil))) (.cons (.asg (.nm 2) (.frz (.bin .Add (.var 2) (.lst (.cons (.var 4) (.cons (.frz (.bin .Add (.slc (.var 4) .none (.some (.int 5))) (.tup (.cons (.var 5) (.cons (.str "a") .nil))))) (.cons (.frz (.bin .Add (.slc (.var 4) .none (.some (.int 5))) (.tup (.cons (.var 5) (.cons (.str "g") .nil))))) (.cons (.frz (.bin .Add (.slc (.var 4) .none (.some (.int 5))) (.tup (.cons (.var 6) (.cons (.str "a") .nil))))) .nil)))))))) .nil)))))
theorem hl2 : b_law_2 = .cons (.loop (.nm 3) (.range (.cons (.int 4) .nil)) chainB) b_law_3 := rfl
def taleB : Stms := (.cons (.asg (.nm 4) (.frz (.call 14 (.cons (.var 1) (.cons (.int 6) .nil))))) (.cons (.asg (.nm 2) (.frz (.bin .Add (.var 2) (.lc (.frz (.bin .Add (.slc (.var 4) .none (.some (.int 6))) (.tup (.cons (.idx (.var 12) (.int 0)) .nil)))) (.nm 12) (.seq (.idx (.var 4) (.int 5))) .none [("_law_scene_here", 12)])))) (.cons (.asg (.nm 8) (.callB "tuple" (.cons (.lc (.frz (.bin .Add (.bin .Add (.slc (.var 12) .none (.some (.int 2))) (.tup (.cons (.tup .nil) .nil))) (.slc (.var 12) (.some (.int 3)) .none))) (.nm 12) (.seq (.idx (.var 4) (.int 5))) .none [("_law_scene_here", 12)]) .nil))) (.cons (.asg (.nm 2) (.frz (.bin .Add (.var 2) (.lst (.cons (.frz (.bin .Add (.slc (.var 4) .none (.some (.int 5))) (.tup (.cons (.var 8) (.cons (.idx (.var 4) (.int 6)) .nil))))) (.cons (.frz (.bin .Add (.slc (.var 4) .none (.some (.int 5))) (.tup (.cons (.frz (.bin .Add (.slc (.idx (.var 4) (.int 5)) .none (.some (.int 1))) (.slc (.var 8) (.some (.int 1)) .none))) (.cons (.idx (.var 4) (.int 6)) .nil))))) .nil)))))) .nil))))
theorem hl3 : b_law_3 = .cons (.loop (.nm 7) (.range (.cons (.int 4) .nil)) taleB) b_law_4 := rfl
theorem chs_get (w : Nat) : L2.atI ((chT w).ss.map Sc.d) 4 = some (chC w 4).d := rfl
theorem q_bdfh (E : Eh) : eqRv E (.val (.tup [.str "b", .str "d", .str "f", .str "h"])) (.val (.tup [.str "b", .str "d", .str "f", .str "h"])) = some true := eqRv_same E _ (by decide +kernel)
theorem q_aceg (E : Eh) : eqRv E (.val (.tup [.str "a", .str "c", .str "e", .str "g"])) (.val (.tup [.str "a", .str "c", .str "e", .str "g"])) = some true := eqRv_same E _ (by decide +kernel)
set_option maxHeartbeats 16000000 in
theorem chain_turn (k w : Nat) (hk : 2 < k) (hw : w < 4) (E : Eh) (xs : List Ty) (hx : xs.length ≤ 100) (a0 a1 o4 o5 o6 a7 a8 a9 a10 a11 : Option D) :
    ∃ (q4 q5 q6 : Option D), bodF (callF prog 100000 k) 100000 0 chainB [a0, a1, some (.lst (xs.map Ty.d)), some (.int w), o4, o5, o6, a7, a8, a9, a10, a11, none] E =
      some (.nx [a0, a1, some (.lst ((xs ++ [chT w, cutT w "a", cutT w "g", shutT w]).map Ty.d)), some (.int w), q4, q5, q6, a7, a8, a9, a10, a11, none], E) := by
  obtain ⟨b1, b2, b3, b4, b5⟩ := chs_ok ⟨w, hw⟩
  obtain ⟨c1, c2, c3, c4, c5, c6⟩ := chs_loose ⟨w, hw⟩
  simp only at b1 b2 b3 b4 b5 c1 c2 c3 c4 c5 c6
  obtain ⟨fa, hfa, ea⟩ := loose_ends 100000 k (by omega) (by omega) E (chT w) (tyB_ok b1).gr
  obtain ⟨fd, hfd, ed⟩ := loose_ends 100000 k (by omega) (by omega) E ((chT w).at "d") (tyB_ok b2).gr
  rw [loose_is hfa c1 c5, show (chT w).bg = "a" from rfl, c3] at ea
  rw [loose_is hfd c2 c6] at ed
  have c4' : ((chT w).at "d").loose (reachN ((chT w).at "d").ss ((chT w).at "d").bg 8) = (["a", "c", "e", "g"] : List Str) := c4
  rw [c4'] at ed
  have q1 := q_bdfh E
  have q2 := q_aceg E
  have ec := chain 100000 k w (by omega) E hw
  have e1 := chs_get w
  have e2 : (chC w 4).name = nm 4 := rfl
  have t4 := cut_take4 ((chT w).ss.map Sc.d)
  have d5 := cut_drop5 ((chT w).ss.map Sc.d)
  have v5 := ty_c5 (chT w)
  have v6 := ty_c6 (chT w)
  have cutd : ((((chT w).ss.map Sc.d).take 4 ++ [D.tup [.str (nm 4), .tup [], .tup [], .tup [], .non]]) ++ (((chT w).ss.map Sc.d).drop 5)) = (chCut w).map Sc.d := by
    unfold chCut
    rw [List.map_append, List.map_append, List.map_take, List.map_drop]; rfl
  have lss : (chT w).ss.length = 8 := rfl
  have z1 : (((chT w).ss.map Sc.d).take 4).length + 1 ≤ 16777216 := by rw [List.length_take, List.length_map]; omega
  have z2 : (((chT w).ss.map Sc.d).take 4).length + 1 + (((chT w).ss.map Sc.d).drop 5).length ≤ 16777216 := by rw [List.length_take, List.length_drop, List.length_map]; omega
  have hsh := fun (o3 o4 o5 o6 : Option D) => lc_eachN (callF prog 100000 k) 0 12 13 (by omega) (.frz (.bin .Add (.slc (.var 12) .none (.some (.int 4))) (.tup (.cons (.str "x") .nil)))) Sc.d (fun c => c.shut.d) (chT w).ss (by omega)
    (fun c _ σ E1 hl hv => by
      have s4 := sc_c4 c
      unfold eltF
      simp only [Sc.d] at hv
      walk_at "evh"
      rfl) [a0, a1, some (.lst (xs.map Ty.d)), o3, o4, o5, o6, a7, a8, a9, a10, a11, none] E (by simp)
  have shd : (chT w).ss.map (fun c => c.shut.d) = (shutT w).ss.map Sc.d := by show _ = (List.map Sc.shut _).map _; rw [List.map_map]; rfl
  rw [shd] at hsh
  have z3 : xs.length + 4 ≤ 16777216 := by omega
  have o1 : (xs ++ [chT w, cutT w "a", cutT w "g", shutT w]).map Ty.d = xs.map Ty.d ++ [(chT w).d, (cutT w "a").d, (cutT w "g").d, (shutT w).d] := by rw [List.map_append]; rfl
  rw [o1]
  clear o1 shd lss b1 b2 b3 b4 b5 c1 c2 c3 c4 c4' c5 c6 hfa hfd
  have hat : ((chT w).at "d").ss = (chT w).ss := rfl
  have hsu : (shutT w).ss = (shutT w).ss := rfl
  simp only [List.map_cons, List.map_nil] at q1 q2 ea ed
  simp only [Sc.d] at e1
  rw [e2] at e1
  simp only [Ty.d, Ty.at, cutT, show (shutT w).p0 = .tup [] from rfl, show (shutT w).p1 = .tup [] from rfl, show (shutT w).p2 = .tup [] from rfl, show (shutT w).p3 = .tup [] from rfl, show (shutT w).p4 = .tup [] from rfl, show (shutT w).bg = "a" from rfl,
    show (chT w).p0 = .tup [] from rfl, show (chT w).p1 = .tup [] from rfl, show (chT w).p2 = .tup [] from rfl, show (chT w).p3 = .tup [] from rfl, show (chT w).p4 = .tup [] from rfl, show (chT w).bg = "a" from rfl] at *
  generalize (chT w).ss.map Sc.d = X at *
  unfold bodF chainB
  walk_at "evh"
  exact ⟨_, _, _, rfl⟩
set_option maxHeartbeats 16000000 in
theorem tale_turn (k c : Nat) (hk : 20 < k) (E : Eh) (hF : Fd 0 c E) (hc : c + 4000000 < 100000000) (xs : List Ty) (hx : xs.length ≤ 1000) (hxs : ∀ t ∈ xs, t.ok) (a0 a3 o4 a5 a6 a7 o8 a9 a10 a11 : Option D) :
    ∃ (ys : List Ty) (q4 q8 : Option D) (E' : Eh), bodF (callF prog 100000 k) 100000 0 taleB [a0, some (.ref 0), some (.lst (xs.map Ty.d)), a3, o4, a5, a6, a7, o8, a9, a10, a11, none] E =
      some (.nx [a0, some (.ref 0), some (.lst (ys.map Ty.d)), a3, q4, a5, a6, a7, q8, a9, a10, a11, none], E') ∧ (∀ t ∈ ys, t.ok) ∧ ys.length ≤ xs.length + 20 ∧ Fd 0 (c + 1000000) E' := by
  obtain ⟨t, w, E1, e1, ht, ⟨n, hn0, hn⟩, F1, _⟩ := tale_ok 100000 k (by omega) hF (by omega) 6 (by omega) (by omega)
  have hnd : w.sc.Nodup := by
    rw [hn]
    exact List.Nodup.sublist (List.take_sublist ..) (show allNames.Nodup by unfold allNames; decide +kernel)
  obtain ⟨k1, k2, k3⟩ := tl_oks ht hnd
  have few := ht.few.1
  have lsn := congrArg List.length ht.scenes.1
  rw [List.length_map] at lsn
  refine ⟨(xs ++ t.scenes.map (fun s => (tlT t).at s.name)) ++ [(tlT t).bare, (tlT t).half], ?_⟩
  have ok : ∀ y ∈ (xs ++ t.scenes.map (fun s => (tlT t).at s.name)) ++ [(tlT t).bare, (tlT t).half], y.ok := by
    intro y hy
    rcases List.mem_append.mp hy with hy | hy
    · rcases List.mem_append.mp hy with hy | hy
      · exact hxs y hy
      · obtain ⟨s, hs, rfl⟩ := List.mem_map.mp hy
        exact k1 s.name (by rw [← ht.scenes.1]; exact List.mem_map_of_mem hs)
    · simp only [List.mem_cons, List.not_mem_nil, or_false] at hy
      rcases hy with rfl | rfl
      · exact k2
      · exact k3
  have v5 := ty_c5 (tlT t)
  have v6 := ty_c6 (tlT t)
  have a6' := ty_a6 (tlT t)
  have hTd := tlT_d t
  have hs : (tlT t).ss = t.scenes := rfl
  rw [hs] at v5 v6 a6'
  have l1 := lc_mapN (callF prog 100000 k) 0 12 13 (by omega) (.frz (.bin .Add (.slc (.var 4) .none (.some (.int 6))) (.tup (.cons (.idx (.var 12) (.int 0)) .nil)))) Sc.d (fun s => ((tlT t).at s.name).d) t.scenes (by omega)
    [a0, some (.ref 0), some (.lst (xs.map Ty.d)), a3, some (tlT t).d, a5, a6, a7, o8, a9, a10, a11, none] E1 (by simp)
    (fun s _ => by
      unfold eltF
      simp only [List.set_cons_succ, List.set_cons_zero, Sc.d, Ty.d, Ty.at, hs]
      walk_at "evh")
  have l2 := fun (o2 o8 : Option D) => lc_mapN (callF prog 100000 k) 0 12 13 (by omega) (.frz (.bin .Add (.bin .Add (.slc (.var 12) .none (.some (.int 2))) (.tup (.cons (.tup .nil) .nil))) (.slc (.var 12) (.some (.int 3)) .none))) Sc.d (fun s => s.bare.d) t.scenes (by omega)
    [a0, some (.ref 0), o2, a3, some (tlT t).d, a5, a6, a7, o8, a9, a10, a11, none] E1 (by simp)
    (fun s _ => by
      have s2 := sc_c2 s
      have s3 := sc_c3 s
      unfold eltF
      simp only [List.set_cons_succ, List.set_cons_zero, Sc.d, Ty.d, Ty.at, hs]
      walk_at "evh"
      rfl)
  have m1 : (xs ++ t.scenes.map (fun s => (tlT t).at s.name)).map Ty.d = xs.map Ty.d ++ t.scenes.map (fun s => ((tlT t).at s.name).d) := by
    rw [List.map_append, List.map_map]; rfl
  have m2 : (t.scenes.map Sc.bare).map Sc.d = t.scenes.map (fun s => s.bare.d) := by rw [List.map_map]; rfl
  have m3 : (t.scenes.take 1 ++ (t.scenes.map Sc.bare).tail).map Sc.d = (t.scenes.map Sc.d).take 1 ++ (t.scenes.map (fun s => s.bare.d)).tail := by
    rw [List.map_append, List.map_take, List.map_tail, m2]
  refine ⟨some (tlT t).d, some (.tup (t.scenes.map (fun s => s.bare.d))), E1, ?_, ok, ?_, F1.le (by omega)⟩
  · rw [List.map_append, m1]
    have bd : (tlT t).bare.d = .tup [(tlT t).p0, (tlT t).p1, (tlT t).p2, (tlT t).p3, (tlT t).p4, .tup (t.scenes.map (fun s => s.bare.d)), .str (tlT t).bg] := by rw [← m2]; rfl
    have hd : (tlT t).half.d = .tup [(tlT t).p0, (tlT t).p1, (tlT t).p2, (tlT t).p3, (tlT t).p4, .tup ((t.scenes.map Sc.d).take 1 ++ (t.scenes.map (fun s => s.bare.d)).tail), .str (tlT t).bg] := by rw [← m3]; rfl
    have z1 : xs.length + t.scenes.length ≤ 16777216 := by omega
    have z2 : xs.length + t.scenes.length + 2 ≤ 16777216 := by omega
    have z3 : ((t.scenes.map Sc.d).take 1).length + ((t.scenes.map (fun s => s.bare.d)).tail).length ≤ 16777216 := by
      rw [List.length_take, List.length_tail, List.length_map, List.length_map]; omega
    have t1 := cut_take1 (t.scenes.map Sc.d)
    have t2 := cut_tl (t.scenes.map (fun s => s.bare.d))
    simp only [List.map_cons, List.map_nil, bd, hd]
    rw [← hTd] at e1
    simp only [Ty.d, hs] at e1 l1 l2 ⊢
    have zz1 : (xs.map Ty.d).length = xs.length := List.length_map ..
    have zz2 : (t.scenes.map (fun s => ((tlT t).at s.name).d)).length = t.scenes.length := List.length_map ..
    simp only [Ty.d] at zz1 zz2
    clear m1 m2 m3 bd hd ok k1 k2 k3 ht hn hnd hxs hF F1 hTd hs lsn few hn0 hx
    generalize xs.map Ty.d = X at *
    generalize t.scenes.map (fun s => s.bare.d) = Y at *
    unfold bodF taleB
    walk_at "evh"
  · rw [List.length_append, List.length_append, List.length_map]
    simp only [List.length_cons, List.length_nil]
    omega
end K11
end QG11
section QH11
open PySem Ev
local macro_rules | `(tactic| walk_at "ev") => `(tactic| simp only [bnd_some, fin_rt, fin_nx, getv_zero, getv_succ, kVal_e, kTup_e, kLst_e, kDct_e, kRv_e, kBl_e, kBo_e, kBin2_e, kBin_e, kNeg_e, kNot_e, kNotB_e, kBop_e, kCmp2_e, kCmp_e, kTst2_e, kTst_e, kIfx_t, kIfx_f, kCall_e, kCallB_e, kMeth2_e, kMeth_e, kIdx2_e, kIdx_e, kSlc3_e, kSlc2_e, kSlc_e, kRev_e, kNew_e, kReg_v, kReg_n, kLc_e, kLc2_e, kAnd_t, kAnd_f, kOr_t, kOr_f, kVarB_e, asB_bl, asBE_bl, kCallT_e, kTcall_e, kCons2_e, kCons_v, kCons_n, kRs2_e, kRs_e, kPr2_e, kPr_v, kPr_n, kL_e, getL_e, kK_e, asL_ref, s_var, s_int, s_str, s_bl, s_non, s_tup, s_lst, s_dct, s_bin, s_neg, s_not, s_bop, s_cmp, s_ifx, s_call, s_callB, s_meth, s_idx, s_slc, s_rev, s_lc, s_lc2, t_not, t_bop, t_bl, t_var, t_cmp, t_call, t_callB, b_one, b_and, b_or, es_nil, es_cons, er_nil, er_cons, eo_none, asI_int, eo_some, ec_none, ec_some, ep_nil, ep_cons, asIt_dct, asIt_tup, asIt_new, kItR_e, asIt_ref, asIt_str, ei_seq, asRg_one, asRg_nat, ei_range, kEnR_e, asEn_ref, asEn_new, ei_enum, kPut_e, kAsg_v, kAsg_n, x_asg, kPar_e, x_par, kHeap_e, kSto3_e, kSto2_e, kSto_v, kSto_n, x_sto, kExpr_e, x_expr, kRet_e, x_ret, kIf_t, kIf_f, x_if, kFor_e, x_for, x_whl, x_pass, x_brk, x_cont, kSeq_nx, kSeq_rt, kSeq_bk, kSeq_ct, xs_nil, xs_cons, a_nm, a_tp, a_star, as_nil, kTs_e, as_cons, o_addi, o_adds, o_addt, o_addnn, kAddN_e, o_addrn, kAddX_e, o_addnr, kAddR_e, o_addrr, o_subi, o_muli, o_mult, o_div, o_mod, o_pow, c_lt, c_lts, c_le, c_gt, c_ge, c_is, c_isn, kNeq_e, c_eq, c_ne, c_in, c_nin, q_str, q_int, n_tup, i_tup, i_new, i_scr, kAt_e, i_ref, kLook_e, i_dct, i_dnew, l_tup, l_new, l_scr, kCut_e, l_ref, v_tup, v_new, kRvs_e, v_ref, f_len, f_tup, f_lst, f_rep, f_len_t, f_len_n, f_tup_t, f_tup_n, f_lst_t, f_lst_n, kLen_e, f_len_r, kTupB_e, f_tup_r, kLstB_e, f_lst_r, m_app, m_ext, m_pop, m_spl, kApp_e, m_app_e, kExt_e, m_ext_n, kPop_e, m_pop_e, r_app, r_ext, r_pop, kStL_e, st_lst, r_spl, kLv_t, leave_new, leave_val, kFrz_v, kFrz_l, kFrz_d, kIsi_non, kIsi_bl, kIsi_int, kIsi_str, kIsi_tup, kIsi_lst, kIsiT_non, kIsiT_bl, kIsiT_int, kIsiT_str, kIsiT_tup, kIsiT_lst, kDgA_str, kDg3_e, kDg2_e, s_frz, s_isi, t_isi, a_starF, o_addll, o_addln, o_addnl, o_addrl, o_multn, n_lst, n_new, i_lst, i_dctv, l_lst, v_lst, f_len_l, f_tup_l, f_lst_l, asIt_lst, asEn_lst, m_ext_l, f_str, f_int, f_all, f_any, f_srt, f_str_i, f_str_s, f_str_n, f_int_i, f_int_b, m_join, r_join, s_sset, s_lset, kPx2_e, kPx1_v, kPx1_n, kPx_s, kPx_i, ex_nil, ex_cons, s_dcx, kNewD_e, kDcm_e, s_dcm, f_dic, m_upd, r_upd, kUpd_e, m_upd_n, kStK_e, st_dct, kHas_e, n_dref, n_dctv, q_at, Ev.setAll, wipeD, D.low, D.lows, Rv.low, O.low, D.flat, D.eqf, D.keyOf, Ev.look, Ev.put, ofString_inj, sizeLine_eq, atI0, atI1, atI2, atI3, atI4, atI5, lows_app, isiB, lookR,
  List.map_cons, List.map_nil, List.length_cons, List.length_nil, List.getElem?_cons_zero, List.getElem?_cons_succ, List.replicate, List.cons_append, List.nil_append, List.append_nil, List.set_cons_succ, List.set_cons_zero, List.drop_succ_cons, List.drop_zero, List.take_left, List.take_length, List.all_cons, List.all_nil, List.any_cons, List.any_nil, List.getElem?_nil, List.foldl_cons, List.foldl_nil, List.zip_cons_cons, List.zip_nil_right, List.zip_nil_left, List.flatten_cons, List.flatten_nil,
  Nat.reduceAdd, Nat.reduceSub, Nat.zero_add, Nat.add_zero, Nat.reduceLeDiff, Nat.reduceLT, Int.reduceLE, Int.reduceLT, Int.reduceToNat, Int.reduceNeg, decide_true, decide_false, Bool.not_true, Bool.not_false, Bool.and_true, Bool.true_and, Bool.and_false, Bool.false_and, Bool.or_true, Bool.true_or, Bool.or_false, Bool.false_or, if_true, if_false, reduceIte, Bool.false_eq_true, String.reduceEq, and_true, true_and, and_self, reduceCtorEq, ne_eq, not_true_eq_false, not_false_eq_true, List.getElem?_append_right, Nat.sub_self, Nat.le_refl, List.length_append, grd_pos, Sum.inr.injEq, eq_self, Ev.big, Int.reduceEq, Int.reduceNe, Int.reducePow, Int.reduceMul, Int.reduceAdd, Int.reduceSub, List.length_map, List.isEmpty_nil, List.isEmpty_cons, List.set_set, take_set, List.getElem?_set_self, List.getElem?_set_ne, List.length_set, List.getElem?_append_left, Option.isSome_some, mayPut, ixN_lit])
local macro_rules | `(tactic| walk_at "evh") => `(tactic| simp only [*, bnd_some, fin_rt, fin_nx, getv_zero, getv_succ, kVal_e, kTup_e, kLst_e, kDct_e, kRv_e, kBl_e, kBo_e, kBin2_e, kBin_e, kNeg_e, kNot_e, kNotB_e, kBop_e, kCmp2_e, kCmp_e, kTst2_e, kTst_e, kIfx_t, kIfx_f, kCall_e, kCallB_e, kMeth2_e, kMeth_e, kIdx2_e, kIdx_e, kSlc3_e, kSlc2_e, kSlc_e, kRev_e, kNew_e, kReg_v, kReg_n, kLc_e, kLc2_e, kAnd_t, kAnd_f, kOr_t, kOr_f, kVarB_e, asB_bl, asBE_bl, kCallT_e, kTcall_e, kCons2_e, kCons_v, kCons_n, kRs2_e, kRs_e, kPr2_e, kPr_v, kPr_n, kL_e, getL_e, kK_e, asL_ref, s_var, s_int, s_str, s_bl, s_non, s_tup, s_lst, s_dct, s_bin, s_neg, s_not, s_bop, s_cmp, s_ifx, s_call, s_callB, s_meth, s_idx, s_slc, s_rev, s_lc, s_lc2, t_not, t_bop, t_bl, t_var, t_cmp, t_call, t_callB, b_one, b_and, b_or, es_nil, es_cons, er_nil, er_cons, eo_none, asI_int, eo_some, ec_none, ec_some, ep_nil, ep_cons, asIt_dct, asIt_tup, asIt_new, kItR_e, asIt_ref, asIt_str, ei_seq, asRg_one, asRg_nat, ei_range, kEnR_e, asEn_ref, asEn_new, ei_enum, kPut_e, kAsg_v, kAsg_n, x_asg, kPar_e, x_par, kHeap_e, kSto3_e, kSto2_e, kSto_v, kSto_n, x_sto, kExpr_e, x_expr, kRet_e, x_ret, kIf_t, kIf_f, x_if, kFor_e, x_for, x_whl, x_pass, x_brk, x_cont, kSeq_nx, kSeq_rt, kSeq_bk, kSeq_ct, xs_nil, xs_cons, a_nm, a_tp, a_star, as_nil, kTs_e, as_cons, o_addi, o_adds, o_addt, o_addnn, kAddN_e, o_addrn, kAddX_e, o_addnr, kAddR_e, o_addrr, o_subi, o_muli, o_mult, o_div, o_mod, o_pow, c_lt, c_lts, c_le, c_gt, c_ge, c_is, c_isn, kNeq_e, c_eq, c_ne, c_in, c_nin, q_str, q_int, n_tup, i_tup, i_new, i_scr, kAt_e, i_ref, kLook_e, i_dct, i_dnew, l_tup, l_new, l_scr, kCut_e, l_ref, v_tup, v_new, kRvs_e, v_ref, f_len, f_tup, f_lst, f_rep, f_len_t, f_len_n, f_tup_t, f_tup_n, f_lst_t, f_lst_n, kLen_e, f_len_r, kTupB_e, f_tup_r, kLstB_e, f_lst_r, m_app, m_ext, m_pop, m_spl, kApp_e, m_app_e, kExt_e, m_ext_n, kPop_e, m_pop_e, r_app, r_ext, r_pop, kStL_e, st_lst, r_spl, kLv_t, leave_new, leave_val, kFrz_v, kFrz_l, kFrz_d, kIsi_non, kIsi_bl, kIsi_int, kIsi_str, kIsi_tup, kIsi_lst, kIsiT_non, kIsiT_bl, kIsiT_int, kIsiT_str, kIsiT_tup, kIsiT_lst, kDgA_str, kDg3_e, kDg2_e, s_frz, s_isi, t_isi, a_starF, o_addll, o_addln, o_addnl, o_addrl, o_multn, n_lst, n_new, i_lst, i_dctv, l_lst, v_lst, f_len_l, f_tup_l, f_lst_l, asIt_lst, asEn_lst, m_ext_l, f_str, f_int, f_all, f_any, f_srt, f_str_i, f_str_s, f_str_n, f_int_i, f_int_b, m_join, r_join, s_sset, s_lset, kPx2_e, kPx1_v, kPx1_n, kPx_s, kPx_i, ex_nil, ex_cons, s_dcx, kNewD_e, kDcm_e, s_dcm, f_dic, m_upd, r_upd, kUpd_e, m_upd_n, kStK_e, st_dct, kHas_e, n_dref, n_dctv, q_at, Ev.setAll, wipeD, D.low, D.lows, Rv.low, O.low, D.flat, D.eqf, D.keyOf, Ev.look, Ev.put, ofString_inj, sizeLine_eq, atI0, atI1, atI2, atI3, atI4, atI5, lows_app, isiB, lookR,
  List.map_cons, List.map_nil, List.length_cons, List.length_nil, List.getElem?_cons_zero, List.getElem?_cons_succ, List.replicate, List.cons_append, List.nil_append, List.append_nil, List.set_cons_succ, List.set_cons_zero, List.drop_succ_cons, List.drop_zero, List.take_left, List.take_length, List.all_cons, List.all_nil, List.any_cons, List.any_nil, List.getElem?_nil, List.foldl_cons, List.foldl_nil, List.zip_cons_cons, List.zip_nil_right, List.zip_nil_left, List.flatten_cons, List.flatten_nil,
  Nat.reduceAdd, Nat.reduceSub, Nat.zero_add, Nat.add_zero, Nat.reduceLeDiff, Nat.reduceLT, Int.reduceLE, Int.reduceLT, Int.reduceToNat, Int.reduceNeg, decide_true, decide_false, Bool.not_true, Bool.not_false, Bool.and_true, Bool.true_and, Bool.and_false, Bool.false_and, Bool.or_true, Bool.true_or, Bool.or_false, Bool.false_or, if_true, if_false, reduceIte, Bool.false_eq_true, String.reduceEq, and_true, true_and, and_self, reduceCtorEq, ne_eq, not_true_eq_false, not_false_eq_true, List.getElem?_append_right, Nat.sub_self, Nat.le_refl, List.length_append, grd_pos, Sum.inr.injEq, eq_self, Ev.big, Int.reduceEq, Int.reduceNe, Int.reducePow, Int.reduceMul, Int.reduceAdd, Int.reduceSub, List.length_map, List.isEmpty_nil, List.isEmpty_cons, List.set_set, take_set, List.getElem?_set_self, List.getElem?_set_ne, List.length_set, List.getElem?_append_left, Option.isSome_some, mayPut, ixN_lit])
namespace K11
open PySem Ev
theorem feed_ok (wf k : Nat) (ns : List Int) (E : Eh) (hk : 0 < k) : callF prog wf k 2 [.scr ns] E = some (.new (.lst [.lst ((cut ns none (some 63)).map .int), .int 0, .int 0, .int 0]), E) := by
  obtain ⟨k, rfl⟩ : ∃ k', k = k' + 1 := ⟨k - 1, by omega⟩
  have hl : ∀ xs : List Int, D.lows E.length (xs.map .int) = true := lows_map E.length D.int (fun _ => rfl)
  rw [call_step pg2 _ _ _ _ rfl, ← cut_map]
  simp only [b__law_feed]
  rw [cut_map]
  walk_at "evh"
  simp only [cut_map]
  walk_at "evh"
theorem hl5 : b_law_5 = .cons (.ret (.bl true)) .nil := rfl
theorem chains (k : Nat) (hk : 2 < k) (E : Eh) (a0 a1 a7 a8 a9 a10 a11 : Option D) : ∀ (n i : Nat) (xs : List Ty) (o3 o4 o5 o6 : Option D), i + n ≤ 4 → xs.length ≤ 1 + 4 * i → (∀ t ∈ xs, t.ok) →
    ∃ (ys : List Ty) (q3 q4 q5 q6 : Option D), forL (asgT (.nm 3)) (bodF (callF prog 100000 k) 100000 0 chainB) (chk none) (rangeD i n) [a0, a1, some (.lst (xs.map Ty.d)), o3, o4, o5, o6, a7, a8, a9, a10, a11, none] E =
      some (.nx [a0, a1, some (.lst (ys.map Ty.d)), q3, q4, q5, q6, a7, a8, a9, a10, a11, none], E) ∧ ys.length ≤ 1 + 4 * (i + n) ∧ ∀ t ∈ ys, t.ok := by
  intro n
  induction n with
  | zero => exact fun i xs o3 o4 o5 o6 _ hl hx => ⟨xs, o3, o4, o5, o6, by rw [rangeD, forL, if_pos (show chk none E = true from rfl)], hl, hx⟩
  | succ n ih =>
    intro i xs o3 o4 o5 o6 hi hl hx
    obtain ⟨p4, p5, p6, e1⟩ := chain_turn k i hk (by omega) E xs (by omega) a0 a1 o4 o5 o6 a7 a8 a9 a10 a11
    obtain ⟨b1, b2, b3, b4, b5⟩ := chs_ok ⟨i, by omega⟩
    simp only at b1 b2 b3 b4 b5
    obtain ⟨ys, q3, q4, q5, q6, e2, l2, h2⟩ := ih (i + 1) (xs ++ [chT i, cutT i "a", cutT i "g", shutT i]) (some (.int i)) p4 p5 p6 (by omega) (by rw [List.length_append]; simp only [List.length_cons, List.length_nil]; omega) (fun t ht => by
      rcases List.mem_append.mp ht with h | h
      · exact hx t h
      · simp only [List.mem_cons, List.not_mem_nil, or_false] at h
        rcases h with rfl | rfl | rfl | rfl
        · exact tyB_ok b1
        · exact tyB_ok b3
        · exact tyB_ok b4
        · exact tyB_ok b5)
    refine ⟨ys, q3, q4, q5, q6, ?_, by omega, h2⟩
    rw [rangeD, forL, if_pos (show chk none E = true from rfl), a_nm]
    simp only [List.set_cons_succ, List.set_cons_zero, e1]
    exact e2
theorem tales (k : Nat) (hk : 20 < k) (a0 a3 a5 a6 a9 a10 a11 : Option D) : ∀ (n i c : Nat) (E : Eh) (xs : List Ty) (o4 o7 o8 : Option D), Fd 0 c E → c + 1000000 * n + 4000000 < 100000000 → xs.length ≤ 100 + 20 * i → i + n ≤ 4 → (∀ t ∈ xs, t.ok) →
    ∃ (ys : List Ty) (q4 q7 q8 : Option D) (E' : Eh), forL (asgT (.nm 7)) (bodF (callF prog 100000 k) 100000 0 taleB) (chk none) (rangeD i n) [a0, some (.ref 0), some (.lst (xs.map Ty.d)), a3, o4, a5, a6, o7, o8, a9, a10, a11, none] E =
      some (.nx [a0, some (.ref 0), some (.lst (ys.map Ty.d)), a3, q4, a5, a6, q7, q8, a9, a10, a11, none], E') ∧ (∀ t ∈ ys, t.ok) ∧ Fd 0 (c + 1000000 * n) E' := by
  intro n
  induction n with
  | zero => exact fun i c E xs o4 o7 o8 hF _ _ _ hx => ⟨xs, o4, o7, o8, E, by rw [rangeD, forL, if_pos (show chk none E = true from rfl)], hx, hF⟩
  | succ n ih =>
    intro i c E xs o4 o7 o8 hF hc hl hi hx
    rw [Nat.mul_succ] at hc ⊢
    obtain ⟨ys1, p4, p8, E1, e1, h1, l1, F1⟩ := tale_turn k c hk E hF (by omega) xs (by omega) hx a0 a3 o4 a5 a6 (some (.int i)) o8 a9 a10 a11
    obtain ⟨ys, q4, q7, q8, E2, e2, h2, F2⟩ := ih (i + 1) (c + 1000000) E1 ys1 p4 (some (.int i)) p8 F1 (by omega) (by omega) (by omega) h1
    refine ⟨ys, q4, q7, q8, E2, ?_, h2, F2.le (by omega)⟩
    rw [rangeD, forL, if_pos (show chk none E = true from rfl), a_nm]
    simp only [List.set_cons_succ, List.set_cons_zero, e1]
    exact e2
theorem checks (k : Nat) (hk : 2 < k) (E : Eh) (a0 a1 a2 a3 a5 a6 a7 a8 : Option D) : ∀ (xs : List Ty) (o4 o9 o10 o11 : Option D), (∀ t ∈ xs, t.ok) →
    ∃ (q4 q9 q10 q11 : Option D), forL (asgT (.nm 4)) (bodF (callF prog 100000 k) 100000 0 lastB) (chk none) (xs.map Ty.d) [a0, a1, a2, a3, o4, a5, a6, a7, a8, o9, o10, o11, none] E =
      some (.nx [a0, a1, a2, a3, q4, a5, a6, a7, a8, q9, q10, q11, none], E) := by
  intro xs
  induction xs with
  | nil => exact fun o4 o9 o10 o11 _ => ⟨o4, o9, o10, o11, by rw [List.map_nil, forL, if_pos (show chk none E = true from rfl)]⟩
  | cons t xs ih =>
    intro o4 o9 o10 o11 hx
    obtain ⟨p9, p10, p11, e1⟩ := check_ok k hk E t (hx t (List.mem_cons_self ..)) a0 a1 a2 a3 a5 a6 a7 a8 o9 o10 o11
    obtain ⟨q4, q9, q10, q11, e2⟩ := ih (some t.d) p9 p10 p11 (fun y hy => hx y (List.mem_cons_of_mem _ hy))
    refine ⟨q4, q9, q10, q11, ?_⟩
    rw [List.map_cons, forL, if_pos (show chk none E = true from rfl), a_nm]
    simp only [List.set_cons_succ, List.set_cons_zero, e1]
    exact e2
set_option maxHeartbeats 16000000 in
theorem law_trueK (k : Nat) (hk : 21 < k) (ns : List Int) : ∃ E', callF prog 100000 (k + 1) 17 [.scr ns] [] = some (.val (.bl true), E') := by
  rw [call_step pg17 _ _ _ _ rfl]
  have e1 := feed_ok 100000 k ns [] (by omega)
  generalize cut ns none (some 63) = ms at e1
  have F0 : Fd 0 0 [.lst [.lst (ms.map .int), .int 0, .int 0, .int 0]] := ⟨ms, 0, 0, 0, rfl, by omega, by omega, by omega⟩
  obtain ⟨ys, q3, q4, q5, q6, t1, l1, h1⟩ := chains k (by omega) [.lst [.lst (ms.map .int), .int 0, .int 0, .int 0]] (some (.scr ns)) (some (.ref 0)) none none none none none 4 0 [oneT] none none none none (by omega) (by simp) (fun t ht => by rw [List.mem_singleton.mp ht]; exact tyB_ok one_ok)
  obtain ⟨zs, p4, p7, p8, E2, t2, h2, F2⟩ := tales k (by omega) (some (.scr ns)) q3 q5 q6 none none none 4 0 0 _ ys q4 none none F0 (by omega) (by omega) (by omega) h1
  obtain ⟨r4, r9, r10, r11, t3⟩ := checks k (by omega) E2 (some (.scr ns)) (some (.ref 0)) (some (.lst (zs.map Ty.d))) q3 q5 q6 p7 p8 zs p4 none none none h2
  have o1 : [oneT].map Ty.d = [.tup [.tup [], .tup [], .tup [], .tup [], .tup [], .tup [.tup [.str "a", .tup [], .tup [], .tup [], .str "x"]], .str "a"]] := rfl
  rw [o1] at t1
  clear F0 F2 h1 h2 l1 o1
  simp only [show ((0 : Nat) : Int) = 0 from rfl] at t1 t2
  generalize ys.map Ty.d = Y at *
  generalize zs.map Ty.d = Z at *
  simp only [b_law, b_law_1, hl2, hl3, hl4, hl5]
  walk_at "evh"
  exact ⟨_, rfl⟩
theorem law_true (ns : List Int) (hn : ns.length ≤ 63) : ∃ E', callF prog 100000 80 17 [.scr ns] [] = some (.val (.bl true), E') := law_trueK 79 (by omega) ns
end K11
end QH11
section H11
namespace HdK11
open PySem PySem.Spec PyProof.Rows L2 Ev
open K11 (prog)
def topS (i : Nat) : Stmt := PySem.Challenge.pw_forktales_k11_loose_ends_told.main.body.getD i (.Pass ⟨0, 0, 0, 0⟩)
def fns : List (Str × Nat) := [("named_on", 1), ("loose_ends", 1), ("_law_feed", 1), ("_law_draw", 2), ("_law_pick", 2), ("_law_spent", 1), ("_law_sum", 3), ("_law_test", 3), ("_law_pieces", 4), ("_law_piece", 4), ("_law_act", 2), ("_law_next", 2), ("_law_choice", 3), ("_law_scene", 3), ("_law_tale", 2), ("_law_come_to", 1), ("_law_chain", 1), ("law", 1)]
def N0 : List Str := ["scene", "name", "pieces", "choices", "woven", "ending", "choice", "one"]
def P0 : List Str := ["scene"]
theorem sc0 : FnScope N0 P0 (defScope (topS 1)) := ⟨rfl, rfl, rfl, by decide +kernel, rfl, by decide +kernel, by decide +kernel⟩
theorem ck0 : ∃ F, prog[0]? = some F ∧ F.np = P0.length ∧ F.nn = N0.length ∧ isSs N0 fns ⟨defScope (topS 1), fun _ => true⟩ F.body (defBody (topS 1)) = true := ⟨_, rfl, rfl, rfl, by decide +kernel⟩
def N1 : List Str := ["story", "scenes", "found", "work", "name", "scene"]
def P1 : List Str := ["story"]
theorem sc1 : FnScope N1 P1 (defScope (topS 2)) := ⟨rfl, rfl, rfl, by decide +kernel, rfl, by decide +kernel, by decide +kernel⟩
theorem ck1 : ∃ F, prog[1]? = some F ∧ F.np = P1.length ∧ F.nn = N1.length ∧ isSs N1 fns ⟨defScope (topS 2), fun _ => true⟩ F.body (defBody (topS 2)) = true := ⟨_, rfl, rfl, rfl, by decide +kernel⟩
def N2 : List Str := ["_law_script"]
def P2 : List Str := ["_law_script"]
theorem sc2 : FnScope N2 P2 (defScope (topS 4)) := ⟨rfl, rfl, rfl, by decide +kernel, rfl, by decide +kernel, by decide +kernel⟩
theorem ck2 : ∃ F, prog[2]? = some F ∧ F.np = P2.length ∧ F.nn = N2.length ∧ isSs N2 fns ⟨defScope (topS 4), fun _ => true⟩ F.body (defBody (topS 4)) = true := ⟨_, rfl, rfl, rfl, by decide +kernel⟩
def N3 : List Str := ["_law_feed_here", "_law_many", "_law_found", "_law_cell", "_law_mixed"]
def P3 : List Str := ["_law_feed_here", "_law_many"]
theorem sc3 : FnScope N3 P3 (defScope (topS 5)) := ⟨rfl, rfl, rfl, by decide +kernel, rfl, by decide +kernel, by decide +kernel⟩
theorem ck3 : ∃ F, prog[3]? = some F ∧ F.np = P3.length ∧ F.nn = N3.length ∧ isSs N3 fns ⟨defScope (topS 5), fun _ => true⟩ F.body (defBody (topS 5)) = true := ⟨_, rfl, rfl, rfl, by decide +kernel⟩
def N4 : List Str := ["_law_feed_here", "_law_some"]
def P4 : List Str := ["_law_feed_here", "_law_some"]
theorem sc4 : FnScope N4 P4 (defScope (topS 6)) := ⟨rfl, rfl, rfl, by decide +kernel, rfl, by decide +kernel, by decide +kernel⟩
theorem ck4 : ∃ F, prog[4]? = some F ∧ F.np = P4.length ∧ F.nn = N4.length ∧ isSs N4 fns ⟨defScope (topS 6), fun _ => true⟩ F.body (defBody (topS 6)) = true := ⟨_, rfl, rfl, rfl, by decide +kernel⟩
def N5 : List Str := ["_law_pool"]
def P5 : List Str := ["_law_pool"]
theorem sc5 : FnScope N5 P5 (defScope (topS 7)) := ⟨rfl, rfl, rfl, by decide +kernel, rfl, by decide +kernel, by decide +kernel⟩
theorem ck5 : ∃ F, prog[5]? = some F ∧ F.np = P5.length ∧ F.nn = N5.length ∧ isSs N5 fns ⟨defScope (topS 7), fun _ => true⟩ F.body (defBody (topS 7)) = true := ⟨_, rfl, rfl, rfl, by decide +kernel⟩
def N6 : List Str := ["_law_feed_here", "_law_deep", "_law_pool", "_law_way"]
def P6 : List Str := ["_law_feed_here", "_law_deep", "_law_pool"]
theorem sc6 : FnScope N6 P6 (defScope (topS 8)) := ⟨rfl, rfl, rfl, by decide +kernel, rfl, by decide +kernel, by decide +kernel⟩
theorem ck6 : ∃ F, prog[6]? = some F ∧ F.np = P6.length ∧ F.nn = N6.length ∧ isSs N6 fns ⟨defScope (topS 8), fun _ => true⟩ F.body (defBody (topS 8)) = true := ⟨_, rfl, rfl, rfl, by decide +kernel⟩
def N7 : List Str := ["_law_feed_here", "_law_deep", "_law_pool", "_law_way", "_law_some", "_law_k"]
def P7 : List Str := ["_law_feed_here", "_law_deep", "_law_pool"]
theorem sc7 : FnScope N7 P7 (defScope (topS 9)) := ⟨rfl, rfl, rfl, by decide +kernel, rfl, by decide +kernel, by decide +kernel⟩
theorem ck7 : ∃ F, prog[7]? = some F ∧ F.np = P7.length ∧ F.nn = N7.length ∧ isSs N7 fns ⟨defScope (topS 9), fun _ => true⟩ F.body (defBody (topS 9)) = true := ⟨_, rfl, rfl, rfl, by decide +kernel⟩
def N8 : List Str := ["_law_feed_here", "_law_deep", "_law_pool", "_law_only", "_law_many", "_law_k"]
def P8 : List Str := ["_law_feed_here", "_law_deep", "_law_pool", "_law_only"]
theorem sc8 : FnScope N8 P8 (defScope (topS 10)) := ⟨rfl, rfl, rfl, by decide +kernel, rfl, by decide +kernel, by decide +kernel⟩
theorem ck8 : ∃ F, prog[8]? = some F ∧ F.np = P8.length ∧ F.nn = N8.length ∧ isSs N8 fns ⟨defScope (topS 10), fun _ => true⟩ F.body (defBody (topS 10)) = true := ⟨_, rfl, rfl, rfl, by decide +kernel⟩
def N9 : List Str := ["_law_feed_here", "_law_deep", "_law_pool", "_law_only", "_law_way", "_law_first"]
def P9 : List Str := ["_law_feed_here", "_law_deep", "_law_pool", "_law_only"]
theorem sc9 : FnScope N9 P9 (defScope (topS 11)) := ⟨rfl, rfl, rfl, by decide +kernel, rfl, by decide +kernel, by decide +kernel⟩
theorem ck9 : ∃ F, prog[9]? = some F ∧ F.np = P9.length ∧ F.nn = N9.length ∧ isSs N9 fns ⟨defScope (topS 11), fun _ => true⟩ F.body (defBody (topS 11)) = true := ⟨_, rfl, rfl, rfl, by decide +kernel⟩
def N10 : List Str := ["_law_feed_here", "_law_pool", "_law_way", "_law_folk", "_law_spots", "_law_name"]
def P10 : List Str := ["_law_feed_here", "_law_pool"]
theorem sc10 : FnScope N10 P10 (defScope (topS 12)) := ⟨rfl, rfl, rfl, by decide +kernel, rfl, by decide +kernel, by decide +kernel⟩
theorem ck10 : ∃ F, prog[10]? = some F ∧ F.np = P10.length ∧ F.nn = N10.length ∧ isSs N10 fns ⟨defScope (topS 12), fun _ => true⟩ F.body (defBody (topS 12)) = true := ⟨_, rfl, rfl, rfl, by decide +kernel⟩
def N11 : List Str := ["_law_feed_here", "_law_pool", "_law_way", "_law_scene_here"]
def P11 : List Str := ["_law_feed_here", "_law_pool"]
theorem sc11 : FnScope N11 P11 (defScope (topS 13)) := ⟨rfl, rfl, rfl, by decide +kernel, rfl, by decide +kernel, by decide +kernel⟩
theorem ck11 : ∃ F, prog[11]? = some F ∧ F.np = P11.length ∧ F.nn = N11.length ∧ isSs N11 fns ⟨defScope (topS 13), fun _ => true⟩ F.body (defBody (topS 13)) = true := ⟨_, rfl, rfl, rfl, by decide +kernel⟩
def N12 : List Str := ["_law_feed_here", "_law_name", "_law_pool", "_law_tries", "_law_acts", "_law_label", "_law_test_here", "_law_k", "_law_one"]
def P12 : List Str := ["_law_feed_here", "_law_name", "_law_pool"]
theorem sc12 : FnScope N12 P12 (defScope (topS 14)) := ⟨rfl, rfl, rfl, by decide +kernel, rfl, by decide +kernel, by decide +kernel⟩
theorem ck12 : ∃ F, prog[12]? = some F ∧ F.np = P12.length ∧ F.nn = N12.length ∧ isSs N12 fns ⟨defScope (topS 14), fun _ => true⟩ F.body (defBody (topS 14)) = true := ⟨_, rfl, rfl, rfl, by decide +kernel⟩
def N13 : List Str := ["_law_feed_here", "_law_name", "_law_pool", "_law_names", "_law_choices", "_law_woven", "_law_ending", "_law_one"]
def P13 : List Str := ["_law_feed_here", "_law_name", "_law_pool"]
theorem sc13 : FnScope N13 P13 (defScope (topS 15)) := ⟨rfl, rfl, rfl, by decide +kernel, rfl, by decide +kernel, by decide +kernel⟩
theorem ck13 : ∃ F, prog[13]? = some F ∧ F.np = P13.length ∧ F.nn = N13.length ∧ isSs N13 fns ⟨defScope (topS 15), fun _ => true⟩ F.body (defBody (topS 15)) = true := ⟨_, rfl, rfl, rfl, by decide +kernel⟩
def N14 : List Str := ["_law_feed_here", "_law_many", "_law_names", "_law_numbers", "_law_places", "_law_figures", "_law_pool", "_law_rows", "_law_doors", "_law_one", "_law_digits", "_law_folk", "_law_scenes", "_law_k", "_law_name", "_law_other"]
def P14 : List Str := ["_law_feed_here", "_law_many"]
theorem sc14 : FnScope N14 P14 (defScope (topS 16)) := ⟨rfl, rfl, rfl, by decide +kernel, rfl, by decide +kernel, by decide +kernel⟩
theorem ck14 : ∃ F, prog[14]? = some F ∧ F.np = P14.length ∧ F.nn = N14.length ∧ isSs N14 fns ⟨defScope (topS 16), fun _ => true⟩ F.body (defBody (topS 16)) = true := ⟨_, rfl, rfl, rfl, by decide +kernel⟩
def N15 : List Str := ["_law_story", "_law_found", "_law_left", "_law_here", "_law_scene_here", "_law_more", "_law_choice_here", "_law_one"]
def P15 : List Str := ["_law_story"]
theorem sc15 : FnScope N15 P15 (defScope (topS 17)) := ⟨rfl, rfl, rfl, by decide +kernel, rfl, by decide +kernel, by decide +kernel⟩
theorem ck15 : ∃ F, prog[15]? = some F ∧ F.np = P15.length ∧ F.nn = N15.length ∧ isSs N15 fns ⟨defScope (topS 17), fun _ => true⟩ F.body (defBody (topS 17)) = true := ⟨_, rfl, rfl, rfl, by decide +kernel⟩
def N16 : List Str := ["_law_way", "_law_names", "_law_scenes", "_law_k", "_law_to", "_law_after", "_law_choice_here"]
def P16 : List Str := ["_law_way"]
theorem sc16 : FnScope N16 P16 (defScope (topS 18)) := ⟨rfl, rfl, rfl, by decide +kernel, rfl, by decide +kernel, by decide +kernel⟩
theorem ck16 : ∃ F, prog[16]? = some F ∧ F.np = P16.length ∧ F.nn = N16.length ∧ isSs N16 fns ⟨defScope (topS 18), fun _ => true⟩ F.body (defBody (topS 18)) = true := ⟨_, rfl, rfl, rfl, by decide +kernel⟩
def N17 : List Str := ["_law_script", "_law_feed_here", "_law_some", "_law_way", "_law_story", "_law_cut", "_law_shut", "_law_turn", "_law_bare", "_law_kept", "_law_come", "_law_due", "_law_scene_here"]
def P17 : List Str := ["_law_script"]
theorem sc17 : FnScope N17 P17 (defScope (topS 19)) := ⟨rfl, rfl, rfl, by decide +kernel, rfl, by decide +kernel, by decide +kernel⟩
theorem ck17 : ∃ F, prog[17]? = some F ∧ F.np = P17.length ∧ F.nn = N17.length ∧ isSs N17 fns ⟨defScope (topS 19), fun _ => true⟩ F.body (defBody (topS 19)) = true := ⟨_, rfl, rfl, rfl, by decide +kernel⟩
structure Fx (K : PySem.W.Frag) (x : Str) (st : Stmt) : Prop where
  ex : ∃ (f : Addr) (oc : Value) (od an : Option Addr) (osl : Array (Option Value)) (kV doc pm cdv ct : Value), PySem.W.nsIn K mainGlobals x = some (some (.ref f)) ∧
    K.lookup f = some ⟨oc, od, .func (PySem.W.fnOf x x (defArgs st) (defBody st) (defScope st) .none kV doc pm an cdv ct), osl⟩ ∧ PySem.W.codeIn K cdv x = true ∧ PySem.W.keepIn K (.ref f) = true
theorem fx {K : PySem.W.Frag} {x : Str} {st : Stmt} {f : Addr} {oc : Value} {od an : Option Addr} {osl : Array (Option Value)} {kV doc pm cdv ct : Value} (a : PySem.W.nsIn K mainGlobals x = some (some (.ref f)))
    (l : K.lookup f = some ⟨oc, od, .func (PySem.W.fnOf x x (defArgs st) (defBody st) (defScope st) .none kV doc pm an cdv ct), osl⟩) (c : PySem.W.codeIn K cdv x = true) (k : PySem.W.keepIn K (.ref f) = true) : Fx K x st := ⟨⟨f, oc, od, an, osl, kV, doc, pm, cdv, ct, a, l, c, k⟩⟩
theorem df {K : PySem.W.Frag} {h : Heap} {mg : Str → Option Value} {x : Str} {st : Stmt} {j : Nat} {N ps : List Str} (X : K.In h) (G : h.Ns mainGlobals mg) (F : Fx K x st) (sc : FnScope N ps (defScope st))
    (hb : ∀ (kV doc pm : Value) (an : Option Addr) (cdv ct : Value) (us : List Value), us.length = ps.length → bindArgs (PySem.W.fnOf x x (defArgs st) (defBody st) (defScope st) .none kV doc pm an cdv ct) ⟨us, []⟩ = pure (ps.zip us))
    (pr : ∃ F, prog[j]? = some F ∧ F.np = ps.length ∧ F.nn = N.length ∧ isSs N fns ⟨defScope st, fun _ => true⟩ F.body (defBody st) = true) (hx : fns[j]? = some (x, ps.length)) {np : Nat} (hn : ps.length = np) :
    ∃ f fd N ps st, Dfs K mg prog fns j f fd N ps st x ∧ ps.length = np := by
  obtain ⟨f, oc, od, an, osl, kV, doc, pm, cdv, ct, a, l, c, k⟩ := F.ex
  have F1 := fun_mk (st := st) l c k
  exact ⟨f, _, N, ps, st, ⟨F1, sc, F1.binds hb, PySem.W.mg_of X G a, pr, hx⟩, hn⟩
set_option maxHeartbeats 8000000 in
theorem tab {K : PySem.W.Frag} {h : Heap} {mg : Str → Option Value} (X : K.In h) (G : h.Ns mainGlobals mg) (h0 : Fx K "named_on" (topS 1)) (h1 : Fx K "loose_ends" (topS 2)) (h2 : Fx K "_law_feed" (topS 4)) (h3 : Fx K "_law_draw" (topS 5)) (h4 : Fx K "_law_pick" (topS 6)) (h5 : Fx K "_law_spent" (topS 7)) (h6 : Fx K "_law_sum" (topS 8)) (h7 : Fx K "_law_test" (topS 9)) (h8 : Fx K "_law_pieces" (topS 10)) (h9 : Fx K "_law_piece" (topS 11)) (h10 : Fx K "_law_act" (topS 12)) (h11 : Fx K "_law_next" (topS 13)) (h12 : Fx K "_law_choice" (topS 14)) (h13 : Fx K "_law_scene" (topS 15)) (h14 : Fx K "_law_tale" (topS 16)) (h15 : Fx K "_law_come_to" (topS 17)) (h16 : Fx K "_law_chain" (topS 18)) (h17 : Fx K "law" (topS 19)) (hz : ∀ x ∈ blts, PySem.W.nsIn K mainGlobals x = some none) :
    (∀ (j : Nat) (x : Str) (np : Nat), fns[j]? = some (x, np) → ∃ f fd N ps st, Dfs K mg prog fns j f fd N ps st x ∧ ps.length = np) ∧ (∀ x ∈ blts, mg x = none) := by
  refine ⟨fun j x np h => ?_, fun x hx => PySem.W.mg_none_of X G (hz x hx)⟩
  match j, h with
  | 0, h => cases h; exact df X G h0 sc0 (fun _ _ _ _ _ _ us hl => match us, hl with | [_], _ => rfl) ck0 rfl rfl
  | 1, h => cases h; exact df X G h1 sc1 (fun _ _ _ _ _ _ us hl => match us, hl with | [_], _ => rfl) ck1 rfl rfl
  | 2, h => cases h; exact df X G h2 sc2 (fun _ _ _ _ _ _ us hl => match us, hl with | [_], _ => rfl) ck2 rfl rfl
  | 3, h => cases h; exact df X G h3 sc3 (fun _ _ _ _ _ _ us hl => match us, hl with | [_, _], _ => rfl) ck3 rfl rfl
  | 4, h => cases h; exact df X G h4 sc4 (fun _ _ _ _ _ _ us hl => match us, hl with | [_, _], _ => rfl) ck4 rfl rfl
  | 5, h => cases h; exact df X G h5 sc5 (fun _ _ _ _ _ _ us hl => match us, hl with | [_], _ => rfl) ck5 rfl rfl
  | 6, h => cases h; exact df X G h6 sc6 (fun _ _ _ _ _ _ us hl => match us, hl with | [_, _, _], _ => rfl) ck6 rfl rfl
  | 7, h => cases h; exact df X G h7 sc7 (fun _ _ _ _ _ _ us hl => match us, hl with | [_, _, _], _ => rfl) ck7 rfl rfl
  | 8, h => cases h; exact df X G h8 sc8 (fun _ _ _ _ _ _ us hl => match us, hl with | [_, _, _, _], _ => rfl) ck8 rfl rfl
  | 9, h => cases h; exact df X G h9 sc9 (fun _ _ _ _ _ _ us hl => match us, hl with | [_, _, _, _], _ => rfl) ck9 rfl rfl
  | 10, h => cases h; exact df X G h10 sc10 (fun _ _ _ _ _ _ us hl => match us, hl with | [_, _], _ => rfl) ck10 rfl rfl
  | 11, h => cases h; exact df X G h11 sc11 (fun _ _ _ _ _ _ us hl => match us, hl with | [_, _], _ => rfl) ck11 rfl rfl
  | 12, h => cases h; exact df X G h12 sc12 (fun _ _ _ _ _ _ us hl => match us, hl with | [_, _, _], _ => rfl) ck12 rfl rfl
  | 13, h => cases h; exact df X G h13 sc13 (fun _ _ _ _ _ _ us hl => match us, hl with | [_, _, _], _ => rfl) ck13 rfl rfl
  | 14, h => cases h; exact df X G h14 sc14 (fun _ _ _ _ _ _ us hl => match us, hl with | [_, _], _ => rfl) ck14 rfl rfl
  | 15, h => cases h; exact df X G h15 sc15 (fun _ _ _ _ _ _ us hl => match us, hl with | [_], _ => rfl) ck15 rfl rfl
  | 16, h => cases h; exact df X G h16 sc16 (fun _ _ _ _ _ _ us hl => match us, hl with | [_], _ => rfl) ck16 rfl rfl
  | 17, h => cases h; exact df X G h17 sc17 (fun _ _ _ _ _ _ us hl => match us, hl with | [_], _ => rfl) ck17 rfl rfl
  | j + 18, h => exact absurd h (by rw [List.getElem?_eq_none (by show fns.length ≤ j + 18; rw [show fns.length = 18 from rfl]; omega)]; exact fun z => by cases z)
end HdK11
end H11
open PySem PySem.W PyProof.Rows
set_option maxHeartbeats 0 in
theorem PySem.Challenge.cw_forktales_k11_loose_ends_told_holds : PySem.Challenge.rw_forktales_k11_loose_ends_told.Holds := by
  w_on; o_law; k_head; (case hw => w_witness2)
  k_fill
  refine Ev.walk_ev (x := "law") (l := PySem.Challenge.rw_forktales_k11_loose_ends_told) (n := 63) (k := 80) (wf := 100000) (prog := K11.prog) (fns := HdK11.fns) (j := 17) rfl (by decide) rfl ⟨rfl, by decide, by decide⟩ (fun w h Y => PySem.W.kIn_of Y) rfl ?F K11.law_true
  case F =>
    intro w mg h KX G
    refine' HdK11.tab KX G ?d0 ?d1 ?d2 ?d3 ?d4 ?d5 ?d6 ?d7 ?d8 ?d9 ?d10 ?d11 ?d12 ?d13 ?d14 ?d15 ?d16 ?d17 ?z
    case d0 => (refine' HdK11.fx ?a ?l ?c ?k; (case a => k_is); (case l => k_is); (case c => k_is); (case k => k_is))
    case d1 => (refine' HdK11.fx ?a ?l ?c ?k; (case a => k_is); (case l => k_is); (case c => k_is); (case k => k_is))
    case d2 => (refine' HdK11.fx ?a ?l ?c ?k; (case a => k_is); (case l => k_is); (case c => k_is); (case k => k_is))
    case d3 => (refine' HdK11.fx ?a ?l ?c ?k; (case a => k_is); (case l => k_is); (case c => k_is); (case k => k_is))
    case d4 => (refine' HdK11.fx ?a ?l ?c ?k; (case a => k_is); (case l => k_is); (case c => k_is); (case k => k_is))
    case d5 => (refine' HdK11.fx ?a ?l ?c ?k; (case a => k_is); (case l => k_is); (case c => k_is); (case k => k_is))
    case d6 => (refine' HdK11.fx ?a ?l ?c ?k; (case a => k_is); (case l => k_is); (case c => k_is); (case k => k_is))
    case d7 => (refine' HdK11.fx ?a ?l ?c ?k; (case a => k_is); (case l => k_is); (case c => k_is); (case k => k_is))
    case d8 => (refine' HdK11.fx ?a ?l ?c ?k; (case a => k_is); (case l => k_is); (case c => k_is); (case k => k_is))
    case d9 => (refine' HdK11.fx ?a ?l ?c ?k; (case a => k_is); (case l => k_is); (case c => k_is); (case k => k_is))
    case d10 => (refine' HdK11.fx ?a ?l ?c ?k; (case a => k_is); (case l => k_is); (case c => k_is); (case k => k_is))
    case d11 => (refine' HdK11.fx ?a ?l ?c ?k; (case a => k_is); (case l => k_is); (case c => k_is); (case k => k_is))
    case d12 => (refine' HdK11.fx ?a ?l ?c ?k; (case a => k_is); (case l => k_is); (case c => k_is); (case k => k_is))
    case d13 => (refine' HdK11.fx ?a ?l ?c ?k; (case a => k_is); (case l => k_is); (case c => k_is); (case k => k_is))
    case d14 => (refine' HdK11.fx ?a ?l ?c ?k; (case a => k_is); (case l => k_is); (case c => k_is); (case k => k_is))
    case d15 => (refine' HdK11.fx ?a ?l ?c ?k; (case a => k_is); (case l => k_is); (case c => k_is); (case k => k_is))
    case d16 => (refine' HdK11.fx ?a ?l ?c ?k; (case a => k_is); (case l => k_is); (case c => k_is); (case k => k_is))
    case d17 => (refine' HdK11.fx ?a ?l ?c ?k; (case a => k_is); (case l => k_is); (case c => k_is); (case k => k_is))
    case z => (intro x hx; simp only [Ev.blts, List.mem_cons, List.not_mem_nil, or_false] at hx; rcases hx with rfl | rfl | rfl | rfl | rfl | rfl | rfl | rfl | rfl | rfl | rfl | rfl | rfl | rfl | rfl <;> k_is)
