import PyProof.Rows.All
import Wide.All
import OpenK.AllK
import Wide.FinOn
import KE.KStateDown
import Lean
import HandS.ForMost
import HandS.Defaults
import HandS.IsInst
import HandS.More
import HandS.Codes
import HandS.TupLe
import HandS.TupAny
import HandS.Conv
import HandS.Wide
import HandS.Walk
import KE.DataEq
import HandS.Head0
import HandS.Head1
import HandS.Head2
import HandS.HeadEnd
import HandS.HeadHook1
import HandS.HeadHook2
import HandS.HeadHook3
import HandS.HeadHook4
import HandS.Exc
import HandS.ExcField
import HandS.ExcIs
import HandS.ExcInit
import HandS.ExcValue
import HandS.TryOnly
import KE.KExcIs
import HandS.CallSlots
import HandS.ExcOwn
import HandS.Lambda
import PyProof.ExcBaseAll.ValueError
import HandS.Text
import KE.KIntText
import PyProof.Rows.Digits
import PyProof.Rows.StrOr
import KE.IntTextLaws
import PyProof.StrLawsTight
import PyProof.Rows.StrFromFirst
import KE.IntBitsLaws
import PyProof.FactsAll.dict_1
import PyProof.FactsAll.subtypes_3
import PyProof.FactsAll.subtypes_4
import HandS.SetKeys
import HandS.SetFor
import HandS.Strs
import HandS.SortInts
import HandS.Flow
import HandS.OwnEq
import PyProof.InstSpecial
import KE.KeyNested
import HandS.TupLen
import HandS.RevRange
import KE.GoesComp
import KE.KDictDisplayH
import PyProof.DictTable
import HandS.NoneIn
import HandS.SortRule
import KE.KSortTupAny
import HandS.DictTup
import HandS.DictEq
import PyProof.StrOps2
import KE.IntTextText
import HandS.Style
import HandS.Nested
import HandS.FStr
import PySem.Challenge.RW_forkgather_k55_long_texts
set_option Elab.async false
set_option linter.all false
set_option maxRecDepth 100000
set_option maxHeartbeats 4000000
namespace Fg
open PySem PySem.Spec PyProof.Rows L2
section
structure Chg (M : List Addr) (H H' : Hp) : Prop where
  keep : ∀ a o, H a = some o → a ∉ M → H' a = some o
  dom : ∀ a, H' a = none → H a = none
  tup : ∀ a xs, H a = some (.tup xs) → H' a = some (.tup xs)
theorem Chg.refl {M : List Addr} {H : Hp} : Chg M H H := ⟨fun _ _ h _ => h, fun _ h => h, fun _ _ h => h⟩
theorem Chg.new {H : Hp} {p : Addr} {o : HO} (n : H p = none) : Chg [] H (upd H p o) where
  keep := fun a u h _ => by rw [upd_ne (ne_of_none h n)]; exact h
  dom := fun a h => by
    by_cases e : a = p
    · subst e; exact n
    · rw [upd_ne e] at h; exact h
  tup := fun a xs h => by rw [upd_ne (ne_of_none h n)]; exact h
theorem Chg.mut {H : Hp} {p : Addr} {o u : HO} (h : H p = some u) (hm : ∀ xs, u ≠ .tup xs) : Chg [p] H (upd H p o) where
  keep := fun a v e hn => by rw [upd_ne (fun z => hn (by rw [z]; exact List.mem_singleton.mpr rfl))]; exact e
  dom := fun a e => by
    by_cases z : a = p
    · subst z; rw [upd_same] at e; cases e
    · rw [upd_ne z] at e; exact e
  tup := fun a xs e => by
    rw [upd_ne (fun z => by subst z; rw [h] at e; exact hm xs (Option.some.inj e))]; exact e
/-- then c', whose changed ones are changed ones of c or new ones -/
theorem Chg.go {M M' : List Addr} {H H1 H2 : Hp} (c : Chg M H H1) (c' : Chg M' H1 H2) (h : ∀ a ∈ M', a ∈ M ∨ H a = none) : Chg M H H2 where
  keep := fun a o e hn => c'.keep a o (c.keep a o e hn) (fun hm => (h a hm).elim hn fun z => by rw [z] at e; cases e)
  dom := fun a e => c.dom a (c'.dom a e)
  tup := fun a xs e => c'.tup a xs (c.tup a xs e)
theorem Chg.same {M : List Addr} {H H1 H2 : Hp} (c : Chg M H H1) (c' : Chg [] H1 H2) : Chg M H H2 := c.go c' fun a h => absurd h (by simp)
theorem Chg.pre {M : List Addr} {H H1 H2 : Hp} (c : Chg [] H H1) (c' : Chg M H1 H2) : Chg M H H2 :=
  ⟨fun a o e hn => c'.keep a o (c.keep a o e (by simp)) hn, fun a e => c.dom a (c'.dom a e), fun a xs e => c'.tup a xs (c.tup a xs e)⟩
theorem Chg.both {M : List Addr} {H H1 H2 : Hp} (c : Chg M H H1) (c' : Chg M H1 H2) : Chg M H H2 := c.go c' fun a h => .inl h
theorem Chg.wide {M M' : List Addr} {H H1 : Hp} (c : Chg M H H1) (h : ∀ a ∈ M, a ∈ M') : Chg M' H H1 := ⟨fun a o e hn => c.keep a o e fun z => hn (h a z), c.dom, c.tup⟩
theorem Chg.one {H H1 H2 : Hp} {p : Addr} (c : Chg [] H H1) (c' : Chg [p] H1 H2) (n : H p = none) : Chg [] H H2 :=
  c.go c' fun a h => .inr (by rw [List.mem_singleton.mp h]; exact n)
theorem Chg.at {H H' : Hp} {a : Addr} {o : HO} (c : Chg [] H H') (h : H a = some o) : H' a = some o := c.keep a o h (by simp)
theorem Chg.at1 {H H' : Hp} {a b : Addr} {o : HO} (c : Chg [b] H H') (h : H a = some o) (n : a ≠ b) : H' a = some o := c.keep a o h (by simpa using n)
theorem Chg.seq {K : PySem.W.Frag} {H H' : Hp} {a : Addr} {xs : List V} (c : Chg [] H H') (h : SqL K H a xs) : SqL K H' a xs := by
  rcases h with (h | ⟨o, h⟩) | h
  · exact .inl (.inl (c.at h))
  · exact .inl (.inr ⟨o, c.at h⟩)
  · exact .inr h
theorem sqL {K : PySem.W.Frag} {H : Hp} {a : Addr} {xs : List V} (h : H a = some (.lst xs)) : SqL K H a xs := .inl (.inl h)
theorem sqT {K : PySem.W.Frag} {H : Hp} {a : Addr} {xs : List V} (h : H a = some (.tup xs)) : SqT K H a xs := .inl (.inl h)
mutual
inductive R (S : Addr → Prop) (H : Hp) : V → PyData → Prop
  | non : R S H .non .none
  | bl (b : Bool) : R S H (.bl b) (.bool b)
  | int (i : Int) : R S H (.int i) (.int i)
  | str (x : Str) : R S H (.str x) (.str x)
  | lst {a : Addr} {xs : List V} {ds : List PyData} : S a → H a = some (.lst xs) → RA S H xs ds → R S H (.ref a) (.list ds)
  | tup {a : Addr} {xs : List V} {ds : List PyData} : H a = some (.tup xs) → RA S H xs ds → R S H (.ref a) (.tuple ds)
  | dic {a : Addr} {kvs : List (Key × V)} : S a → H a = some (.dK kvs) → R S H (.ref a) (.dict [])
inductive RA (S : Addr → Prop) (H : Hp) : List V → List PyData → Prop
  | nil : RA S H [] []
  | cons {v : V} {vs : List V} {d : PyData} {ds : List PyData} : R S H v d → RA S H vs ds → RA S H (v :: vs) (d :: ds)
end
mutual
theorem R.imp {S S' : Addr → Prop} {H H' : Hp} (hl : ∀ a xs, S a → H a = some (.lst xs) → S' a ∧ H' a = some (.lst xs)) (hd : ∀ a xs, S a → H a = some (.dK xs) → S' a ∧ H' a = some (.dK xs))
    (ht : ∀ a xs, H a = some (.tup xs) → H' a = some (.tup xs)) : ∀ {d : PyData} {v : V}, R S H v d → R S' H' v d
  | .none, _, h => by cases h; exact .non
  | .bool _, _, h => by cases h; exact .bl _
  | .int _, _, h => by cases h; exact .int _
  | .str _, _, h => by cases h; exact .str _
  | .list ds, _, h => by
    cases h with
    | lst s e r => exact .lst (hl _ _ s e).1 (hl _ _ s e).2 (RA.imp hl hd ht r)
  | .tuple ds, _, h => by
    cases h with
    | tup e r => exact .tup (ht _ _ e) (RA.imp hl hd ht r)
  | .dict _, _, h => by
    cases h with
    | dic s e => exact .dic (hd _ _ s e).1 (hd _ _ s e).2
theorem RA.imp {S S' : Addr → Prop} {H H' : Hp} (hl : ∀ a xs, S a → H a = some (.lst xs) → S' a ∧ H' a = some (.lst xs)) (hd : ∀ a xs, S a → H a = some (.dK xs) → S' a ∧ H' a = some (.dK xs))
    (ht : ∀ a xs, H a = some (.tup xs) → H' a = some (.tup xs)) : ∀ {ds : List PyData} {vs : List V}, RA S H vs ds → RA S' H' vs ds
  | [], _, h => by cases h; exact .nil
  | d :: ds, _, h => by
    cases h with
    | cons a b => exact .cons (R.imp hl hd ht a) (RA.imp hl hd ht b)
end
theorem R.keep {S : Addr → Prop} {M : List Addr} {H H' : Hp} {v : V} {d : PyData} (c : Chg M H H') (h : ∀ a, S a → a ∉ M) (r : R S H v d) : R S H' v d :=
  R.imp (fun a xs s e => ⟨s, c.keep a _ e (h a s)⟩) (fun a xs s e => ⟨s, c.keep a _ e (h a s)⟩) c.tup r
theorem RA.keep {S : Addr → Prop} {M : List Addr} {H H' : Hp} {v : List V} {d : List PyData} (c : Chg M H H') (h : ∀ a, S a → a ∉ M) (r : RA S H v d) : RA S H' v d :=
  RA.imp (fun a xs s e => ⟨s, c.keep a _ e (h a s)⟩) (fun a xs s e => ⟨s, c.keep a _ e (h a s)⟩) c.tup r
theorem R.mono {S S' : Addr → Prop} {H : Hp} {v : V} {d : PyData} (h : ∀ a, S a → S' a) (r : R S H v d) : R S' H v d :=
  R.imp (fun a xs s e => ⟨h a s, e⟩) (fun a xs s e => ⟨h a s, e⟩) (fun _ _ e => e) r
theorem RA.mono {S S' : Addr → Prop} {H : Hp} {v : List V} {d : List PyData} (h : ∀ a, S a → S' a) (r : RA S H v d) : RA S' H v d :=
  RA.imp (fun a xs s e => ⟨h a s, e⟩) (fun a xs s e => ⟨h a s, e⟩) (fun _ _ e => e) r
/-- all that stands in H stands in H' -/
theorem R.same {S : Addr → Prop} {H H' : Hp} {v : V} {d : PyData} (c : Chg [] H H') (r : R S H v d) : R S H' v d := r.keep c fun _ _ => by simp
theorem RA.same {S : Addr → Prop} {H H' : Hp} {v : List V} {d : List PyData} (c : Chg [] H H') (r : RA S H v d) : RA S H' v d := r.keep c fun _ _ => by simp
/-- data without lists -/
abbrev Im : Hp → V → PyData → Prop := R (fun _ => False)
abbrev ImA : Hp → List V → List PyData → Prop := RA (fun _ => False)
theorem R.im {M : List Addr} {H H' : Hp} {v : V} {d : PyData} (c : Chg M H H') (r : Im H v d) : Im H' v d := R.keep c (fun _ z => z.elim) r
theorem RA.im {M : List Addr} {H H' : Hp} {v : List V} {d : List PyData} (c : Chg M H H') (r : ImA H v d) : ImA H' v d := RA.keep c (fun _ z => z.elim) r
theorem R.any {S : Addr → Prop} {H : Hp} {v : V} {d : PyData} (r : Im H v d) : R S H v d := r.mono fun _ z => z.elim
theorem RA.any {S : Addr → Prop} {H : Hp} {v : List V} {d : List PyData} (r : ImA H v d) : RA S H v d := r.mono fun _ z => z.elim
theorem RA.length {S : Addr → Prop} {H : Hp} : ∀ {vs : List V} {ds : List PyData}, RA S H vs ds → vs.length = ds.length
  | _, _, .nil => rfl
  | _, _, .cons _ r => by rw [List.length_cons, List.length_cons, r.length]
theorem RA.get {S : Addr → Prop} {H : Hp} : ∀ {vs : List V} {ds : List PyData} {i : Nat} {v : V}, RA S H vs ds → vs[i]? = some v → ∃ d, ds[i]? = some d ∧ R S H v d
  | _, _, _, _, .nil, h => by simp at h
  | _, _, 0, _, .cons a r, h => ⟨_, rfl, by cases (Option.some.inj (show some _ = some _ from h)); exact a⟩
  | _, _, i + 1, _, .cons a r, h => RA.get (i := i) r h
theorem RA.snoc {S : Addr → Prop} {H : Hp} : ∀ {vs : List V} {ds : List PyData} {v : V} {d : PyData}, RA S H vs ds → R S H v d → RA S H (vs ++ [v]) (ds ++ [d])
  | _, _, _, _, .nil, h => .cons h .nil
  | _, _, _, _, .cons a r, h => .cons a (r.snoc h)
theorem RA.drop {S : Addr → Prop} {H : Hp} : ∀ {vs : List V} {ds : List PyData} (n : Nat), RA S H vs ds → RA S H (vs.drop n) (ds.drop n)
  | _, _, 0, h => h
  | _, _, _ + 1, .nil => .nil
  | _, _, n + 1, .cons _ r => r.drop n
theorem RA.take {S : Addr → Prop} {H : Hp} : ∀ {vs : List V} {ds : List PyData} (n : Nat), RA S H vs ds → RA S H (vs.take n) (ds.take n)
  | _, _, 0, _ => .nil
  | _, _, _ + 1, .nil => .nil
  | _, _, n + 1, .cons a r => .cons a (r.take n)
/-- no dict in it -/
abbrev noDic : PyData → Bool := PyData.plain
abbrev noDics : List PyData → Bool := PyData.plainAll
mutual
theorem eqv_self : ∀ d : PyData, noDic d = true → PyData.eqv d d = true
  | .none, _ => rfl
  | .bool b, _ => by simp [PyData.eqv]
  | .int i, _ => by simp [PyData.eqv]
  | .str x, _ => by simp [PyData.eqv]
  | .list xs, h => by
    show PyData.eqvAll xs xs = true
    exact eqvAll_self xs h
  | .tuple xs, h => by
    show PyData.eqvAll xs xs = true
    exact eqvAll_self xs h
  | .dict _, h => by cases h
theorem eqvAll_self : ∀ ds : List PyData, noDics ds = true → PyData.eqvAll ds ds = true
  | [], _ => rfl
  | d :: ds, h => by
    obtain ⟨h1, h2⟩ := Bool.and_eq_true_iff.mp (show (noDic d && noDics ds) = true from h)
    show (PyData.eqv d d && PyData.eqvAll ds ds) = true
    rw [eqv_self d h1, eqvAll_self ds h2]
    rfl
end
mutual
theorem R.dp {K : PySem.W.Frag} {S : Addr → Prop} {H : Hp} : ∀ {d : PyData} {v : V}, R S H v d → noDic d = true → Dp K H v d
  | .none, _, h, _ => by cases h; exact .non
  | .bool _, _, h, _ => by cases h; exact .bl _
  | .int _, _, h, _ => by cases h; exact .int _
  | .str _, _, h, _ => by cases h; exact .str _
  | .list ds, _, h, z => by
    cases h with
    | lst s e r => exact .lst (sqL e) (RA.dp r z)
  | .tuple ds, _, h, z => by
    cases h with
    | tup e r => exact .tup (sqT e) (RA.dp r z)
  | .dict _, _, h, z => by cases z
theorem RA.dp {K : PySem.W.Frag} {S : Addr → Prop} {H : Hp} : ∀ {ds : List PyData} {vs : List V}, RA S H vs ds → noDics ds = true → DpAll K H vs ds
  | [], _, h, _ => by cases h; exact .nil
  | d :: ds, _, h, z => by
    obtain ⟨z1, z2⟩ := Bool.and_eq_true_iff.mp (show (noDic d && noDics ds) = true from z)
    cases h with
    | cons a b => exact .cons (R.dp a z1) (RA.dp b z2)
end
end
section
section
variable {X : Cx}
def oAdd : R2 := rI0 fun i j => .int (i + j)
def oSub : R2 := rI0 fun i j => .int (i - j)
def oMul : R2 := rI CMul fun i j => .int (i * j)
def oFdiv : R2 := rI CDivW fun i j => .int (i / j)
def oMod : R2 := rI (fun _ j => 0 < j) fun i j => .int (i % j)
def CPowW (i j : Int) : Prop := 0 ≤ j ∧ (Builtin.Int.intBits i : Int) * j ≤ 2 ^ 27
def oPow : R2 := rI CPowW fun i j => .int (i ^ j.toNat)
def oLt : R2 := rI0 fun i j => .bl (decide (i < j))
def oLe : R2 := rI0 fun i j => .bl (decide (i ≤ j))
def oGt : R2 := rI0 fun i j => .bl (decide (j < i))
def oGe : R2 := rI0 fun i j => .bl (decide (j ≤ i))
def oAddS : R2 := fun x y H Q => ∃ i j, x = .str i ∧ y = .str j ∧ i.length + j.length ≤ sizeLine ∧ Q (.str (i ++ j)) H
def oLtS : R2 := fun x y H Q => ∃ i j, x = .str i ∧ y = .str j ∧ Q (.bl (decide (i.cps.toList < j.cps.toList))) H
def oGeS : R2 := fun x y H Q => ∃ i j, x = .str i ∧ y = .str j ∧ Q (.bl (!decide (i.cps.toList < j.cps.toList))) H
def oInC : R2 := fun x y H Q => ∃ (c : Nat) (z : Str), x = .str ⟨#[c]⟩ ∧ y = .str z ∧ Q (.bl (decide (c ∈ z.cps.toList))) H
def oNotInC : R2 := fun x y H Q => ∃ (c : Nat) (z : Str), x = .str ⟨#[c]⟩ ∧ y = .str z ∧ Q (.bl (!decide (c ∈ z.cps.toList))) H
def oIsN : R2 := fun x y H Q => y = .non ∧ Q (.bl (decide (x = .non))) H
def oNotN : R2 := fun x y H Q => y = .non ∧ Q (.bl (!decide (x = .non))) H
def oIsB : R2 := fun x y H Q => ∃ a b, x = .bl a ∧ y = .bl b ∧ Q (.bl (decide (a = b))) H
def oNotB : R2 := fun x y H Q => ∃ a b, x = .bl a ∧ y = .bl b ∧ Q (.bl (!decide (a = b))) H
def oNotInKd (K : PySem.W.Frag) (d : Addr) : R2 := fun x y H Q => ∃ (z : Str) (r : Option Value), x = .str z ∧ y = .ref d ∧ PySem.W.nsIn K d z = some r ∧ Q (.bl (!r.isSome)) H
def oEqD : R2 := fun x y H Q => ∃ (d e : PyData) (S S' : Addr → Prop), R S H x d ∧ R S' H y e ∧ noDic d = true ∧ noDic e = true ∧ min d.depth e.depth ≤ 60 ∧ Q (.bl (PyData.eqv d e)) H
theorem p_eqD (hu : X.A.units + 64 < cLine) : OpR X (compareOp .Eq) oEqD := by
  intro pins s σ H x y v u Q I rx ry h
  obtain ⟨d, e, S, S', hd, he, sd, se, hm, q⟩ := h
  obtain ⟨as, r1⟩ := Dp.reads I d x v (hd.dp sd) rx
  obtain ⟨bs, r2⟩ := Dp.reads I e y u (he.dp se) ry
  exact SeqAt.eq_plain r1 r2 sd se (by omega) ⟨.bl _, H, I, rfl, q⟩
def mJoin (K : PySem.W.Frag) : V → List V → Hp → VK → Prop := fun x xs H Q => ∃ a p, ∃ ys : List Str, x = .str a ∧ xs = [.ref p] ∧ (SqL K H p (ys.map V.str) ∨ SqT K H p (ys.map V.str)) ∧ (ys.map (·.length)).sum + ys.length * a.length ≤ 16777216 ∧ Q (.str (Txt.join a ys)) H
def mSplit : V → List V → Hp → VK → Prop := fun x xs H Q => ∃ a b, x = .str a ∧ xs = [.str b] ∧ (b.length == 0) = false ∧ a.length + 2 ≤ sizeLine ∧ rNewStrs (Txt.split a b) H Q
def mPartition : V → List V → Hp → VK → Prop := fun x xs H Q => ∃ a b, x = .str a ∧ xs = [.str b] ∧ (b.length == 0) = false ∧ a.length ≤ sizeLine ∧ ∀ p, H p = none → Q (.ref p) (upd H p (.tup [.str (Txt.partition a b).1, .str (Txt.partition a b).2.1, .str (Txt.partition a b).2.2]))
theorem p_add : OpR X (binaryOp .Add) oAdd := op_add
theorem p_sub : OpR X (binaryOp .Sub) oSub := op_sub
theorem p_mul : OpR X (binaryOp .Mult) oMul := op_mul
theorem p_fdiv : OpR X (binaryOp .FloorDiv) oFdiv := op_fdivW
theorem p_mod : OpR X (binaryOp .Mod) oMod := op_mod
theorem p_pow : OpR X (binaryOp .Pow) oPow := opI fun _ _ _ _ _ _ _ hc q => pow_int hc.1 hc.2 q
theorem p_lt : OpR X (compareOp .Lt) oLt := op_lt
theorem p_le : OpR X (compareOp .LtE) oLe := op_le
theorem p_gt : OpR X (compareOp .Gt) oGt := op_gt
theorem p_ge : OpR X (compareOp .GtE) oGe := op_ge
theorem p_addS : OpR X (binaryOp .Add) oAddS := op_add_str
theorem p_ltS : OpR X (compareOp .Lt) oLtS := op_lt_str
theorem p_geS : OpR X (compareOp .GtE) oGeS := op_ge_str
theorem p_inC : OpR X (compareOp .In) oInC := op_in_sign
theorem p_notInC : OpR X (compareOp .NotIn) oNotInC := op_notIn_sign
theorem p_isN : OpR X (compareOp .Is) oIsN := op_isN
theorem p_notN : OpR X (compareOp .IsNot) oNotN := op_notN
def cMax : List V → Hp → VK → Prop := fun xs H Q => ∃ i j, xs = [.int i, .int j] ∧ Q (.int (if j > i then j else i)) H
def cMin : List V → Hp → VK → Prop := fun xs H Q => ∃ i j, xs = [.int i, .int j] ∧ Q (.int (if j < i then j else i)) H
def cAbs : List V → Hp → VK → Prop := fun xs H Q => ∃ i, xs = [.int i] ∧ Q (.int (if i < 0 then -i else i)) H
def cInt : List V → Hp → VK → Prop := fun xs H Q => (∃ i, xs = [.int i] ∧ Q (.int i) H) ∨ ∃ k, xs = [.bl k] ∧ Q (.int (if k then 1 else 0)) H
def cLenQ (K : PySem.W.Frag) : List V → Hp → VK → Prop := fun xs H Q => ∃ p ys, xs = [.ref p] ∧ (SqL K H p ys ∨ SqT K H p ys) ∧ Q (.int ys.length) H
def cLenS : List V → Hp → VK → Prop := fun xs H Q => ∃ z, xs = [.str z] ∧ z.length ≤ sizeLine ∧ Q (.int z.length) H
def cTupQ (K : PySem.W.Frag) : List V → Hp → VK → Prop := fun xs H Q => ∃ p ys, xs = [.ref p] ∧ ((SqL K H p ys ∧ ∀ l, H l = none → Q (.ref l) (upd H l (.tup ys))) ∨ (SqT K H p ys ∧ Q (.ref p) H))
theorem p_max (hc : X.calm = true) : CallR X (.builtin "max") cMax := call_max2 hc
theorem p_int : CallR X (.type "int") cInt := call_int1
theorem p_lenQ : CallR X (.builtin "len") (cLenQ X.K) := call_len_seq
theorem p_lenS : CallR X (.builtin "len") cLenS := call_len_str
theorem p_tupQ : CallR X (.type "tuple") (cTupQ X.K) := call_tuple_of
end
section
variable {K : PySem.W.Frag} {σ : L2.St} {H : Hp} {D : Ends} {te ta tb tc : TE} {tr : TA} {g : TG} {gs : TGs} {t u : TS} {c c' : TT} {r r' : R2} {Q : VK} {QB : Bool → Hp → Prop} {QA : List V → Hp → Prop} {QS : L2.St → Hp → Prop} {QO : Option Int → Hp → Prop} {i j : Int} {n : Nat} {v x y : V} {vs xs : List V} {p a : Addr} {z z' : Str} {b : Bool}
theorem w_seq (h : t { D with nx := u D } σ H) : tSeq t u D σ H := h
theorem w_next (h : D.nx σ H) : tNext D σ H := h
theorem w_drop (h : te σ H fun _ H1 => D.nx σ H1) : tDrop te D σ H := h
theorem w_ret (h : te σ H D.rt) : tRet te D σ H := h
theorem w_retN (h : D.rt .non H) : tRetN D σ H := h
theorem w_if (h : c σ H fun b H1 => if b = true then t D σ H1 else u D σ H1) : tIfS c t u D σ H := h
theorem w_asg (h : te σ H fun x H1 => g x σ H1 D.nx) : tAsg te g D σ H := h
theorem w_gName (h : QS (σ.set n (some v)) H) : gName n v σ H QS := h
theorem w_gTup (h : H a = some (.tup xs)) (hl : xs.length = n) (q : gs xs σ H QS) : gTup K n gs (.ref a) σ H QS := ⟨a, xs, rfl, sqT h, hl, q⟩
theorem w_gCons (h : g v σ H fun σ' H' => gs vs σ' H' QS) : gCons g gs (v :: vs) σ H QS := ⟨v, vs, rfl, h⟩
theorem w_gNil (h : QS σ H) : gNil [] σ H QS := ⟨rfl, h⟩
theorem w_gSub {to ti : TE} {ts : TSet} (h : to σ H fun o H1 => ti σ H1 fun i H2 => ts o i v H2 fun H3 => QS σ H3) : gSub to ti ts v σ H QS := h
theorem w_aug {ti : TIp} (h : σ[n]? = some (some x)) (q : te σ H fun y H1 => ti x y H1 fun z H2 => D.nx (σ.set n (some z)) H2) : tAug n te ti D σ H := ⟨x, h, q⟩
theorem w_ipI {f : Int → Int → Int} (q : Q (.int (f i j)) H) : ipI f (.int i) (.int j) H Q := ⟨i, j, rfl, rfl, q⟩
theorem w_var (h : σ[n]? = some (some v)) (q : Q v H) : tVar n σ H Q := ⟨v, h, q⟩
theorem w_c (q : Q v H) : tC v σ H Q := q
theorem w_op (h : ta σ H fun x H1 => tb σ H1 fun y H2 => r x y H2 Q) : tOp r ta tb σ H Q := h
theorem w_un {ru : V → Hp → VK → Prop} (h : ta σ H fun x H1 => ru x H1 Q) : tUn ru ta σ H Q := h
theorem w_neg (q : Q (.int (-i)) H) : rU (fun i => .int (-i)) (.int i) H Q := ⟨i, rfl, q⟩
theorem w_nil (q : QA [] H) : tNil σ H QA := q
theorem w_cons (h : ta σ H fun x H1 => tr σ H1 fun xs H2 => QA (x :: xs) H2) : tCons ta tr σ H QA := h
theorem w_cb {rc : List V → Hp → VK → Prop} (h : tr σ H fun vs H1 => rc vs H1 Q) : tCB rc tr σ H Q := h
theorem w_call {sp : Sp} {dvs : List V} {E : XK} (h : tr σ H fun vs H1 => sp (vs ++ dvs) H1 Q E) : tCall sp dvs E tr σ H Q := h
theorem w_test (h : te σ H fun x H' => ∃ k, x = .bl k ∧ QB k H') : tTest te σ H QB := h
theorem w_B (h : te σ H fun x H' => ∃ k, x = .bl k ∧ QB k H') : tB te σ H QB := h
theorem w_isbl {P : Bool → Prop} (q : P b) : ∃ k, V.bl b = .bl k ∧ P k := ⟨b, rfl, q⟩
theorem w_and (h : c σ H fun b H1 => if b = true then c' σ H1 QB else QB false H1) : tAnd c c' σ H QB := h
theorem w_or (h : c σ H fun b H1 => if b = true then QB true H1 else c' σ H1 QB) : tOr c c' σ H QB := h
theorem w_not (h : c σ H fun b H1 => QB (!b) H1) : tNot c σ H QB := h
theorem w_andV (h : ta σ H fun x H1 => ∃ c, x = .bl c ∧ if c = true then tb σ H1 Q else Q (.bl false) H1) : tAndV ta tb σ H Q := h
theorem w_orV (h : ta σ H fun x H1 => ∃ c, x = .bl c ∧ if c = true then Q (.bl true) H1 else tb σ H1 Q) : tOrV ta tb σ H Q := h
theorem w_notV (h : ta σ H fun x H1 => ∃ c, x = .bl c ∧ Q (.bl (!c)) H1) : tNotV ta σ H Q := h
theorem w_ifE (h : c σ H fun b H1 => if b = true then ta σ H1 Q else tb σ H1 Q) : tIf c ta tb σ H Q := h
theorem w_chain (h : ta σ H fun x H1 => tb σ H1 fun y H2 => r x y H2 fun z H3 => ∃ k, z = .bl k ∧ (if k = true then tc σ H3 fun w' H4 => r' y w' H4 Q else Q (.bl false) H3)) : tChain r r' ta tb tc σ H Q := h
/-- the last part of a display -/
def KTup (Q : VK) : List V → Hp → Prop := fun xs H1 => xs.length ≤ sizeLine ∧ ∀ p, H1 p = none → Q (.ref p) (upd H1 p (.tup xs))
def KLst (Q : VK) : List V → Hp → Prop := fun xs H1 => xs.length ≤ sizeLine ∧ ∀ p, H1 p = none → Q (.ref p) (upd H1 p (.lst xs))
theorem w_tup1 (h : tr σ H (KTup Q)) : tTup tr σ H Q := h
theorem w_lst1 (h : tr σ H (KLst Q)) : tLst tr σ H Q := h
theorem k_tup {H1 : Hp} (hl : xs.length ≤ sizeLine) (h : ∀ p H2, H1 p = none → Chg [] H1 H2 → H2 p = some (.tup xs) → Q (.ref p) H2) : KTup Q xs H1 := ⟨hl, fun p np => h p _ np (.new np) upd_same⟩
theorem k_lst {H1 : Hp} (hl : xs.length ≤ sizeLine) (h : ∀ p H2, H1 p = none → Chg [] H1 H2 → H2 p = some (.lst xs) → Q (.ref p) H2) : KLst Q xs H1 := ⟨hl, fun p np => h p _ np (.new np) upd_same⟩
/-- a new object -/
theorem d_new {H1 : Hp} {o : HO} (h : ∀ p H2, H1 p = none → Chg [] H1 H2 → H2 p = some o → Q (.ref p) H2) : ∀ p, H1 p = none → Q (.ref p) (upd H1 p o) := fun p np => h p _ np (.new np) upd_same
theorem w_add (q : Q (.int (i + j)) H) : oAdd (.int i) (.int j) H Q := ⟨i, j, rfl, rfl, q⟩
theorem w_sub (q : Q (.int (i - j)) H) : oSub (.int i) (.int j) H Q := ⟨i, j, rfl, rfl, q⟩
theorem w_mul (h : CMul i j) (q : Q (.int (i * j)) H) : oMul (.int i) (.int j) H Q := ⟨i, j, rfl, rfl, h, q⟩
theorem w_fdiv (h : CDivW i j) (q : Q (.int (i / j)) H) : oFdiv (.int i) (.int j) H Q := ⟨i, j, rfl, rfl, h, q⟩
theorem w_mod (h : 0 < j) (q : Q (.int (i % j)) H) : oMod (.int i) (.int j) H Q := ⟨i, j, rfl, rfl, h, q⟩
theorem w_pow (h : CPowW i j) (q : Q (.int (i ^ j.toNat)) H) : oPow (.int i) (.int j) H Q := ⟨i, j, rfl, rfl, h, q⟩
theorem w_lt (q : Q (.bl (decide (i < j))) H) : oLt (.int i) (.int j) H Q := ⟨i, j, rfl, rfl, q⟩
theorem w_le (q : Q (.bl (decide (i ≤ j))) H) : oLe (.int i) (.int j) H Q := ⟨i, j, rfl, rfl, q⟩
theorem w_gt (q : Q (.bl (decide (j < i))) H) : oGt (.int i) (.int j) H Q := ⟨i, j, rfl, rfl, q⟩
theorem w_ge (q : Q (.bl (decide (j ≤ i))) H) : oGe (.int i) (.int j) H Q := ⟨i, j, rfl, rfl, q⟩
theorem w_addS (h : z.length + z'.length ≤ sizeLine) (q : Q (.str (z ++ z')) H) : oAddS (.str z) (.str z') H Q := ⟨z, z', rfl, rfl, h, q⟩
theorem w_ltS (q : Q (.bl (decide (z.cps.toList < z'.cps.toList))) H) : oLtS (.str z) (.str z') H Q := ⟨z, z', rfl, rfl, q⟩
theorem w_geS (q : Q (.bl (!decide (z.cps.toList < z'.cps.toList))) H) : oGeS (.str z) (.str z') H Q := ⟨z, z', rfl, rfl, q⟩
theorem w_inC {c : Nat} (q : Q (.bl (decide (c ∈ z.cps.toList))) H) : oInC (.str ⟨#[c]⟩) (.str z) H Q := ⟨c, z, rfl, rfl, q⟩
theorem w_notInC {c : Nat} (q : Q (.bl (!decide (c ∈ z.cps.toList))) H) : oNotInC (.str ⟨#[c]⟩) (.str z) H Q := ⟨c, z, rfl, rfl, q⟩
theorem w_isN (q : Q (.bl (decide (x = .non))) H) : oIsN x .non H Q := ⟨rfl, q⟩
theorem w_notN (q : Q (.bl (!decide (x = .non))) H) : oNotN x .non H Q := ⟨rfl, q⟩
theorem w_isB {b' : Bool} (q : Q (.bl (decide (b = b'))) H) : oIsB (.bl b) (.bl b') H Q := ⟨b, b', rfl, rfl, q⟩
theorem w_notB {b' : Bool} (q : Q (.bl (!decide (b = b'))) H) : oNotB (.bl b) (.bl b') H Q := ⟨b, b', rfl, rfl, q⟩
theorem w_eq (h : scal x y = true) (q : Q (.bl (decide (x = y))) H) : rEq x y H Q := ⟨h, q⟩
theorem w_ne (h : scal x y = true) (q : Q (.bl (!decide (x = y))) H) : rNe x y H Q := ⟨h, q⟩
theorem w_eqD {d e : PyData} {S S' : Addr → Prop} (hd : R S H x d) (he : R S' H y e) (sd : noDic d = true) (se : noDic e = true) (hm : min d.depth e.depth ≤ 60) (q : Q (.bl (PyData.eqv d e)) H) : oEqD x y H Q := ⟨d, e, S, S', hd, he, sd, se, hm, q⟩
theorem w_m1 {rm : V → List V → Hp → VK → Prop} (h : ta σ H fun x H1 => (∃ a, x = .str a) ∧ tb σ H1 fun y H2 => rm x [y] H2 Q) : tM1 rm ta tb σ H Q := h
theorem w_isstr {P : Prop} (q : P) : (∃ a, V.str z = .str a) ∧ P := ⟨⟨z, rfl⟩, q⟩
theorem w_join {ys : List Str} (h : SqL K H p (ys.map V.str)) (hs : (ys.map (·.length)).sum + ys.length * z.length ≤ 16777216) (q : Q (.str (Txt.join z ys)) H) : mJoin K (.str z) [.ref p] H Q := ⟨z, p, ys, rfl, rfl, .inl h, hs, q⟩
theorem w_ixL (h : SqL K H p xs) (ha : atI xs i = some v) (q : Q v H) : rIxL K (.ref p) (.int i) H Q := ⟨p, xs, i, v, rfl, rfl, h, ha, q⟩
theorem w_ixT (h : H p = some (.tup xs)) (ha : atI xs i = some v) (q : Q v H) : rIxT K (.ref p) (.int i) H Q := ⟨p, xs, i, v, rfl, rfl, sqT h, ha, q⟩
theorem w_ixS {c : Nat} (h : z.length ≤ sizeLine) (ha : atI z.cps.toList i = some c) (q : Q (.str ⟨#[c]⟩) H) : rIxS (.str z) (.int i) H Q := ⟨z, i, c, rfl, rfl, h, ha, q⟩
theorem w_setL {k : Nat} {P : Hp → Prop} (h : H p = some (.lst xs)) (ha : ixN xs.length i = some k) (q : ∀ H', Chg [p] H H' → H' p = some (.lst (xs.set k v)) → P H') : rSetL (.ref p) (.int i) v H P :=
  ⟨p, xs, i, k, rfl, rfl, h, ha, q _ (.mut h fun _ z => nomatch z) upd_same⟩
theorem w_max (q : Q (.int (if j > i then j else i)) H) : cMax [.int i, .int j] H Q := ⟨i, j, rfl, q⟩
theorem w_min (q : Q (.int (if j < i then j else i)) H) : cMin [.int i, .int j] H Q := ⟨i, j, rfl, q⟩
theorem w_abs (q : Q (.int (if i < 0 then -i else i)) H) : cAbs [.int i] H Q := ⟨i, rfl, q⟩
theorem w_intB (q : Q (.int (if b then 1 else 0)) H) : cInt [.bl b] H Q := .inr ⟨b, rfl, q⟩
theorem w_intI (q : Q (.int i) H) : cInt [.int i] H Q := .inl ⟨i, rfl, q⟩
theorem w_lenL (h : SqL K H p xs) (q : Q (.int xs.length) H) : cLenQ K [.ref p] H Q := ⟨p, xs, rfl, .inl h, q⟩
theorem w_lenT (h : H p = some (.tup xs)) (q : Q (.int xs.length) H) : cLenQ K [.ref p] H Q := ⟨p, xs, rfl, .inr (sqT h), q⟩
theorem w_lenS (h : z.length ≤ sizeLine) (q : Q (.int z.length) H) : cLenS [.str z] H Q := ⟨z, rfl, h, q⟩
theorem w_all {bs : List Bool} (h : H p = some (.lst (bs.map V.bl))) (q : Q (.bl (bs.all id)) H) : rAll K [.ref p] H Q := ⟨p, bs, rfl, sqL h, q⟩
theorem w_append (h : H p = some (.lst xs)) (hl : xs.length < sizeLine) (q : ∀ H', Chg [p] H H' → H' p = some (.lst (xs ++ [y])) → Q .non H') : rAppend (.ref p) [y] H Q :=
  ⟨p, xs, y, rfl, rfl, h, hl, q _ (.mut h fun _ z => nomatch z) upd_same⟩
theorem w_bm {T : String} {rm : V → List V → Hp → VK → Prop} (h : te σ H fun x H1 => tyV K T x H1 ∧ tr σ H1 fun ys H2 => rm x ys H2 Q) : tBM K T rm te tr σ H Q := h
theorem w_bm0 {T : String} {rm : V → List V → Hp → VK → Prop} (h : te σ H fun x H1 => tyV K T x H1 ∧ rm x [] H1 Q) : tBM0 K T rm te σ H Q := h
theorem w_tyL {A : Prop} (h : H p = some (.lst xs)) (q : A) : tyV K "list" (.ref p) H ∧ A := ⟨.inl ⟨rfl, _, sqL h⟩, q⟩
theorem w_part (h : te σ H fun x H1 => ∃ i, x = .int i ∧ QO (some i) H1) : tPart te σ H QO := h
theorem w_isint {P : Int → Prop} (q : P i) : ∃ k, V.int i = .int k ∧ P k := ⟨i, rfl, q⟩
theorem w_noPart (h : QO none H) : tNoPart σ H QO := h
theorem w_sl {rs : V → Option Int → Option Int → Hp → VK → Prop} {tl th : TO} (h : te σ H fun x H1 => tl σ H1 fun l H2 => th σ H2 fun u H3 => rs x l u H3 Q) : tSl rs te tl th σ H Q := h
theorem w_slS {lo hi : Option Int} (h : z.length ≤ sizeLine) (q : Q (.str (cutS z lo hi)) H) : rSlS (.str z) lo hi H Q := ⟨z, rfl, h, q⟩
theorem w_slL {lo hi : Option Int} (h : SqL K H p xs) (q : ∀ p' H2, H p' = none → Chg [] H H2 → H2 p' = some (.lst (cutV xs lo hi)) → Q (.ref p') H2) : rSlL K (.ref p) lo hi H Q := ⟨p, xs, rfl, h, d_new q⟩
/-- tests -/
theorem w_iteT {A B : Prop} (h : A) : if true = true then A else B := iteT h
theorem w_iteF {A B : Prop} (h : B) : if false = true then A else B := iteF h
theorem w_iteB {A B : Prop} (h1 : b = true → A) (h2 : b = false → B) : if b = true then A else B := by
  cases b with
  | true => exact iteT (h1 rfl)
  | false => exact iteF (h2 rfl)
theorem w_iteD {P A B : Prop} [Decidable P] (h1 : P → A) (h2 : ¬ P → B) : if decide P = true then A else B := w_iteB (fun e => h1 (of_decide_eq_true e)) (fun e => h2 (of_decide_eq_false e))
theorem w_iteN {A B : Prop} (h : if b = true then B else A) : if (!b) = true then A else B := by cases b <;> simpa using h
theorem w_iteYes {A B : Prop} (e : b = true) (h : A) : if b = true then A else B := by rw [e]; exact iteT h
theorem w_iteNo {A B : Prop} (e : b = false) (h : B) : if b = true then A else B := by rw [e]; exact iteF h
end
section
variable {K : PySem.W.Frag} {σ : L2.St} {H : Hp} {D : Ends} {td ty tv : TE} {p : Addr} {v : V} {k : Key} {kvs : List (Key × V)}
theorem w_dput (h : tv σ H fun v H1 => td σ H1 fun x H2 => ty σ H2 fun y H3 => ∃ a H4, x = .ref a ∧ DPut H3 a y v H4 ∧ D.nx σ H4) : sDPut td ty tv D σ H := h
end
theorem at0 {α : Type} {x0 : α} {xs : List α} : atI (x0 :: xs) 0 = some x0 := atI_nat (j := 0) rfl
theorem at1 {α : Type} {x0 x1 : α} {xs : List α} : atI (x0 :: x1 :: xs) 1 = some x1 := atI_nat (j := 1) rfl
theorem at2 {α : Type} {x0 x1 x2 : α} {xs : List α} : atI (x0 :: x1 :: x2 :: xs) 2 = some x2 := atI_nat (j := 2) rfl
theorem at3 {α : Type} {x0 x1 x2 x3 : α} {xs : List α} : atI (x0 :: x1 :: x2 :: x3 :: xs) 3 = some x3 := atI_nat (j := 3) rfl
theorem atN {α : Type} {xs : List α} {i : Int} {v : α} (h0 : 0 ≤ i) (h : xs[i.toNat]? = some v) : atI xs i = some v := by
  have e : ((i.toNat : Nat) : Int) = i := by omega
  have q := atI_nat (xs := xs) h
  rw [e] at q
  exact q
/-- at a drawn place -/
theorem atD {α : Type} {xs : List α} {i : Int} (h0 : 0 ≤ i) (h1 : i < xs.length) : ∃ v, atI xs i = some v ∧ v ∈ xs := by
  have hl : i.toNat < xs.length := by omega
  exact ⟨xs[i.toNat], atN h0 (List.getElem?_eq_getElem hl), List.getElem_mem hl⟩
end
section
/-- what holds ahead of the i-th turn: D the new list, Iv by the address, the turn, the list so far, the heap -/
def LcP (D : Addr) (Iv : Addr → Nat → List V → Hp → Prop) (i : Nat) : Hp → Prop := fun H5 => ∃ acc, acc.length = i ∧ H5 D = some (.lst acc) ∧ Iv D i acc H5
/-- what is wanted of an item -/
def LcK (D : Addr) (Iv : Addr → Nat → List V → Hp → Prop) (i : Nat) : VK := fun y H4 => ∃ acc, H4 D = some (.lst acc) ∧ acc.length < sizeLine ∧ LcP D Iv (i + 1) (upd H4 D (.lst (acc ++ [y])))
theorem lc_end {D : Addr} {Iv : Addr → Nat → List V → Hp → Prop} {i : Nat} {y : V} {H4 : Hp} {acc : List V} (h : H4 D = some (.lst acc)) (hl : acc.length = i) (hz : i ≤ 100000) (q : ∀ H5, Chg [D] H4 H5 → H5 D = some (.lst (acc ++ [y])) → Iv D (i + 1) (acc ++ [y]) H5) : LcK D Iv i y H4 := by
  subst hl
  exact ⟨acc, h, Nat.lt_of_le_of_lt hz (by decide), acc ++ [y], by simp, upd_same, q _ (.mut h fun _ e => nomatch e) upd_same⟩
theorem w_lcW {J : It} {n : Nat} {G : Hp → Prop} {Y : Nat → Hp → V → Hp → Prop} {g : TG} {te : TE} {tt : TT} {vs : List Nat} {σ : L2.St} {H : Hp} {Q : Addr → Hp → Prop} (w : L2.Walk J n G Y) (Iv : Addr → Nat → List V → Hp → Prop)
    (h0 : ∀ D H1, H D = none → Chg [] H H1 → H1 D = some (.lst []) → Iv D 0 [] H1) (hG : ∀ D i acc H1, i ≤ n → H D = none → Iv D i acc H1 → G H1)
    (hs : ∀ D i acc x H1 H2, i < n → H D = none → H1 D = some (.lst acc) → acc.length = i → Iv D i acc H1 → Y i H1 x H2 → g x (wipe σ vs) H2 fun σ2 H3 => wipe σ2 vs = wipe σ vs ∧
      tt σ2 H3 fun b H3 => if b = true then te σ2 H3 (LcK D Iv i) else LcP D Iv (i + 1) H3)
    (hd : ∀ D acc H1, H D = none → acc.length = n → H1 D = some (.lst acc) → Iv D n acc H1 → Q D H1) :
    ∀ D, H D = none → ∃ W : Nat → Nat → Hp → Prop, (∃ m, W 0 m (upd H D (.lst []))) ∧ ∀ i m H, W i m H →
      (J.stop i H ∧ Q D H) ∨ (J.go i H ∧ ∃ Nx : Hp → Prop, (∀ H', Nx H' → ∃ m', m' < m ∧ W (i + 1) m' H') ∧ ∀ x H', J.yld i H x H' → g x (wipe σ vs) H' fun σ2 H2 => wipe σ2 vs = wipe σ vs ∧ tt σ2 H2 fun b H3 =>
        if b = true then te σ2 H3 fun y H4 => ∃ acc, H4 D = some (.lst acc) ∧ acc.length < sizeLine ∧ Nx (upd H4 D (.lst (acc ++ [y]))) else Nx H3) := by
  intro D nD
  refine lc_it w (Qd := fun H => Q D H) (LcP D Iv) ⟨[], rfl, upd_same, h0 D _ nD (.new nD) upd_same⟩ (fun i H1 hi ⟨acc, _, _, q⟩ => hG D i acc H1 hi nD q) (fun i x H1 H2 hi hp y => ?_) (fun H1 ⟨acc, e, h, q⟩ => hd D acc H1 nD e h q)
  obtain ⟨acc, e, h, q⟩ := hp
  exact hs D i acc x H1 H2 hi nD h e q y
/-- each turn only makes new things (or changes M): Ys tells what the i-th is, Jv what else holds -/
def IvP (H : Hp) (M : List Addr) (Jv : Nat → Hp → Prop) (Ys : Nat → V → Hp → Prop) : Addr → Nat → List V → Hp → Prop := fun _ i acc H1 => Chg M H H1 ∧ Jv i H1 ∧ ∀ j y, acc[j]? = some y → Ys j y H1
theorem lcp_end {H : Hp} {M : List Addr} {Jv : Nat → Hp → Prop} {Ys : Nat → V → Hp → Prop} {D : Addr} {i : Nat} {y : V} {acc : List V} {H1 H4 : Hp} (jst : ∀ i H1 H2 p, H p = none → Chg [p] H1 H2 → Jv i H1 → Jv i H2)
    (yst : ∀ i y H1 H2 p, H p = none → Chg (p :: M) H1 H2 → Ys i y H1 → Ys i y H2) (nD : H D = none) (hM : ∀ a ∈ M, H a ≠ none) (hD : H1 D = some (.lst acc)) (hl : acc.length = i) (hz : i ≤ 100000) (iv : IvP H M Jv Ys D i acc H1)
    (c : Chg M H1 H4) (jq : Jv (i + 1) H4) (yq : Ys i y H4) : LcK D (IvP H M Jv Ys) i y H4 := by
  obtain ⟨c0, _, q⟩ := iv
  refine lc_end (c.keep _ _ hD fun hm => hM D hm nD) hl hz fun H5 c5 h5 => ⟨?_, jst _ _ _ D nD c5 jq, fun j y' e => ?_⟩
  · exact (c0.both c).go c5 fun a ha => .inr (by rw [List.mem_singleton.mp ha]; exact nD)
  · by_cases hj : j < acc.length
    · rw [List.getElem?_append_left hj] at e
      exact yst j y' H4 H5 D nD (c5.wide (by simp)) (yst j y' H1 H4 D nD (c.wide (by intro a ha; exact List.mem_cons_of_mem _ ha)) (q j y' e))
    · have hj2 : j = acc.length := by
        have := (List.getElem?_eq_some_iff.mp e).1
        rw [List.length_append, List.length_singleton] at this
        omega
      subst hj2
      rw [List.getElem?_append_right (Nat.le_refl _), Nat.sub_self] at e
      cases (Option.some.inj (show some y = some y' from e))
      rw [hl]
      exact yst i y H4 H5 D nD (c5.wide (by simp)) yq
theorem w_lcP {J : It} {n : Nat} {G : Hp → Prop} {Y : Nat → Hp → V → Hp → Prop} {g : TG} {te : TE} {tt : TT} {vs : List Nat} {σ : L2.St} {H : Hp} {Q : Addr → Hp → Prop} (w : L2.Walk J n G Y) (M : List Addr) (Jv : Nat → Hp → Prop) (Ys : Nat → V → Hp → Prop)
    (j0 : Jv 0 H) (jst : ∀ i H1 H2 p, H p = none → Chg [p] H1 H2 → Jv i H1 → Jv i H2) (hG : ∀ H1, Chg M H H1 → G H1)
    (hs : ∀ D i acc x H1 H2, i < n → H D = none → H1 D = some (.lst acc) → acc.length = i → IvP H M Jv Ys D i acc H1 → Chg M H H1 → Jv i H1 → Y i H1 x H2 → g x (wipe σ vs) H2 fun σ2 H3 => wipe σ2 vs = wipe σ vs ∧
      tt σ2 H3 fun b H3 => if b = true then te σ2 H3 (LcK D (IvP H M Jv Ys) i) else LcP D (IvP H M Jv Ys) (i + 1) H3)
    (hd : ∀ D acc H1, H D = none → Chg M H H1 → Jv n H1 → acc.length = n → H1 D = some (.lst acc) → (∀ i y, acc[i]? = some y → Ys i y H1) → Q D H1) :
    ∀ D, H D = none → ∃ W : Nat → Nat → Hp → Prop, (∃ m, W 0 m (upd H D (.lst []))) ∧ ∀ i m H, W i m H →
      (J.stop i H ∧ Q D H) ∨ (J.go i H ∧ ∃ Nx : Hp → Prop, (∀ H', Nx H' → ∃ m', m' < m ∧ W (i + 1) m' H') ∧ ∀ x H', J.yld i H x H' → g x (wipe σ vs) H' fun σ2 H2 => wipe σ2 vs = wipe σ vs ∧ tt σ2 H2 fun b H3 =>
        if b = true then te σ2 H3 fun y H4 => ∃ acc, H4 D = some (.lst acc) ∧ acc.length < sizeLine ∧ Nx (upd H4 D (.lst (acc ++ [y]))) else Nx H3) :=
  w_lcW w (IvP H M Jv Ys) (fun D H1 nD c _ => ⟨c.wide (by simp), jst _ _ _ D nD (c.wide (by simp)) j0, fun j y e => by simp at e⟩) (fun D i acc H1 _ _ q => hG H1 q.1) (fun D i acc x H1 H2 hi nD hD el iv y => hs D i acc x H1 H2 hi nD hD el iv iv.1 iv.2.1 y) (fun D acc H1 nD el hD ⟨c, j, q⟩ => hd D acc H1 nD c j el hD q)
section
variable {K : PySem.W.Frag} {σ : L2.St} {H : Hp} {te : TE} {tr : TA} {g : TG} {tt : TT} {vs : List Nat} {Q : VK} {a b : Addr} {xs ys : List V} {P : Prop} {RI : It → Hp → Prop} {D : Ends} {tb : TS} {wi : TI}
theorem w_lc (h : wi σ H fun J H1 => ∀ D, H1 D = none → ∃ W : Nat → Nat → Hp → Prop, (∃ m, W 0 m (upd H1 D (.lst []))) ∧ ∀ i m H, W i m H →
  (J.stop i H ∧ Q (.ref D) H) ∨ (J.go i H ∧ ∃ Nx : Hp → Prop, (∀ H', Nx H' → ∃ m', m' < m ∧ W (i + 1) m' H') ∧ ∀ x H', J.yld i H x H' → g x (wipe σ vs) H' fun σ2 H2 => wipe σ2 vs = wipe σ vs ∧ tt σ2 H2 fun b H3 =>
    if b = true then te σ2 H3 fun y H4 => ∃ acc, H4 D = some (.lst acc) ∧ acc.length < sizeLine ∧ Nx (upd H4 D (.lst (acc ++ [y]))) else Nx H3)) : tLc wi g tt te vs σ H Q := h
theorem w_for (h : wi σ H fun J H1 => ∃ W : Nat → Nat → L2.St → Hp → Prop, (∃ m, W 0 m σ H1) ∧ ∀ i m σ H, W i m σ H →
  (J.stop i H ∧ D.nx σ H) ∨ (J.go i H ∧ ∃ N : L2.St → Hp → Prop, (∀ σ' H', N σ' H' → ∃ m', m' < m ∧ W (i + 1) m' σ' H') ∧ ∀ x H', J.yld i H x H' → g x σ H' fun σ2 H2 => tb { D with nx := N, ct := N, bk := D.nx } σ2 H2)) : tFor wi g tb D σ H := h
theorem w_yes {QB : Bool → Hp → Prop} (h : QB true H) : tYes σ H QB := h
theorem w_wipe {σ2 : L2.St} (h : wipe σ2 vs = wipe σ vs) (q : P) : wipe σ2 vs = wipe σ vs ∧ P := ⟨h, q⟩
theorem w_iList (h : te σ H fun x H1 => ∃ a, x = .ref a ∧ (∃ xs, SqL K H1 a xs) ∧ RI (Itl K a) H1) : iList K te σ H RI := h
theorem w_iTup (h : te σ H fun x H1 => ∃ a, x = .ref a ∧ (∃ xs, SqT K H1 a xs) ∧ RI (Itt K a) H1) : iTup K te σ H RI := h
theorem d_iList {A : Addr → Prop} (h : SqL K H a xs) (q : A a) : ∃ a', V.ref a = .ref a' ∧ (∃ xs, SqL K H a' xs) ∧ A a' := ⟨a, rfl, ⟨xs, h⟩, q⟩
theorem d_iTup {A : Addr → Prop} (h : H a = some (.tup xs)) (q : A a) : ∃ a', V.ref a = .ref a' ∧ (∃ xs, SqT K H a' xs) ∧ A a' := ⟨a, rfl, ⟨xs, sqT h⟩, q⟩
theorem w_iStr (h : te σ H fun v H1 => ∃ x, v = .str x ∧ RI (Its x) H1) : iStr te σ H RI := h
theorem d_iStr {z : Str} {A : Str → Prop} (q : A z) : ∃ x, V.str z = .str x ∧ A x := ⟨z, rfl, q⟩
theorem w_iRng1 (h : tr σ H fun vs H1 => ∃ j : Int, vs = [.int j] ∧ -(2 ^ 62) ≤ j ∧ j < 2 ^ 62 ∧ RI (Itr 0 j.toNat) H1) : iRng1 tr σ H RI := h
theorem d_iRng1 {j : Int} {A : Int → Prop} (h1 : -(2 ^ 62) ≤ j) (h2 : j < 2 ^ 62) (q : A j) : ∃ j' : Int, [V.int j] = [.int j'] ∧ -(2 ^ 62) ≤ j' ∧ j' < 2 ^ 62 ∧ A j' := ⟨j, rfl, h1, h2, q⟩
theorem w_iRng2 (h : tr σ H fun vs H1 => ∃ i j : Int, vs = [.int i, .int j] ∧ (-(2 ^ 62) ≤ i ∧ i < 2 ^ 62 ∧ -(2 ^ 62) ≤ j ∧ j < 2 ^ 62) ∧ RI (Itr i (j - i).toNat) H1) : iRng2 tr σ H RI := h
theorem d_iRng2 {i j : Int} {A : Int → Int → Prop} (h0 : -(2 ^ 62) ≤ i) (h0' : i < 2 ^ 62) (h1 : -(2 ^ 62) ≤ j) (h2 : j < 2 ^ 62) (q : A i j) : ∃ i' j' : Int, [V.int i, V.int j] = [.int i', .int j'] ∧ (-(2 ^ 62) ≤ i' ∧ i' < 2 ^ 62 ∧ -(2 ^ 62) ≤ j' ∧ j' < 2 ^ 62) ∧ A i' j' := ⟨i, j, rfl, ⟨h0, h0', h1, h2⟩, q⟩
theorem w_iZip (h : tr σ H fun vs H1 => ∃ a b xs ys, vs = [.ref a, .ref b] ∧ SqL K H1 a xs ∧ SqL K H1 b ys ∧ RI (Itz K a b) H1) : iZip K tr σ H RI := h
theorem d_iZip {A : Addr → Addr → Prop} (h : SqL K H a xs) (h' : SqL K H b ys) (q : A a b) : ∃ a' b' xs ys, [V.ref a, V.ref b] = [.ref a', .ref b'] ∧ SqL K H a' xs ∧ SqL K H b' ys ∧ A a' b' := ⟨a, b, xs, ys, rfl, h, h', q⟩
theorem w_iEnum (h : tr σ H fun vs H1 => ∃ a xs, vs = [.ref a] ∧ SqL K H1 a xs ∧ RI (Ite K a) H1) : iEnum K tr σ H RI := h
theorem d_iEnum {A : Addr → Prop} (h : SqL K H a xs) (q : A a) : ∃ a' xs, [V.ref a] = [.ref a'] ∧ SqL K H a' xs ∧ A a' := ⟨a, xs, rfl, h, q⟩
end
end
section
def letters : Str := "abcdefghijklmnopqrstuvwxyz"
def isLow (c : Nat) : Bool := decide (c ∈ letters.cps.toList)
def dInt : PyData → Bool
  | .int _ => true
  | .bool _ => true
  | _ => false
def dBool : PyData → Bool
  | .bool _ => true
  | _ => false
def dStr : PyData → Bool
  | .str _ => true
  | _ => false
def dTup : PyData → Bool
  | .tuple _ => true
  | _ => false
def dLst : PyData → Bool
  | .list _ => true
  | _ => false
def isWhole : PyData → Bool
  | .int _ => true
  | _ => false
def nameS (x : Str) : Bool := decide (1 ≤ x.length) && decide (x.length ≤ 8) && x.cps.toList.all isLow
def isName : PyData → Bool
  | .str x => nameS x
  | _ => false
def partsOf (z : Str) : Option Nat := if z = "arg" then some 0 else if z = "cell" then some 1 else if z = "add" then some 2 else if z = "less" then some 2 else if z = "least" then some 2 else none
def isExpr : Nat → PyData → Bool
  | 0, _ => false
  | _ + 1, .int _ => true
  | n + 1, .tuple (.str z :: ds) => (match partsOf z with
    | some k => decide (ds.length = k) && ds.all (isExpr n)
    | none => false)
  | _, _ => false
def skipOk (bh : Int) : PyData → Bool
  | .int k => decide (1 ≤ k) && decide (k ≤ bh)
  | _ => false
def inNm (ns : List Str) : PyData → Bool
  | .str x => decide (x ∈ ns)
  | _ => false
def step3 (ns : List Str) (bh : Int) (z : Str) (a b : PyData) : Bool :=
  if z = "cell" then isExpr 5 a && isExpr 5 b
  else if z = "skip" then isExpr 5 a && skipOk bh b
  else if z = "give" then isName a && isExpr 5 b
  else if z = "fork" ∨ z = "call" then isName a && isExpr 5 b && inNm ns a
  else false
def stepBody (ns : List Str) (bh : Int) (z : Str) : List PyData → Bool
  | [a, b] => step3 ns bh z a b
  | _ => false
def isStep (ns : List Str) (bh : Int) : PyData → Bool
  | .tuple (.str z :: ds) => if z = "wait" then decide (ds.length = 0) else stepBody ns bh z ds
  | _ => false
def rowOk : PyData → Bool
  | .tuple [.str x, .list _] => nameS x
  | _ => false
def rowName : PyData → Str
  | .tuple (.str x :: _) => x
  | _ => ""
def rowSteps : PyData → List PyData
  | .tuple [_, .list ds] => ds
  | _ => []
def ltS (x y : Str) : Bool := decide (x.cps.toList < y.cps.toList)
def rising : List Str → Bool
  | x :: y :: r => ltS x y && rising (y :: r)
  | _ => true
def hasForm : PyData → Bool
  | .list rows => rows.all rowOk && rising (rows.map rowName)
  | _ => false
/-- the first wrong one of steps, from place k on -/
def wrongAt (names : List Str) : Nat → List PyData → Option Nat
  | _, [] => none
  | k, d :: ds => if isStep names (ds.length : Int) d = true then wrongAt names (k + 1) ds else some k
def wrongIn (names : List Str) : List PyData → Option (Str × Nat)
  | [] => none
  | r :: rs => match wrongAt names 0 (rowSteps r) with
    | some k => some (rowName r, k)
    | none => wrongIn names rs
def rowsOf : PyData → List PyData
  | .list rows => rows
  | _ => []
def firstWrong (d : PyData) : Option (Option (Str × Nat)) :=
  if hasForm d = true then (wrongIn ((rowsOf d).map rowName) (rowsOf d)).map some else some none
def tyN : PyData → String
  | .none => "NoneType"
  | .bool _ => "bool"
  | .int _ => "int"
  | .str _ => "str"
  | .list _ => "list"
  | .tuple _ => "tuple"
  | .dict _ => "dict"
section
variable {K : PySem.W.Frag} {S : Addr → Prop} {H : Hp} {v : V} {d : PyData} {Q : VK}
theorem isi_of {v : V} {a b : String} {r : Bool} (t : TyX K H v (.type a)) (h : kitB a b = some r) (q : Q (.bl r) H) : rIsi K [v, .ty b] H Q := ⟨v, .ty b, _, _, r, rfl, .ty b, t, kit_ty h, q⟩
theorem R.tyx (r : R S H v d) : TyX K H v (.type (tyN d)) := by
  cases r with
  | non => exact .base .non
  | bl b => exact .base (.bl b)
  | int i => exact .base (.int i)
  | str x => exact .base (.str x)
  | lst s e r => exact .base (.lst e)
  | tup e r => exact .base (.tup e)
  | dic s e => exact .base (.dK e)
theorem w_isInt (r : R S H v d) (q : Q (.bl (dInt d)) H) : rIsi K [v, .ty "int"] H Q := by
  have t := r.tyx (K := K)
  cases d with
  | none => exact isi_of t (show kitB "NoneType" "int" = some false by decide +kernel) q
  | bool b => exact isi_of t (show kitB "bool" "int" = some true by decide +kernel) q
  | int i => exact isi_of t (show kitB "int" "int" = some true by decide +kernel) q
  | str x => exact isi_of t (show kitB "str" "int" = some false by decide +kernel) q
  | list ds => exact isi_of t (show kitB "list" "int" = some false by decide +kernel) q
  | tuple ds => exact isi_of t (show kitB "tuple" "int" = some false by decide +kernel) q
  | dict ds => exact isi_of t (show kitB "dict" "int" = some false by decide +kernel) q
theorem w_isBool (r : R S H v d) (q : Q (.bl (dBool d)) H) : rIsi K [v, .ty "bool"] H Q := by
  have t := r.tyx (K := K)
  cases d with
  | none => exact isi_of t (show kitB "NoneType" "bool" = some false by decide +kernel) q
  | bool b => exact isi_of t (show kitB "bool" "bool" = some true by decide +kernel) q
  | int i => exact isi_of t (show kitB "int" "bool" = some false by decide +kernel) q
  | str x => exact isi_of t (show kitB "str" "bool" = some false by decide +kernel) q
  | list ds => exact isi_of t (show kitB "list" "bool" = some false by decide +kernel) q
  | tuple ds => exact isi_of t (show kitB "tuple" "bool" = some false by decide +kernel) q
  | dict ds => exact isi_of t (show kitB "dict" "bool" = some false by decide +kernel) q
theorem w_isStr (r : R S H v d) (q : Q (.bl (dStr d)) H) : rIsi K [v, .ty "str"] H Q := by
  have t := r.tyx (K := K)
  cases d with
  | none => exact isi_of t (show kitB "NoneType" "str" = some false by decide +kernel) q
  | bool b => exact isi_of t (show kitB "bool" "str" = some false by decide +kernel) q
  | int i => exact isi_of t (show kitB "int" "str" = some false by decide +kernel) q
  | str x => exact isi_of t (show kitB "str" "str" = some true by decide +kernel) q
  | list ds => exact isi_of t (show kitB "list" "str" = some false by decide +kernel) q
  | tuple ds => exact isi_of t (show kitB "tuple" "str" = some false by decide +kernel) q
  | dict ds => exact isi_of t (show kitB "dict" "str" = some false by decide +kernel) q
theorem w_isTup (r : R S H v d) (q : Q (.bl (dTup d)) H) : rIsi K [v, .ty "tuple"] H Q := by
  have t := r.tyx (K := K)
  cases d with
  | none => exact isi_of t (show kitB "NoneType" "tuple" = some false by decide +kernel) q
  | bool b => exact isi_of t (show kitB "bool" "tuple" = some false by decide +kernel) q
  | int i => exact isi_of t (show kitB "int" "tuple" = some false by decide +kernel) q
  | str x => exact isi_of t (show kitB "str" "tuple" = some false by decide +kernel) q
  | list ds => exact isi_of t (show kitB "list" "tuple" = some false by decide +kernel) q
  | tuple ds => exact isi_of t (show kitB "tuple" "tuple" = some true by decide +kernel) q
  | dict ds => exact isi_of t (show kitB "dict" "tuple" = some false by decide +kernel) q
theorem w_isLst (r : R S H v d) (q : Q (.bl (dLst d)) H) : rIsi K [v, .ty "list"] H Q := by
  have t := r.tyx (K := K)
  cases d with
  | none => exact isi_of t (show kitB "NoneType" "list" = some false by decide +kernel) q
  | bool b => exact isi_of t (show kitB "bool" "list" = some false by decide +kernel) q
  | int i => exact isi_of t (show kitB "int" "list" = some false by decide +kernel) q
  | str x => exact isi_of t (show kitB "str" "list" = some false by decide +kernel) q
  | list ds => exact isi_of t (show kitB "list" "list" = some true by decide +kernel) q
  | tuple ds => exact isi_of t (show kitB "tuple" "list" = some false by decide +kernel) q
  | dict ds => exact isi_of t (show kitB "dict" "list" = some false by decide +kernel) q
end
structure Parts (K : PySem.W.Frag) (w : World) (dP : Addr) : Prop where
  kd : ∃ es n, KDict K w dP es n
  get : ∀ z k, partsOf z = some k → ∃ u, PySem.W.nsIn K dP z = some (some u) ∧ RelV (.int (k : Nat)) u
  no : ∀ z, partsOf z = none → PySem.W.nsIn K dP z = some none
section
variable {K : PySem.W.Frag} {w : World} {dP : Addr} {H : Hp} {Q : VK} {z : Str}
theorem w_notInP (T : Parts K w dP) (q : Q (.bl (!(partsOf z).isSome)) H) : oNotInKd K dP (.str z) (.ref dP) H Q := by
  cases e : partsOf z with
  | none => exact ⟨z, none, rfl, rfl, T.no z e, by rw [e] at q; exact q⟩
  | some k =>
    obtain ⟨u, e1, _⟩ := T.get z k e
    exact ⟨z, some u, rfl, rfl, e1, by rw [e] at q; exact q⟩
theorem w_ixP {k : Nat} (T : Parts K w dP) (e : partsOf z = some k) (q : Q (.int (k : Nat)) H) : rIxD K w (.ref dP) (.str z) H Q := by
  obtain ⟨u, e1, e2⟩ := T.get z k e
  obtain ⟨es, n, kd⟩ := T.kd
  exact ⟨dP, z, _, rfl, rfl, ⟨es, n, u, kd.at_, kd.lit, e1, e2⟩, q⟩
end
theorem cut1 (xs : List V) : cutV xs (some 1) none = xs.drop 1 := by
  unfold cutV
  rw [show HT.sIx xs.length 0 (some 1) = min 1 xs.length from HT.sIx_nat xs.length 0 1, HT.sIx_none]
  cases xs with
  | nil => rfl
  | cons x r =>
    rw [show min 1 (x :: r).length = 1 by
      rw [List.length_cons]
      omega]
    show (List.take ((x :: r).length - 1) r) = r
    rw [List.length_cons, Nat.add_sub_cancel]
    exact List.take_length
theorem w_slA {K : PySem.W.Frag} {p : Addr} {xs : List V} {lo hi : Option Int} {H : Hp} {Q : VK} (h : H p = some (.tup xs)) (q : ∀ p' H2, Chg [] H H2 → H2 p' = some (.tup (cutV xs lo hi)) → Q (.ref p') H2) : rSlA K (.ref p) lo hi H Q := by
  refine ⟨p, xs, rfl, sqT h, fun e => ?_, fun _ => d_new fun p' H2 _ c h2 => q p' H2 c h2⟩
  refine q p H .refl ?_
  have : cutV xs lo hi = xs := by
    unfold cutV
    rw [e.1, e.2]
    simp
  rw [this]
  exact h
theorem all_bl {bs : List Bool} {acc : List V} {n : Nat} (hl : acc.length = n) (hb : bs.length = n) (h : ∀ (i : Nat) (y : V), acc[i]? = some y → ∃ b : Bool, bs[i]? = some b ∧ y = .bl b) : acc = bs.map V.bl := by
  apply List.ext_getElem?
  intro i
  rw [List.getElem?_map]
  by_cases hi : i < n
  · have e1 : acc[i]? = some acc[i] := List.getElem?_eq_getElem (by omega)
    obtain ⟨b, e2, e3⟩ := h i _ e1
    rw [e1, e2, e3]
    rfl
  · rw [List.getElem?_eq_none (by omega), List.getElem?_eq_none (by omega)]
    rfl
end
section
/-- a def that may be called by its name, with these defaults behind -/
structure Cal (P : Program) (w : World) (K : PySem.W.Frag) (mg : Str → Option Value) (base : Heap) (k : Nat) (x : Str) (sp : Sp) (dvs : List V) : Prop where
  ex : ∃ (f : Addr) (fd : FuncData) (ps : List Str) (ds : List Value), FnOk P w K mg base CX0 k f fd ps sp ∧ mg x = some (.ref f) ∧ PySem.W.keepIn K (.ref f) = true ∧ Binds K fd ps ds ∧ Vals dvs ds
section
variable {X : Cx} {k j n mm : Nat} {x m : Str} {sp : Sp} {dvs : List V} {ks : List Str} {gV : List V → List V → List V} {p pos apos : Pos} {e o : Expr} {es : List Expr} {kws : List Keyword} {ta : TE} {t tk : TA}
theorem pe_c (c : Cal X.prog X.w X.K X.mg X.base k x sp dvs) (hr : Room j X.A) (hk : k ≤ j) (hg : Gl X x) (ha : PA X (e :: es) t)
    (hdb : (x == ("__debug__" : Str)) = false := by decide) (he : starEach (e :: es) X.env = (false, eval e X.env) :: starEach es X.env := by rfl) (hpl : (backTo pos (starEach es X.env)).any (·.1) = false := by rfl) :
    PE X (.Call (.Name x p) (e :: es) [] pos) (tCall sp dvs E0 t) := by
  obtain ⟨f, fd, ps, ds, F, hm, kp, b, d⟩ := c.ex
  exact pe_call F (hr.mono hk) hg hm kp b d pass0 ha hdb he hpl
theorem w_callN {σ : L2.St} {H : Hp} {Q : VK} {E : XK} {m : Nat} (h : t σ H fun vs H1 => tk σ H1 fun zs H2 => vs.length = n ∧ zs.length = m ∧ sp (gV vs zs) H2 Q E) : tCallN n m sp gV E t tk σ H Q := h
end
section
variable {P : Program} {w : World} {K : PySem.W.Frag} {mg : Str → Option Value} {base : Heap} {x : Str} {st : Stmt} {f : Addr} {fd : FuncData} {sp : Sp} {k : Nat}
/-- a def of the top as it stands, dvs its defaults -/
abbrev FnP (K : PySem.W.Frag) (x : Str) (st : Stmt) (dvs : List V) (f : Addr) (fd : FuncData) : Prop := FunD K x x (defArgs st) (defBody st) (defScope st) dvs [] f fd
theorem FnP.go {N ps : List Str} {dvs : List V} (F : FnP K x st dvs f fd) (S : FnScope N ps (defScope st)) (len : ∀ vs H Q E, sp vs H Q E → vs.length = ps.length) (t : TS)
    (pure : ∀ (vs : List V) (H : Hp) (Q : VK) (E : XK), sp vs H Q E → t { nx := fun _ H' => Q .non H', rt := Q } (start N vs) H)
    (hbody : ∀ (cdv : Value) (A : Around) (outer : List Env) (s : Shared) (H : Hp) (E : XK), Room k (A.deeper (envOfC x (defScope st) s.heap.objs.size f cdv)) →
      PSs (cxOf CX0 P w K mg base N x (defScope st) f cdv A outer s H E).nox (defBody st) t) : FnOk P w K mg base CX0 (k + 1) f fd ps sp :=
  F.ok S len fun cdv A outer s H vs Q E hr h => ⟨t, PSs.nox (hbody cdv A outer s H E hr), pure vs H Q E h⟩
theorem FnP.cal {ps : List Str} (F : FnP K x st [] f fd) (ok : FnOk P w K mg base CX0 k f fd ps sp) (g : mg x = some (.ref f))
    (h : ∀ (kV doc pm : Value) (an : Option Addr) (cdv ct : Value) (us : List Value), us.length = ps.length → bindArgs (PySem.W.fnOf x x (defArgs st) (defBody st) (defScope st) .none kV doc pm an cdv ct) ⟨us, []⟩ = pure (ps.zip us)) : Cal P w K mg base k x sp [] :=
  ⟨f, fd, ps, [], ok, g, F.kp, F.bindsN h, .nil⟩
end
end
section
theorem exL {α : Type} {P : α → Prop} {B : Prop} (h : ∀ x, P x → B) : (∃ x, P x) → B := fun ⟨x, hx⟩ => h x hx
theorem pe_gc {X : Cx} {x : Str} {v : V} {pos : Pos} (hg : Gl X x) (h : ∃ u, X.mg x = some u ∧ RelV v u) (hd : (x == ("__debug__" : Str)) = false := by decide) : PE X (.Name x pos) (tC v) := by
  obtain ⟨u, e, r⟩ := h
  exact pe_glob hg e r hd
theorem dic_lookup {K : PySem.W.Frag} {a : Addr} {l : List (Option (Str × Int))} (h : He.dicW K a = some l) : ∃ o es n, K.lookup a = some o ∧ o.data = .dict es n ∧ es.toList.map He.keyOf = l := by
  unfold He.dicW at h
  cases q : K.lookup a with
  | none =>
    rw [q] at h
    cases h
  | some o =>
    obtain ⟨oc, od, dt, osl⟩ := o
    rw [q] at h
    cases oc with
    | type c =>
      cases od with
      | none =>
        cases dt with
        | dict es n =>
          have h1 : (match decide (c = "dict") && (osl.isEmpty && !(a == sysModules)) with
            | true => some (es.toList.map He.keyOf)
            | false => none) = some l := h
          cases z : decide (c = "dict") && (osl.isEmpty && !(a == sysModules)) with
          | false =>
            rw [z] at h1
            cases h1
          | true =>
            rw [z] at h1
            exact ⟨_, es, n, rfl, rfl, Option.some.inj h1⟩
        | _ => cases h
      | some b => cases dt <;> cases h
    | _ => cases od <;> cases dt <;> cases h
theorem keyOf_str {e : DictEntry} {k : Str} {i : Int} (h : He.keyOf e = some (k, i)) : ∃ t, e.key = .str k t := by
  unfold He.keyOf at h
  split at h
  · rename_i x t q
    have h4 := Option.some.inj h
    obtain ⟨h5, h6⟩ := Prod.mk.inj h4
    exact ⟨t, by rw [q, h5]⟩
  · cases h
theorem miss {K : PySem.W.Frag} {a : Addr} {P : Params} {ks : List Str} {z : Str} (h : He.dicW K a = some (He.keysIn P ks)) (hz : z ∉ ks) : PySem.W.nsIn K a z = some none := by
  obtain ⟨o, es, n, e1, e2, e3⟩ := dic_lookup h
  have key : ∀ e ∈ es.toList, ∃ k t, e.key = .str k t ∧ k ∈ ks := fun e he => by
    have : He.keyOf e ∈ He.keysIn P ks := by rw [← e3]; exact List.mem_map.mpr ⟨e, he, rfl⟩
    obtain ⟨k, hk, ek⟩ := List.mem_map.mp this
    obtain ⟨t, et⟩ := keyOf_str ek.symm
    exact ⟨k, t, et, hk⟩
  unfold PySem.W.nsIn
  rw [e1]
  obtain ⟨oc, od, dt, osl⟩ := o
  have e2 : dt = .dict es n := e2
  subst e2
  have f1 : es.toList.find? (·.key.isStr z) = none := by
    rw [List.find?_eq_none]
    intro e he
    obtain ⟨k, t, ek, hk⟩ := key e he
    rw [ek]
    intro hh
    have : k = z := by
      have := PySem.W.isStr_of z (Value.str k t)
      rw [this] at hh
      obtain ⟨t', e'⟩ := Value.isStrOf_shape (x := z) (v := Value.str k t) hh
      injection e'
    rw [this] at hk
    exact hz hk
  have f2 : es.toList.any (·.refKey) = false := by
    rw [List.any_eq_false]
    intro e he
    obtain ⟨k, t, ek, hk⟩ := key e he
    unfold DictEntry.refKey
    rw [ek]
    exact Bool.false_ne_true
  show (match es.toList.find? (·.key.isStr z) with
      | some e => some (some e.val)
      | none => if es.toList.any (·.refKey) then none else some none) = some none
  rw [f1]
  show (if es.toList.any (·.refKey) then none else some none) = some none
  rw [f2]
  rfl
def partK : List Str := ["arg", "cell", "add", "less", "least"]
def partV : List (Str × He.Dv) := [("arg", .int 0), ("cell", .int 1), ("add", .int 2), ("less", .int 2), ("least", .int 2)]
theorem parts_of {K : PySem.W.Frag} {w : World} {a : Addr} (h : He.dicW K a = some (He.keysIn w.params partK)) (hv : He.valsB K a partV = true) : Parts K w a := by
  refine ⟨He.dicW_ok h, fun z k e => ?_, fun z e => ?_⟩
  · unfold partsOf at e
    split at e
    · next hz => cases e; subst hz; exact He.valsB_ok hv (q := ("arg", .int 0)) (by simp [partV])
    split at e
    · next hz => cases e; subst hz; exact He.valsB_ok hv (q := ("cell", .int 1)) (by simp [partV])
    split at e
    · next hz => cases e; subst hz; exact He.valsB_ok hv (q := ("add", .int 2)) (by simp [partV])
    split at e
    · next hz => cases e; subst hz; exact He.valsB_ok hv (q := ("less", .int 2)) (by simp [partV])
    split at e
    · next hz => cases e; subst hz; exact He.valsB_ok hv (q := ("least", .int 2)) (by simp [partV])
    · cases e
  · refine miss h fun hm => ?_
    unfold partK at hm
    simp only [List.mem_cons, List.not_mem_nil, or_false] at hm
    rcases hm with hm | hm | hm | hm | hm <;> (subst hm; revert e; decide +kernel)
section
variable {P : Program} {w : World} {K : PySem.W.Frag} {mg : Str → Option Value} {base : Heap} {x : Str} {st : Stmt} {f : Addr} {fd : FuncData} {sp : Sp} {k : Nat} {ps : List Str} {dvs : List V}
/-- a call that leaves out the defaults from the j-th on (n values are written) -/
theorem FnP.cald (n j : Nat) (F : FnP K x st dvs f fd) (ok : FnOk P w K mg base CX0 k f fd ps sp) (g : mg x = some (.ref f)) (hd : dvs ≠ []) (hn : n + (dvs.length - j) = ps.length)
    (h : ∀ (T : Addr) (kV doc pm : Value) (an : Option Addr) (cdv ct : Value) (us its : List Value), us.length = n → its.length = dvs.length →
      ∃ k, bindArgs (PySem.W.fnOf x x (defArgs st) (defBody st) (defScope st) (.ref T) kV doc pm an cdv ct) ⟨us, []⟩ = seqItems? (.ref T) >>= k ∧ k (some its.toArray) = pure (ps.zip (us ++ its.drop j))) : Cal P w K mg base k x sp (dvs.drop j) := by
  obtain ⟨ds, v, b⟩ := F.binds1 n j hd hn h
  exact ⟨f, fd, ps, ds, ok, g, F.kp, b, v⟩
end
end
section
def ExH (cls : Value) (d : Option Addr) (a : Addr) : HO := .ext fun h => ∃ (oe : Obj) (vs : Array Value), h.get? a = some oe ∧ Zc cls d oe ∧ oe.data = .fields vs
theorem exH_ok {P : Program} {w : World} {H : Hp} {h : Heap} {a : Addr} {cls : Value} {d : Option Addr} {oe : Obj} {vs : Array Value} (e : h.get? a = some oe) (z : Zc cls d oe) (hd : oe.data = .fields vs) : ObjOk P w H h a (ExH cls d a) :=
  ⟨⟨oe, vs, e, z, hd⟩, ⟨oe, e⟩, fun _ _ ⟨o, v, q, r⟩ k => ⟨o, v, k o q, r⟩⟩
theorem exH_at {P : Program} {w : World} {H : Hp} {h : Heap} {a : Addr} {cls : Value} {d : Option Addr} (hok : HOk P w H h) (he : H a = some (ExH cls d a)) : ∃ (oe : Obj) (vs : Array Value), h.get? a = some oe ∧ Zc cls d oe ∧ oe.data = .fields vs := by
  have x : ObjOk P w H h a (.ext fun h => ∃ (oe : Obj) (vs : Array Value), h.get? a = some oe ∧ Zc cls d oe ∧ oe.data = .fields vs) := hok a _ he
  exact x.1
section
variable {X : Cx} {pins : List (Addr × Obj)} {σ : L2.St} {H : Hp} {s : Shared}
/-- an exception's object, till now a pin, is tracked -/
theorem Inv.track {a : Addr} {oe : Obj} {vs : Array Value} {cls : Value} {d : Option Addr} (I : Inv X ((a, oe) :: pins) σ H s) (hz : Zc cls d oe) (hd : oe.data = .fields vs) (h0 : X.s_0.heap.get? a = none)
    (hp : ∀ p ∈ X.pn ++ pins, p.1 ≠ a) : Inv X pins σ (upd H a (ExH cls d a)) s := by
  obtain ⟨ha, na, nL, nF, _⟩ := I.pin (a, oe) (by simp)
  have ne0 : ∀ b o, X.s_0.heap.get? b = some o → b ≠ a := fun b o e z => by
    rw [z, h0] at e
    cases e
  have neS : ∀ {b : Addr} {o : HO}, H b = some o → b ≠ a := fun {b o} e => ne_of_none e na
  refine ⟨I.ok, I.os, I.bare, ⟨I.base.keep, I.base.slot, fun b o e n hq => ?_, I.base.there, fun b xs e => ?_, fun b o u e => ?_, fun b ps e => ?_⟩, I.loc, I.cell, ?_, fun x c e => ?_, fun p hm => ?_, fun b u e => ?_, I.len⟩
  · rw [upd_ne (ne0 b o e)]
    exact I.base.free b o e n hq
  · have q := I.base.tups b xs e
    rw [upd_ne (neS q)]
    exact q
  · have q := I.base.frzs b o u e
    rw [upd_ne (neS q)]
    exact q
  · obtain ⟨m, q⟩ := I.base.tbls b ps e
    exact ⟨m, by rw [upd_ne (neS q)]; exact q⟩
  · rw [upd_ne (Ne.symm nL)]
    exact I.free
  · have hc : c ≠ a := fun z => by
      obtain ⟨v, o, ho, hv⟩ := I.cell x c e
      rw [z, ha] at ho
      cases ho
      rw [hd] at hv
      cases hv
    rw [upd_ne hc]
    exact I.freeC x c e
  · obtain ⟨e, n, ne, nf, dd⟩ := I.pin p (by
      rcases List.mem_append.mp hm with z | z
      · exact List.mem_append_left _ z
      · exact List.mem_append_right _ (List.mem_cons_of_mem _ z))
    exact ⟨e, by rw [upd_ne (hp p hm)]; exact n, ne, nf, dd⟩
  · by_cases hb : b = a
    · subst hb
      rw [upd_same] at e
      cases e
      exact exH_ok ha hz hd
    · rw [upd_ne hb] at e
      exact (I.hok b u e).stay (fun c v _ q => q) (fun c q => by rw [upd_ne (neS q)]; exact q) fun c xs q => by rw [upd_ne (neS q)]; exact q
theorem Inv.unsuiteP {a : Addr} {oe : Obj} (I : Inv (X.suite a ((a, oe) :: (X.pn ++ pins))) [] σ H s) (ok : X.Ok) : Inv X ((a, oe) :: pins) σ H s :=
  ⟨ok, I.os, I.bare, I.base, I.loc, I.cell, I.free, I.freeC, fun p hp => I.pin p (by
    rw [List.append_nil]
    rcases List.mem_append.mp hp with z | z
    · exact List.mem_cons_of_mem _ (List.mem_append_left _ z)
    · rcases List.mem_cons.mp z with z | z
      · rw [z]; exact List.mem_cons_self
      · exact List.mem_cons_of_mem _ (List.mem_append_right _ z)), I.hok, I.len⟩
end
/-- as wAs, and behind the suite the exception is tracked -/
def wHold (K : PySem.W.Frag) (c : Value) (i : Nat) (ts : Addr → Value → Option Addr → TS) (Wout : WX) (D : Ends) : WX := fun cls d σ H =>
  ∃ b, PySem.W.exmOne K cls c = some b ∧ (b = true → ∀ a, H a = none → ts a cls d { nx := fun σ' H' => H' a = none → D.nx (σ'.set i none) (upd H' a (ExH cls d a)), rt := D.rt, bk := fun σ' H' => D.bk (σ'.set i none) H', ct := fun σ' H' => D.ct (σ'.set i none) H' } (σ.set i (some (.ref a))) H) ∧
    (b = false → Wout cls d σ H)
/-- try: .. except c as n: .. -/
def tTryH (K : PySem.W.Frag) (c : Value) (i : Nat) (tb : WX → TS) (ts : Addr → Value → Option Addr → TS) (Wout : WX) : TS := fun D σ H => tb (wHold K c i ts Wout D) D σ H
theorem w_tryH {K : PySem.W.Frag} {c : Value} {i : Nat} {tb : WX → TS} {ts : Addr → Value → Option Addr → TS} {Wout : WX} {D : Ends} {σ : L2.St} {H : Hp} (h : tb (wHold K c i ts Wout D) D σ H) : tTryH K c i tb ts Wout D σ H := h
section
variable {X : Cx} {x n : Str} {c : Value} {i : Nat} {body suite : List Stmt} {b₀ : Stmt} {np pos pos' : Pos} {tb : WX → TS} {ts : Addr → Value → Option Addr → TS} {Wout : WX}
theorem ps_try_hold (hs : X.stack = X.env :: X.outer) (hf : X.env.frame = some X.env.locals) (hex : X.ex = []) (hN : X.N.Nodup) (hi : X.N[i]? = some n) (hln : X.env.kindOf n = some .local) (hc : Names X x c) (tk : Takes X Wout)
    (hb : ∀ (W : WX) (pn : List (Addr × Obj)) (xe : Value → Shared → Prop), Takes (X.tr pn xe) W → PassesOwn (model X.prog X.w) X.A X.env xe → PSs (X.tr pn xe) body (tb W))
    (hsu : ∀ (a : Addr) (oe : Obj) (cls : Value) (d : Option Addr) (pn : List (Addr × Obj)), Zc cls d oe → (∃ vs, oe.data = .fields vs) → PSs (X.suite a ((a, oe) :: pn)) (b₀ :: suite) (ts a cls d)) :
    PS X (.Try body [.ExceptHandler (some (.Name x np)) (some n) (b₀ :: suite) pos'] [] [] pos) (tTryH X.K c i tb ts Wout) := by
  refine ⟨fun pins s σ H D I h => ?_⟩
  have ok := I.ok
  have hfr : X.A.frames = some (X.env :: X.outer) := by rw [ok.frames, hs]
  have hloc : Loc X.env.scope n := .inl hln
  refine wpAny_Try_except ?_
  refine wpAny_mono ((hb (wHold X.K c i ts Wout D) (X.pn ++ pins) (fun e s₁ => wpAny (model X.prog X.w) X.A (noteFrame e X.env) (fun _ s₂ => wpAny (model X.prog X.w) X.A (setFlight e none) (fun _ s₃ =>
    wpAny (model X.prog X.w) X.A (handleBy e X.env [.ExceptHandler (some (.Name x np)) (some n) (b₀ :: suite) pos']) (SP X pins D) X.xe s₃) X.xe s₂) X.xe s₁) (fun u s' xx => ?_) PassesOwn.looking).run [] s σ H D (I.toTry _) h) (fun f s1 hsp => ?_) (fun e s1 he => he)
  · -- the catch
    obtain ⟨a, B, sI, pins', σ', H', cls, d, rfl, J', nb, up, sky, na, os, ag, b, hb1, hyes, hno⟩ := xx
    have J : Inv X pins σ' H' sI := J'.ofTry ok
    have sky' : Sky B (X.env :: X.outer) a (Zc cls d) X.env.locals s'.heap := by rw [← hs]; exact sky
    show wpAny (model X.prog X.w) X.A (noteFrame (.ref a) X.env) _ _ _
    refine Sky.land Zc.steady hfr hf sky' fun h3 fl3 up3 => ?_
    have J3 : Inv X pins σ' H' { s' with heap := h3 } := J.landed nb fl3.1 (up.trans up3) os ag
    obtain ⟨oe3, vs3, he3, hz3, hd3⟩ := fl3.there
    have notFr : ∀ {h : Heap} {o : Obj} {vs : Array Value}, h.FunFrames B (X.env :: X.outer) → h.get? a = some o → o.data = .fields vs → a ∉ frs (X.env :: X.outer) := fun {h o vs} ff e dd hm => by
      obtain ⟨_, o', e', hnf⟩ := ff.mem hm
      rw [e] at e'; cases e'
      exact hnf _ dd
    have nfr := notFr fl3.2.2.1 he3 hd3
    have nL : a ≠ X.env.locals := fun z => nfr (List.mem_filterMap.mpr ⟨X.env, List.mem_cons_self, by rw [hf, z]⟩)
    have nF : a ∉ X.fs := fun hm => by
      obtain ⟨e, he, q⟩ := List.mem_filterMap.mp hm
      exact nfr (List.mem_filterMap.mpr ⟨e, List.mem_cons_of_mem _ he, q⟩)
    have nI : sI.heap.get? a = none := by
      cases q : sI.heap.get? a with
      | none => rfl
      | some o =>
        have z := nb a o q (by rw [hs]; exact nfr)
        have y : B.get? a = none := fl3.2.1
        rw [y] at z
        cases z
    have n0 : X.s_0.heap.get? a = none := by
      cases q : X.s_0.heap.get? a with
      | none => rfl
      | some o =>
        obtain ⟨o', z⟩ := J.base.there a o q (by rw [hex]; exact fun z => nomatch z)
        rw [nI] at z
        cases z
    have npin : ∀ p ∈ X.pn ++ pins, p.1 ≠ a := fun p hp z => by
      have y := (J.pin p hp).1
      rw [z, nI] at y
      cases y
    have S3 := J3.suite he3 hd3 na nL nF
    refine wpAny_handleBy_cons (codeAny_handlers_test ?_) (by intro q; cases q)
    have LT : PySem.W.Looks (model X.prog X.w) h3 (typeOf (.ref a)) cls := fun A Q E s k q => wpAny_typeOf_ref (k _ _ he3) (by rw [hz3.1]; exact q)
    have LM := PySem.W.exm_one (M := model X.prog X.w) (J3.kIn) LT hb1
    have test : ∀ {Q : Value → Shared → Prop} {E : Value → Shared → Prop}, Q c { s' with heap := h3 } → wpAny (model X.prog X.w) (X.A.mark (some (.ref a))) (eval (.Name x np) X.env) Q E { s' with heap := h3 } := fun {Q E} q => by
      obtain ⟨hg, hdbg, hm | ⟨hm, hv, hnn⟩⟩ := hc
      · exact ld_glob (X := X.suite a ((a, oe3) :: (X.pn ++ pins))) S3 hg hm q hdbg
      · exact ld_blt (X := X.suite a ((a, oe3) :: (X.pn ++ pins))) S3 hg hm hv q hnn hdbg
    refine test (LM.here ?_)
    cases b with
    | true =>
      refine codeAny_handlers_suite_as ?_
      refine HandSPX.lands_againZ fl3 fun h4 fl4 up4 => ?_
      have J4 : Inv X pins σ' H' { s' with heap := h4 } := J.landed nb fl4.1 ((up.trans up3).trans up4) os ag
      obtain ⟨oe4, vs4, he4, hz4, hd4⟩ := fl4.there
      have S4 := J4.suite he4 hd4 na nL nF
      refine store_ok (X := X.suite a ((a, oe4) :: (X.pn ++ pins))) (v := .ref a) S4 hN hi hloc rfl (fun s5 S5 => ?_) (.inr hln)
      refine wpAny_mono ((hsu a oe4 cls d (X.pn ++ pins) hz4 ⟨_, hd4⟩).run [] s5 _ H' _ S5 (hyes rfl a na)) (fun f s6 hsp => ?_) (fun _ _ z => False.elim z)
      have end_ : ∀ {σ6 : L2.St} {H6 : Hp} {Q : Shared → Prop}, Inv (X.suite a ((a, oe4) :: (X.pn ++ pins))) [] σ6 H6 s6 → (∀ s7, Inv X pins (σ6.set i none) H6 s7 → Q s7) →
          wpAny (model X.prog X.w) X.A (do bindName X.env n .none; unbindBehindTheSuite X.env n pos') (fun _ s7 => Q s7) X.xe s6 := fun {σ6 H6 Q} S6 hq => gone_ok (S6.unsuite ok) hN hi hln hq
      cases f with
      | next =>
        obtain ⟨σ6, H6, S6, q6⟩ := hsp
        have n6 : H6 a = none := (S6.pin (a, oe4) (by simp)).2.1
        exact gone_ok (Inv.unsuiteP S6 ok) hN hi hln fun s7 J7 => ⟨_, _, Inv.track J7 hz4 hd4 n0 npin, q6 n6⟩
      | brk =>
        obtain ⟨σ6, H6, S6, q6⟩ := hsp
        exact end_ S6 fun s7 J7 => ⟨_, _, J7, q6⟩
      | cont =>
        obtain ⟨σ6, H6, S6, q6⟩ := hsp
        exact end_ S6 fun s7 J7 => ⟨_, _, J7, q6⟩
      | ret u =>
        obtain ⟨v6, σ6, H6, S6, r6, q6⟩ := hsp
        exact end_ S6 fun s7 J7 => ⟨_, _, _, J7, r6, q6⟩
    | false =>
      show wpAny _ X.A (handleBy (.ref a) X.env []) _ _ _
      refine wpAny_handleBy_nil ?_
      obtain ⟨k1, k2, k3, oe, vs, T, oT, ts', he, hz, hd, h1, hr⟩ := id fl3
      unfold PySem.passOn
      refine wpAny_bind (wpAny_field he hd h1 ?_)
      rw [if_neg (show ¬ ((Value.ref T == Value.none) = true) from by simp)]
      have fin : wpAny (model X.prog X.w) X.A (setFlight (.ref a) X.env.frame) (fun _ s4 => wpAny (model X.prog X.w) X.A (throw (.ref a) : Sem Flow) (SP X pins D) X.xe s4) X.xe { s' with heap := h3 } := by
        rw [hf]
        refine HandSPX.setFlight_upZ fl3 fun h4 hh4 up4 => wpAny_throw (tk _ _ ?_)
        exact ⟨a, B, sI, pins, σ', H', cls, d, rfl, J, nb, (up.trans up3).trans up4, .inr (.inr (by rw [hs]; exact hh4)), na, os, ag, hno rfl⟩
      first
        | exact wpAny_bind (wpAny_pure (wpAny_bind fin))
        | exact wpAny_bind fin
  · cases f with
    | next =>
      obtain ⟨σ', H', J', q⟩ := hsp
      exact wpAny_execs_nil ⟨σ', H', J'.ofTry ok, q⟩
    | brk =>
      obtain ⟨σ', H', J', q⟩ := hsp
      exact ⟨σ', H', J'.ofTry ok, q⟩
    | cont =>
      obtain ⟨σ', H', J', q⟩ := hsp
      exact ⟨σ', H', J'.ofTry ok, q⟩
    | ret u =>
      obtain ⟨v, σ', H', J', r, q⟩ := hsp
      exact ⟨v, σ', H', J'.ofTry ok, r, q⟩
end
end
section
structure CalX (P : Program) (w : World) (K : PySem.W.Frag) (mg : Str → Option Value) (base : Heap) (k : Nat) (x : Str) (sp : Sp) (dvs : List V) : Prop where
  ex : ∃ (f : Addr) (fd : FuncData) (ps : List Str) (ds : List Value), FnOk P w K mg base (L2.CX P w) k f fd ps sp ∧ mg x = some (.ref f) ∧ PySem.W.keepIn K (.ref f) = true ∧ Binds K fd ps ds ∧ Vals dvs ds
section
variable {X : Cx} {k j n mm : Nat} {x m : Str} {sp : Sp} {dvs : List V} {p pos apos : Pos} {e o : Expr} {es : List Expr} {ta : TE} {t tk : TA} {W : WX}
theorem pe_cx (c : CalX X.prog X.w X.K X.mg X.base k x sp dvs) (hr : Room j X.A) (hk : k ≤ j) (hg : Gl X x) (tk : Takes X W) (ha : PA X (e :: es) t)
    (hdb : (x == ("__debug__" : Str)) = false := by decide) (he : starEach (e :: es) X.env = (false, eval e X.env) :: starEach es X.env := by rfl) (hpl : (backTo pos (starEach es X.env)).any (·.1) = false := by rfl) :
    PE X (.Call (.Name x p) (e :: es) [] pos) (tCallSD sp dvs (WE W) t) := by
  obtain ⟨f, fd, ps, ds, F, hm, kp, b, d⟩ := c.ex
  exact pe_callSD F (hr.mono hk) hg hm kp b d (fun σ => passAt tk σ) ha hdb he hpl
theorem w_callX {σ : L2.St} {H : Hp} {Q : VK} {E : L2.St → XK} (h : t σ H fun vs H1 => sp (vs ++ dvs) H1 Q (E σ)) : tCallSD sp dvs E t σ H Q := h
end
section
variable {P : Program} {w : World} {K : PySem.W.Frag} {mg : Str → Option Value} {base : Heap} {x qual : Str} {st : Stmt} {f : Addr} {fd : FuncData} {sp : Sp} {k : Nat}
theorem FnP.goX {N ps : List Str} {dvs : List V} (F : FnP K x st dvs f fd) (S : FnScope N ps (defScope st)) (len : ∀ vs H Q E, sp vs H Q E → vs.length = ps.length) (t : XK → TS)
    (pure : ∀ (vs : List V) (H : Hp) (Q : VK) (E : XK), sp vs H Q E → t E { nx := fun _ H' => Q .non H', rt := Q } (start N vs) H)
    (hbody : ∀ (cdv : Value) (A : Around) (outer : List Env) (s : Shared) (H : Hp) (E : XK), Room k (A.deeper (envOfC x (defScope st) s.heap.objs.size f cdv)) →
      PSs (cxOf (L2.CX P w) P w K mg base N x (defScope st) f cdv A outer s H E) (defBody st) (t E)) : FnOk P w K mg base (L2.CX P w) (k + 1) f fd ps sp :=
  F.ok S len fun cdv A outer s H vs Q E hr h => ⟨t E, hbody cdv A outer s H E hr, pure vs H Q E h⟩
theorem FnP.calX {ps : List Str} (F : FnP K x st [] f fd) (ok : FnOk P w K mg base (L2.CX P w) k f fd ps sp) (g : mg x = some (.ref f))
    (h : ∀ (kV doc pm : Value) (an : Option Addr) (cdv ct : Value) (us : List Value), us.length = ps.length → bindArgs (PySem.W.fnOf x x (defArgs st) (defBody st) (defScope st) .none kV doc pm an cdv ct) ⟨us, []⟩ = pure (ps.zip us)) : CalX P w K mg base k x sp [] :=
  ⟨f, fd, ps, [], ok, g, F.kp, F.bindsN h, .nil⟩
/-- a method as it stands -/
abbrev MtP (K : PySem.W.Frag) (x qual : Str) (st : Stmt) (f : Addr) (fd : FuncData) : Prop := FunD K x qual (defArgs st) (defBody st) (defScope st) [] [] f fd
theorem MtP.go {N ps : List Str} (F : MtP K x qual st f fd) (S : FnScope N ps (defScope st)) (len : ∀ vs H Q E, sp vs H Q E → vs.length = ps.length) (t : TS)
    (pure : ∀ (vs : List V) (H : Hp) (Q : VK) (E : XK), sp vs H Q E → t { nx := fun _ H' => Q .non H', rt := Q } (start N vs) H)
    (hbody : ∀ (cdv : Value) (A : Around) (outer : List Env) (s : Shared) (H : Hp) (E : XK), Room k (A.deeper (envOfC qual (defScope st) s.heap.objs.size f cdv)) →
      PSs (cxOf CX0 P w K mg base N qual (defScope st) f cdv A outer s H E).nox (defBody st) t) : FnOk P w K mg base CX0 (k + 1) f fd ps sp :=
  F.ok S len fun cdv A outer s H vs Q E hr h => ⟨t, PSs.nox (hbody cdv A outer s H E hr), pure vs H Q E h⟩
end
def tWeak (ta : TA) : TA := fun σ H Q => ∃ A : List V → Hp → Prop, ta σ H A ∧ ∀ vs H1, A vs H1 → Q vs H1
theorem PA.weak {X : Cx} {es : List Expr} {ta : TA} (h : PA X es ta) : PA X es (tWeak ta) := ⟨fun pos pins s σ H Q I ⟨A, hA, k⟩ =>
  wpAny_mono (h.run pos pins s σ H A I hA) (fun us s1 ⟨vs, H1, I1, r, q⟩ => ⟨vs, H1, I1, r, k vs H1 q⟩) fun _ _ x => x⟩
theorem takes0 {X : Cx} : Takes X (fun _ _ _ _ => False) := fun u s' h => by
  obtain ⟨a, B, sI, pins, σ, H, cls, d, e, I, nb, up, sky, na, os, ag, z⟩ := h
  exact z.elim
end
section
def bmVE : List Value := [.type "ValueError", .type "Exception", .type "BaseException", .type "object"]
structure MkN (K : PySem.W.Frag) (mg : Str → Option Value) (x : Str) (C : Addr) : Prop where
  ex : PySem.W.excIn K C bmVE "ValueError.__new__" = true
  kp : PySem.W.keepIn K (.ref C) = true
  sb : PySem.W.subIn K (.ref C) (.type "BaseException") = some true
  ty : PySem.W.typeIn K (.ref C) = some (.type "type")
  g : mg x = some (.ref C)
def mknB (K : PySem.W.Frag) (C : Addr) : Bool := PySem.W.excIn K C bmVE "ValueError.__new__" && (PySem.W.keepIn K (.ref C) && (decide (PySem.W.subIn K (.ref C) (.type "BaseException") = some true) && decide (PySem.W.typeIn K (.ref C) = some (.type "type"))))
theorem mknB_ok {K : PySem.W.Frag} {mg : Str → Option Value} {x : Str} {C : Addr} (h : mknB K C = true) (g : mg x = some (.ref C)) : MkN K mg x C := by
  unfold mknB at h
  simp only [Bool.and_eq_true, decide_eq_true_eq] at h
  obtain ⟨h1, h2, h3, h4⟩ := h
  exact ⟨h1, h2, h3, h4, g⟩
def tRaiseN (C : Addr) (E : XK) : TS := fun _ _ H => E (.ref C) none H
theorem ps_raiseN {X : Cx} {x m : Str} {C : Addr} {E : XK} {p p2 pos pos2 : Pos} {j : Nat} (hc : X.calm = true) (M : MkN X.K X.mg x C) (tk : Takes X (fun cls d _ H => E cls d H)) (hg : Gl X x) (hdb : (x == ("__debug__" : Str)) = false := by decide) :
    PS X (.Raise (some (.Call (.Name x p) [.Constant (.str m) j p2] [] pos)) none pos2) (tRaiseN C E) :=
  ps_raise (pos := pos2) hc tk (pmk_own (PySem.F.excBase_ValueError) M.ex M.g M.kp (raises_own M.sb M.ty) hg hdb)
theorem w_raiseN {C : Addr} {E : XK} {D : Ends} {σ : L2.St} {H : Hp} (h : E (.ref C) none H) : tRaiseN C E D σ H := h
def excB (K : PySem.W.Frag) (C : Addr) : Bool :=
  decide (PySem.W.findIn K (.ref C) "__getattribute__" = some (some (.builtin "BaseException.__getattribute__"))) && (decide (PySem.W.findIn K (.ref C) "__getattr__" = some none) && (decide (PySem.W.subIn K (.ref C) (.type "BaseException") = some true) && (PySem.W.hasDictIn K C &&
  (decide (PySem.W.findIn K (.ref C) "__class__" = some (some (.builtin "object.__class__"))) && (decide (PySem.W.specialIn K (.builtin "object.__class__") "__get__" = some (some (.builtin "getset_descriptor.__get__"))) && (decide (PySem.W.takesIn K (.builtin "object.__class__") = some true) &&
  decide (PySem.W.mroIn K C (.type "object") = some true)))))))
theorem excB_ok {K : PySem.W.Frag} {C : Addr} (h : excB K C = true) : ExcC K C := by
  unfold excB at h
  simp only [Bool.and_eq_true, decide_eq_true_eq] at h
  obtain ⟨h2, h3, h4, h5, h6, h7, h8, h9⟩ := h
  exact ⟨h2, h3, h4, h5, h6, h7, h8, h9⟩
end
section
section
variable {X : Cx} {pins : List (Addr × Obj)} {σ : L2.St} {H : Hp} {s : Shared}
def rIsN (K : PySem.W.Frag) : List V → Hp → VK → Prop := fun xs H Q => (∃ (a C : Addr) (c : V) (u : Value) (b : Bool), xs = [.ref a, c] ∧ ClsV c u ∧ H a = some (ExH (.ref C) none a) ∧ ExcC K C ∧ PySem.W.kitOne K (.ref C) u = some b ∧ Q (.bl b) H) ∨ rIsi K xs H Q
def rIsNT (K : PySem.W.Frag) : List V → Hp → VK → Prop := fun xs H Q => (∃ (a C : Addr) (tp : Addr) (cs : List V) (us : List Value) (b : Bool), xs = [.ref a, .ref tp] ∧ H tp = some (.tup cs) ∧ Paired ClsV cs us ∧ H a = some (ExH (.ref C) none a) ∧ ExcC K C ∧ PySem.W.kitAny K (.ref C) us = some b ∧ Q (.bl b) H) ∨ rIsiT K xs H Q
theorem kit_heldN {a C : Addr} (I : Inv X pins σ H s) (ea : H a = some (ExH (.ref C) none a)) (c : ExcC X.K C) :
    ∃ P : Heap → Prop, PySem.W.KitX X.K (.ref a) (.ref C) P ∧ P s.heap := by
  obtain ⟨oe, vs, ha, hz, hd⟩ := exH_at I.hok ea
  have J : PySem.W.InstAt s.heap a oe C none := ⟨ha, hz.1, by unfold PySem.W.notCls; rw [hd] <;> rfl, by rw [hz.2]; trivial⟩
  exact ⟨_, PySem.W.kitx_exc (ox := oe) (od := none) (by obtain ⟨cd, hc, _⟩ := PySem.W.any_some c.hd; rw [hc] <;> rfl) c.hg c.hk c.hs c.ha c.hn c.ht c.hm, J⟩
theorem call_isN : CallR X (.builtin "isinstance") (rIsN X.K) := by
  intro pins s σ H xs us Q I r h
  rcases h with ⟨a, C, c, u, b, rfl, k, ea, ec, e, q⟩ | h
  · obtain ⟨u1, u2, rfl, r1, r2⟩ := vals2 r
    have e2 := k.eq r2
    subst e2
    cases (show u1 = Value.ref a from r1)
    obtain ⟨P, Z, p⟩ := kit_heldN I ea ec
    exact PySem.W.kia_one Z I.kIn p e (fun z => nomatch z) fun tk => ⟨.bl b, H, I.tok tk, rfl, q⟩
  · exact call_isi pins s σ H xs us Q I r h
theorem call_isNT : CallR X (.builtin "isinstance") (rIsNT X.K) := by
  intro pins s σ H xs us Q I r h
  rcases h with ⟨a, C, tp, cs, ws, b, rfl, hT, k, ea, ec, e, q⟩ | h
  · obtain ⟨u1, u2, rfl, r1, r2⟩ := vals2 r
    cases (show u2 = Value.ref tp from r2)
    cases (show u1 = Value.ref a from r1)
    obtain ⟨P, Z, p⟩ := kit_heldN I ea ec
    obtain ⟨_, its, rv, o, h1, h2, n, h3⟩ := (show ObjOk X.prog X.w H s.heap tp (.tup cs) from I.hok tp _ hT)
    have e3 := ClsV.all k rv
    subst e3
    obtain ⟨oc, od, dt, sl⟩ := o
    simp only at h2 h3
    subst h2 h3
    exact PySem.W.kia_tup Z I.kIn p h1 e (fun z => nomatch z) fun tk => ⟨.bl b, H, I.tok tk, rfl, q⟩
  · exact call_isiT pins s σ H xs us Q I r h
end
end
section
def sixT (K : PySem.W.Frag) : List Value := [.ref (He.ga K "NoHand"), .ref (He.ga K "NoHelper"), .ref (He.ga K "NoMark"), .ref (He.ga K "NoProgram"), .ref (He.ga K "NotOver"), .ref (He.ga K "TooLong")]
structure NTf (K : PySem.W.Frag) : Prop where
  is : ExcC K (He.ga K "NoText")
  exm : PySem.W.exmOne K (.ref (He.ga K "NoText")) (.ref (He.ga K "WorkError")) = some true
  no : PySem.W.kitAny K (.ref (He.ga K "NoText")) (sixT K) = some false
  yes : PySem.W.kitOne K (.ref (He.ga K "NoText")) (.ref (He.ga K "NoText")) = some true
  ve : PySem.W.kitOne K (.ref (He.ga K "NoText")) (.type "ValueError") = some true
def ntfB (K : PySem.W.Frag) : Bool := excB K (He.ga K "NoText") && (decide (PySem.W.exmOne K (.ref (He.ga K "NoText")) (.ref (He.ga K "WorkError")) = some true) &&
  (decide (PySem.W.kitAny K (.ref (He.ga K "NoText")) (sixT K) = some false) && (decide (PySem.W.kitOne K (.ref (He.ga K "NoText")) (.ref (He.ga K "NoText")) = some true) && decide (PySem.W.kitOne K (.ref (He.ga K "NoText")) (.type "ValueError") = some true))))
theorem ntfB_ok {K : PySem.W.Frag} (h : ntfB K = true) : NTf K := by
  unfold ntfB at h
  simp only [Bool.and_eq_true, decide_eq_true_eq] at h
  obtain ⟨h1, h2, h3, h4, h5⟩ := h
  exact ⟨excB_ok h1, h2, h3, h4, h5⟩
theorem sixT_paired {K : PySem.W.Frag} : Paired ClsV [.ref (He.ga K "NoHand"), .ref (He.ga K "NoHelper"), .ref (He.ga K "NoMark"), .ref (He.ga K "NoProgram"), .ref (He.ga K "NotOver"), .ref (He.ga K "TooLong")] (sixT K) := .cons (.own _) (.cons (.own _) (.cons (.own _) (.cons (.own _) (.cons (.own _) (.cons (.own _) .nil)))))
end
section
def DgK (K : PySem.W.Frag) : Prop := PySem.W.nsIn K cStatics "sys.int_max_str_digits" = some none
theorem dg_none {X : Cx} {pins : List (Addr × Obj)} {σ : L2.St} {H : Hp} {s : Shared} (I : Inv X pins σ H s) (h : DgK X.K) : s.heap.NoDigits := by
  obtain ⟨mc, ⟨o, es, ep, ho, hd, sk, hm⟩, _⟩ := I.nolimit
  refine ⟨mc, ⟨o, es, ep, ho, hd, sk, hm⟩, ?_⟩
  have h : PySem.W.nsIn X.K cStatics "sys.int_max_str_digits" = some none := h
  unfold PySem.W.nsIn at h
  split at h
  · rename_i c d es2 n sl hl
    have e := I.kIn _ _ hl
    rw [ho] at e
    have e := Option.some.inj e
    subst e
    have hd : PySem.Data.dict es2 n = .dict es ep := hd
    injection hd with h1 h2
    subst h1
    split at h
    · cases h
    · rename_i hf
      rw [← hm]
      unfold nsFind findBy
      rw [← Array.find?_toList, hf]
      rfl
  · cases h
theorem wp_imsd {M : Model} {A : Around} {E : Value → Shared → Prop} {s : Shared} {Q : Nat → Shared → Prop} (hn : s.heap.NoDigits) (q : Q 4300 s) : wpAny M A Builtin.intMaxStrDigits Q E s := by
  obtain ⟨mc, hns, hnone⟩ := hn
  unfold Builtin.intMaxStrDigits
  refine wpAny_bind (wpAny_nsGet hns ?_)
  rw [hnone]
  exact wpAny_pure q
theorem wp_textB {M : Model} {A : Around} {E : Value → Shared → Prop} {s : Shared} {Q : Value → Shared → Prop} {v : Value} {text : List Nat} {n : Int} (hn : s.heap.NoDigits)
    (hs : ¬ (text.takeWhile (· != 0)).length ≤ 640) (hr : (int_private% "readNumeral") 4300 10 (text.takeWhile (· != 0)) = (int_private% "Numeral.value") n)
    (ha : ((text.takeWhile (· != 0)).length == text.length) = true) (h : Q (.int n s.toks) { s with toks := s.toks + 1 }) :
    wpAny M A ((int_private% "intFromText") v text 10) Q E s := by
  obtain ⟨hp, g, d, tk, os⟩ := s
  repeat (any_goals (first
    | assumption
    | (with_reducible refine wp_imsd hn ?_)
    | (with_reducible refine wpAny_ite_false (decide_eq_false hs) ?_)
    | (with_reducible refine wpAny_ite_true (decide_eq_true ha) ?_)
    | wp_step))
  all_goals (try rw [hr])
  all_goals (try dsimp only)
  repeat (any_goals (first
    | assumption
    | (with_reducible refine wpAny_ite_true (decide_eq_true ha) ?_)
    | wp_step))
theorem meets_textB {x : PySem.Str} {u : Tok} {n : Int} (hl : x.length ≤ 4300) (hn : PySem.intText? x = some n) : Meets (Builtin.«int.__new__» ⟨[.type "int", .str x u], []⟩) (fun _ R s => s.heap.NoDigits ∧ R (.ok (.ret (.int n s.toks))) { s with toks := s.toks + 1 }) := by
  refine Meets.of_wp fun prog w A R s ⟨hd, h⟩ => ?_
  by_cases h640 : (numSeenOf x).length ≤ 640
  · obtain ⟨hp, g, d, tk, os⟩ := s
    have f1 := PySem.F.conv_sub_int
    have f2 := PySem.F.madeHere_int
    have f3 := PySem.W.KIN.str_int
    have f4 := PySem.W.KIN.str_idx
    have f5 := PySem.W.KIN.str_trunc
    have f6 : typeOf (.str x u) = pure (.type "str") := rfl
    have hr : (int_private% "readNumeral") 0 10 (numSeenOf x) = (int_private% "Numeral.value") n ∧ ((numSeenOf x).length == (numTextOf x).length) = true := by
      rcases read0 x h640 with ⟨m, h1, h2, h3⟩ | ⟨h1, _⟩
      · rw [hn] at h1
        injection h1 with h1
        subst h1
        exact ⟨h3, h2⟩
      · rw [hn] at h1
        cases h1
    have hk := PySem.W.KIN.Hid.mk (And.intro h640 hr)
    clear hr hl hn h640 hd
    repeat (any_goals (first
      | assumption
      | ((with_reducible show wpAny _ _ ((int_private% "intFromText") _ _ _) _ _ _); refine PySem.W.KIN.wp_text hk.out.1 hk.out.2.1 hk.out.2.2 ?_)
      | wp_step))
    all_goals first | exact ⟨_, rfl, h⟩ | skip
  · obtain ⟨hp, g, d, tk, os⟩ := s
    have f1 := PySem.F.conv_sub_int
    have f2 := PySem.F.madeHere_int
    have f3 := PySem.W.KIN.str_int
    have f4 := PySem.W.KIN.str_idx
    have f5 := PySem.W.KIN.str_trunc
    have f6 : typeOf (.str x u) = pure (.type "str") := rfl
    have hr : (int_private% "readNumeral") 4300 10 (numSeenOf x) = (int_private% "Numeral.value") n ∧ ((numSeenOf x).length == (numTextOf x).length) = true := by
      rcases read4300 x (Nat.le_trans hl (by decide)) with ⟨m, h1, h2, h3⟩ | ⟨h1, _⟩
      · rw [hn] at h1
        injection h1 with h1
        subst h1
        exact ⟨h3, h2⟩
      · rw [hn] at h1
        cases h1
    have hk := PySem.W.KIN.Hid.mk (And.intro h640 hr)
    have hdk := PySem.W.KIN.Hid.mk hd
    clear hr hl hn h640 hd
    repeat (any_goals (first
      | assumption
      | ((with_reducible show wpAny _ _ ((int_private% "intFromText") _ _ _) _ _ _); refine wp_textB hdk.out hk.out.1 hk.out.2.1 hk.out.2.2 ?_)
      | wp_step))
    all_goals first | exact ⟨_, rfl, h⟩ | skip
theorem call_textB {prog : Program} {w : World} {A : Around} {E : Value → Shared → Prop} {s : Shared} {Q : Value → Shared → Prop} {x : PySem.Str} {t : Tok} {n : Int} (hd : s.heap.NoDigits) (hn : PySem.intText? x = some n) (hl : x.length ≤ 4300) (h : Q (.int n s.toks) { s with toks := s.toks + 1 }) : wpAny (model prog w) A (call (.type "int") [.str x t]) Q E s :=
  PySem.call_int_1 (meets_textB hl hn) ⟨hd, rfl, h⟩
/-- int(text) up to 4300 signs, str(int) up to 4300 figures -/
def cIntSB : List V → Hp → VK → Prop := fun xs H Q => ∃ a n, xs = [.str a] ∧ PySem.intText? a = some n ∧ a.length ≤ 4300 ∧ Q (.int n) H
theorem p_intSB {X : Cx} (D : DgK X.K) : CallR X (.type "int") cIntSB := fun pins s σ H xs us Q I rs h => by
  obtain ⟨a, n, rfl, hn, hl, h⟩ := h
  cases rs with
  | cons r1 rs =>
    cases rs
    obtain ⟨t, rfl⟩ := r1
    exact call_textB (dg_none I D) hn hl ⟨.int n, H, I.tok _, ⟨_, rfl⟩, h⟩
def cStrIB : List V → Hp → VK → Prop := fun xs H Q => ∃ i : Int, xs = [.int i] ∧ i.natAbs < 10 ^ 4300 ∧ Q (.str (Str.ofString (toString i))) H
theorem p_strIB {X : Cx} (hc : X.calm = true) (D : DgK X.K) : CallR X (.type "str") cStrIB := fun pins s σ H xs us Q I rs h => by
  obtain ⟨i, rfl, hi, h⟩ := h
  cases rs with
  | cons r1 rs =>
    cases rs
    obtain ⟨t, rfl⟩ := r1
    exact str_of_int_or (I.ok.hd hc) (dg_none I D) (fun _ => ⟨.str _, H, I.tok _, ⟨_, rfl⟩, h⟩) (fun z => absurd hi (Nat.not_lt.mpr z))
def asY (g : Addr → Option Obj) (n : Nat) : List Addr := He.asD g n ++ [cStatics]
def obsY (n : Nat) (fa : List He.Fa) (fn : List He.DefD) (ts : List He.Tab) (ex : PySem.W.Frag → Bool) (g : Addr → Option Obj) : He.AlX := (He.obsT fa fn ts (He.frT g (asY g n)), ex (He.frT g (asY g n)) && He.tabsB g [] (He.frT g (asY g n)))
theorem saysY_of {n : Nat} {fa : List He.Fa} {fn : List He.DefD} {ts : List He.Tab} {ex : PySem.W.Frag → Bool} {w : World} {h : Heap} (e : obsY n fa fn ts ex h.get? = He.valX fn ts w) : He.SaysX fa fn ts [] ex w h (He.frT h.get? (asY h.get? n)) := by
  have e1 : He.obsT fa fn ts (He.frT h.get? (asY h.get? n)) = He.valT fn ts w := congrArg (fun z : He.AlX => z.1) e
  have e2 : (ex (He.frT h.get? (asY h.get? n)) && He.tabsB h.get? [] (He.frT h.get? (asY h.get? n))) = true := congrArg (fun z : He.AlX => z.2) e
  exact ⟨e1, (Bool.and_eq_true_iff.mp e2).1, fun _ hp => absurd hp List.not_mem_nil, fun _ hp => absurd hp List.not_mem_nil, fun _ hp => absurd hp List.not_mem_nil⟩
def hookY (n : Nat) (fa : List He.Fa) (fn : List He.DefD) (ts : List He.Tab) (ex : PySem.W.Frag → Bool) : PySem.W.Hook where
  α := He.AlX
  obs := fun s => obsY n fa fn ts ex s.heap.get?
  val := fun w => He.valX fn ts w
  says := fun w h => ∃ K : PySem.W.Frag, K.In h ∧ He.SaysX fa fn ts [] ex w h K
  of := fun _ _ e => ⟨_, He.frT_in, saysY_of e⟩
  keeps := fun _ _ _ ⟨K, hK, c⟩ k => ⟨K, PySem.W.Frag.In.keeps hK k, ⟨c.t, c.more, c.hd, c.out, fun _ hp => absurd hp List.not_mem_nil⟩⟩
theorem obsY_eq {n : Nat} {fa : List He.Fa} {fn : List He.DefD} {ts : List He.Tab} {ex : PySem.W.Frag → Bool} {g : Addr → Option Obj} {s : Shared} (h : ∀ a, g a = s.heap.get? a) : obsY n fa fn ts ex g = (hookY n fa fn ts ex).obs s := by
  have e : g = s.heap.get? := funext h
  rw [e] <;> rfl
end
end Fg
namespace Fg
open PySem PySem.Spec PyProof.Rows L2
local macro_rules | `(tactic| walk_at "len") => `(tactic| first | exact (fun ⟨e, _⟩ => by rw [e]; rfl) | (refine exL ?_; intro _; walk_at "len"))
def topS (i : Nat) : Stmt := PySem.Challenge.pw_forkgather_k55_long_texts.main.body.getD i (.Pass ⟨0, 0, 0, 0⟩)
abbrev s_is_whole : Stmt := topS 13
abbrev s_is_name : Stmt := topS 14
abbrev s_is_expression : Stmt := topS 15
abbrev s_is_step : Stmt := topS 16
abbrev s_has_form : Stmt := topS 17
abbrev s_first_wrong : Stmt := topS 18
abbrev s_is_program : Stmt := topS 19
abbrev s_show_expression : Stmt := topS 22
abbrev s_show_step : Stmt := topS 23
abbrev s_show_program : Stmt := topS 24
abbrev s_read_number : Stmt := topS 25
abbrev s_parted : Stmt := topS 26
abbrev s_read_expression : Stmt := topS 27
abbrev s_read_step : Stmt := topS 28
abbrev s_read_helper : Stmt := topS 29
abbrev s_read_program : Stmt := topS 30
abbrev s__law_cell_at : Stmt := topS 32
abbrev s__law_bag : Stmt := topS 33
abbrev s__law_draw : Stmt := topS 34
abbrev s__law_sign : Stmt := topS 35
abbrev s__law_is_name : Stmt := topS 36
abbrev s__law_is_whole : Stmt := topS 37
abbrev s__law_is_expression : Stmt := topS 38
abbrev s__law_is_step : Stmt := topS 39
abbrev s__law_wrong : Stmt := topS 40
abbrev s__law_number_read : Stmt := topS 41
abbrev s__law_expression_read : Stmt := topS 42
abbrev s__law_letters : Stmt := topS 43
abbrev s__law_step_read : Stmt := topS 44
abbrev s__law_helper_read : Stmt := topS 45
abbrev s__law_read : Stmt := topS 46
abbrev s__law_plain_refusal : Stmt := topS 47
abbrev s__law_asked : Stmt := topS 48
abbrev s__law_long : Stmt := topS 49
abbrev s_law : Stmt := topS 50
def d_is_whole : He.DefD := ⟨("is_whole", none), "is_whole", "is_whole", defArgs s_is_whole, defBody s_is_whole, defScope s_is_whole, [], []⟩
def d_is_name : He.DefD := ⟨("is_name", none), "is_name", "is_name", defArgs s_is_name, defBody s_is_name, defScope s_is_name, [], []⟩
def d_is_expression : He.DefD := ⟨("is_expression", none), "is_expression", "is_expression", defArgs s_is_expression, defBody s_is_expression, defScope s_is_expression, [.int 5], []⟩
def d_is_step : He.DefD := ⟨("is_step", none), "is_step", "is_step", defArgs s_is_step, defBody s_is_step, defScope s_is_step, [], []⟩
def d_has_form : He.DefD := ⟨("has_form", none), "has_form", "has_form", defArgs s_has_form, defBody s_has_form, defScope s_has_form, [], []⟩
def d_first_wrong : He.DefD := ⟨("first_wrong", none), "first_wrong", "first_wrong", defArgs s_first_wrong, defBody s_first_wrong, defScope s_first_wrong, [], []⟩
def d_is_program : He.DefD := ⟨("is_program", none), "is_program", "is_program", defArgs s_is_program, defBody s_is_program, defScope s_is_program, [], []⟩
def d_show_expression : He.DefD := ⟨("show_expression", none), "show_expression", "show_expression", defArgs s_show_expression, defBody s_show_expression, defScope s_show_expression, [], []⟩
def d_show_step : He.DefD := ⟨("show_step", none), "show_step", "show_step", defArgs s_show_step, defBody s_show_step, defScope s_show_step, [], []⟩
def d_show_program : He.DefD := ⟨("show_program", none), "show_program", "show_program", defArgs s_show_program, defBody s_show_program, defScope s_show_program, [], []⟩
def d_read_number : He.DefD := ⟨("read_number", none), "read_number", "read_number", defArgs s_read_number, defBody s_read_number, defScope s_read_number, [], []⟩
def d_parted : He.DefD := ⟨("parted", none), "parted", "parted", defArgs s_parted, defBody s_parted, defScope s_parted, [], []⟩
def d_read_expression : He.DefD := ⟨("read_expression", none), "read_expression", "read_expression", defArgs s_read_expression, defBody s_read_expression, defScope s_read_expression, [.int 5], []⟩
def d_read_step : He.DefD := ⟨("read_step", none), "read_step", "read_step", defArgs s_read_step, defBody s_read_step, defScope s_read_step, [], []⟩
def d_read_helper : He.DefD := ⟨("read_helper", none), "read_helper", "read_helper", defArgs s_read_helper, defBody s_read_helper, defScope s_read_helper, [], []⟩
def d_read_program : He.DefD := ⟨("read_program", none), "read_program", "read_program", defArgs s_read_program, defBody s_read_program, defScope s_read_program, [], []⟩
def d__law_cell_at : He.DefD := ⟨("_law_cell_at", none), "_law_cell_at", "_law_cell_at", defArgs s__law_cell_at, defBody s__law_cell_at, defScope s__law_cell_at, [], []⟩
def d__law_bag : He.DefD := ⟨("_law_bag", none), "_law_bag", "_law_bag", defArgs s__law_bag, defBody s__law_bag, defScope s__law_bag, [], []⟩
def d__law_draw : He.DefD := ⟨("_law_draw", none), "_law_draw", "_law_draw", defArgs s__law_draw, defBody s__law_draw, defScope s__law_draw, [], []⟩
def d__law_sign : He.DefD := ⟨("_law_sign", none), "_law_sign", "_law_sign", defArgs s__law_sign, defBody s__law_sign, defScope s__law_sign, [], []⟩
def d__law_is_name : He.DefD := ⟨("_law_is_name", none), "_law_is_name", "_law_is_name", defArgs s__law_is_name, defBody s__law_is_name, defScope s__law_is_name, [], []⟩
def d__law_is_whole : He.DefD := ⟨("_law_is_whole", none), "_law_is_whole", "_law_is_whole", defArgs s__law_is_whole, defBody s__law_is_whole, defScope s__law_is_whole, [], []⟩
def d__law_is_expression : He.DefD := ⟨("_law_is_expression", none), "_law_is_expression", "_law_is_expression", defArgs s__law_is_expression, defBody s__law_is_expression, defScope s__law_is_expression, [], []⟩
def d__law_is_step : He.DefD := ⟨("_law_is_step", none), "_law_is_step", "_law_is_step", defArgs s__law_is_step, defBody s__law_is_step, defScope s__law_is_step, [], []⟩
def d__law_wrong : He.DefD := ⟨("_law_wrong", none), "_law_wrong", "_law_wrong", defArgs s__law_wrong, defBody s__law_wrong, defScope s__law_wrong, [], []⟩
def d__law_number_read : He.DefD := ⟨("_law_number_read", none), "_law_number_read", "_law_number_read", defArgs s__law_number_read, defBody s__law_number_read, defScope s__law_number_read, [], []⟩
def d__law_expression_read : He.DefD := ⟨("_law_expression_read", none), "_law_expression_read", "_law_expression_read", defArgs s__law_expression_read, defBody s__law_expression_read, defScope s__law_expression_read, [], []⟩
def d__law_letters : He.DefD := ⟨("_law_letters", none), "_law_letters", "_law_letters", defArgs s__law_letters, defBody s__law_letters, defScope s__law_letters, [], []⟩
def d__law_step_read : He.DefD := ⟨("_law_step_read", none), "_law_step_read", "_law_step_read", defArgs s__law_step_read, defBody s__law_step_read, defScope s__law_step_read, [], []⟩
def d__law_helper_read : He.DefD := ⟨("_law_helper_read", none), "_law_helper_read", "_law_helper_read", defArgs s__law_helper_read, defBody s__law_helper_read, defScope s__law_helper_read, [], []⟩
def d__law_read : He.DefD := ⟨("_law_read", none), "_law_read", "_law_read", defArgs s__law_read, defBody s__law_read, defScope s__law_read, [], []⟩
def d__law_plain_refusal : He.DefD := ⟨("_law_plain_refusal", none), "_law_plain_refusal", "_law_plain_refusal", defArgs s__law_plain_refusal, defBody s__law_plain_refusal, defScope s__law_plain_refusal, [], []⟩
def d__law_asked : He.DefD := ⟨("_law_asked", none), "_law_asked", "_law_asked", defArgs s__law_asked, defBody s__law_asked, defScope s__law_asked, [], []⟩
def d__law_long : He.DefD := ⟨("_law_long", none), "_law_long", "_law_long", defArgs s__law_long, defBody s__law_long, defScope s__law_long, [], []⟩
def d_law : He.DefD := ⟨("law", none), "law", "law", defArgs s_law, defBody s_law, defScope s_law, [], []⟩
def fn : List He.DefD := [d_is_whole, d_is_name, d_is_expression, d_is_step, d_has_form, d_first_wrong, d_is_program, d_show_expression, d_show_step, d_show_program, d_read_number, d_parted, d_read_expression, d_read_step, d_read_helper, d_read_program, d__law_cell_at, d__law_bag, d__law_draw, d__law_sign, d__law_is_name, d__law_is_whole, d__law_is_expression, d__law_is_step, d__law_wrong, d__law_number_read, d__law_expression_read, d__law_letters, d__law_step_read, d__law_helper_read, d__law_read, d__law_plain_refusal, d__law_asked, d__law_long, d_law]
def fa : List He.Fa := [.glo "is_whole", .glo "is_name", .glo "is_expression", .glo "is_step", .glo "has_form", .glo "first_wrong", .glo "is_program", .glo "show_expression", .glo "show_step", .glo "show_program", .glo "read_number", .glo "parted", .glo "read_expression", .glo "read_step", .glo "read_helper", .glo "read_program", .glo "_law_cell_at", .glo "_law_bag", .glo "_law_draw", .glo "_law_sign", .glo "_law_is_name", .glo "_law_is_whole", .glo "_law_is_expression", .glo "_law_is_step", .glo "_law_wrong", .glo "_law_number_read", .glo "_law_expression_read", .glo "_law_letters", .glo "_law_step_read", .glo "_law_helper_read", .glo "_law_read", .glo "_law_plain_refusal", .glo "_law_asked", .glo "_law_long", .glo "law", .glo "WorkError", .glo "NoProgram", .glo "NoHelper", .glo "TooLong", .glo "NoMark", .glo "NoHand", .glo "NotOver", .glo "NoText", .free "ValueError", .free "all", .free "isinstance", .free "int", .free "tuple", .free "len", .free "list", .free "enumerate", .free "str", .free "max", .free "range", .free "bool", .free "zip", .str "LETTERS" letters, .int "LONGEST_NAME" 8, .glo "PARTS", .str "FIGURES" "0123456789"]
def ts : List He.Tab := [(fun K => He.ga K "PARTS", partK)]
def ex (K : PySem.W.Frag) : Bool := He.valsB K (He.ga K "PARTS") partV && (mknB K (He.ga K "NoText") && (ntfB K && (decide (PySem.W.nsIn K cStatics "sys.int_max_str_digits" = some none))))
abbrev R0 : PySem.W.OpenRow := PySem.W.OpenLaw.row PySem.Challenge.rw_forkgather_k55_long_texts
abbrev hk : PySem.W.Hook := hookY 5 fa fn ts ex
def ob (s : PySem.W.SharedT) : He.AlX := obsY 5 fa fn ts ex (HandSHeadRun.getT s)
theorem ob_eq (s : PySem.W.SharedT) : ob s = hk.obs s.abs := obsY_eq (HandSHeadRun.getT_eq s)
def names : List Str := [Str.ofString "WorkError", Str.ofString "NoProgram", Str.ofString "NoHelper", Str.ofString "TooLong", Str.ofString "NoMark", Str.ofString "NoHand", Str.ofString "NotOver", Str.ofString "NoText", Str.ofString "LETTERS", Str.ofString "LONGEST_NAME", Str.ofString "PARTS", Str.ofString "is_whole", Str.ofString "is_name", Str.ofString "is_expression", Str.ofString "is_step", Str.ofString "has_form", Str.ofString "first_wrong", Str.ofString "is_program", Str.ofString "FIGURES", Str.ofString "show_expression", Str.ofString "show_step", Str.ofString "show_program", Str.ofString "read_number", Str.ofString "parted", Str.ofString "read_expression", Str.ofString "read_step", Str.ofString "read_helper", Str.ofString "read_program", Str.ofString "_law_cell_at", Str.ofString "_law_bag", Str.ofString "_law_draw", Str.ofString "_law_sign", Str.ofString "_law_is_name", Str.ofString "_law_is_whole", Str.ofString "_law_is_expression", Str.ofString "_law_is_step", Str.ofString "_law_wrong", Str.ofString "_law_number_read", Str.ofString "_law_expression_read", Str.ofString "_law_letters", Str.ofString "_law_step_read", Str.ofString "_law_helper_read", Str.ofString "_law_read", Str.ofString "_law_plain_refusal", Str.ofString "_law_asked", Str.ofString "_law_long"]
theorem run_f (w : World) : HandSHeadRun.RunEq R0 (PySem.W.view R0.prog [50]) hk ob 4000 names (w.withFollow "special-get-raises" false) := fun os => by kernel_rfl
theorem run_t (w : World) : HandSHeadRun.RunEq R0 (PySem.W.view R0.prog [50]) hk ob 4000 names (w.withFollow "special-get-raises" true) := fun os => by kernel_rfl
theorem run (w : World) : HandSHeadRun.RunEq R0 (PySem.W.view R0.prog [50]) hk ob 4000 names w :=
  PySem.W.byRow2 "special-get-raises" (P := fun w => HandSHeadRun.RunEq R0 (PySem.W.view R0.prog [50]) hk ob 4000 names w) run_f run_t w
set_option maxHeartbeats 0 in
open PySem.W PySem.Calls in
theorem close (sp : PySem.W.Frag → Sp) (hsp : ∀ (K : PySem.W.Frag) (H : Hp) (a : Addr) (ns : List Int), ns.length ≤ 63 → SqL K H a (ns.map V.int) → sp K [.ref a] H (fun v _ => v = .bl true) (fun _ _ _ => False))
    (facts : ∀ {w : World} {K : PySem.W.Frag} {h : Heap} {mg : Str → Option Value} {f : Addr}, K.In h → h.Ns mainGlobals mg → mg ("law" : Str) = some (.ref f) → He.SaysX fa fn ts [] ex w h K →
      ∃ fd : FuncData, (∀ (s : Shared) (v : Value), BindsTo s fd ⟨[v], []⟩ [("script", v)]) ∧ ∀ base : Heap, K.In base → base.Ns mainGlobals mg → FnOk (PySem.Challenge.rw_forkgather_k55_long_texts).prog w K mg base CX0 14 f fd ["script"] (sp K)) : PySem.Challenge.rw_forkgather_k55_long_texts.Holds := by
  w_on; o_law
  refine HandSHeadRun.head_any (r := OpenLaw.row PySem.Challenge.rw_forkgather_k55_long_texts) (q := view (OpenLaw.row PySem.Challenge.rw_forkgather_k55_long_texts).prog [50]) (H := Fg.hk) (ob := Fg.ob) (M := 4000) (loose := Fg.names) (d := HandSHeadRun.topDef (OpenLaw.row PySem.Challenge.rw_forkgather_k55_long_texts).prog 50) (kwd := []) Fg.ob_eq
    (by kernel_rfl) (fun s => by kernel_rfl) Fg.run (by kernel_rfl) (by kernel_rfl) (by kernel_rfl) (by rfl) (by first | assumption | decide +kernel) (by decide +kernel) ⟨rfl, rfl, rfl, rfl, rfl, by decide +kernel⟩ ?hw ?hc
  case hw => w_witness2
  case hc =>
    refine L2.walk_ofE (l := PySem.Challenge.rw_forkgather_k55_long_texts) (n := 63) (k := 14) (x := "script") (CX := L2.CX0) rfl (by decide) (by kernel_rfl) ⟨rfl, by decide, by decide⟩ ?F (fun _ _ _ _ z => z)
    intro w mg fa h Y G hmg0
    obtain ⟨K, KX, c⟩ := Y
    have hmg : mg ("law" : PySem.Str) = some (.ref fa) := by
      have e : (HandSHeadRun.topDef (OpenLaw.row PySem.Challenge.rw_forkgather_k55_long_texts).prog 50).name = ("law" : PySem.Str) := by kernel_rfl
      rw [← e]
      exact hmg0
    obtain ⟨fd, hb, hF⟩ := facts (w := w) KX G hmg c
    exact ⟨K, fd, sp K, KX, hb, fun H a ns hl _ hS => hsp K H a ns hl hS, hF⟩
end Fg
namespace Fg
open PySem PySem.Spec PyProof.Rows L2
section
def figs : Str := "0123456789"
/-- the longest text of a number that is read -/
def rdL : Nat := 3100
/-- the greatest number that is shown -/
def shB : Int := 10 ^ 3100
theorem shB_log {i : Int} (h : -shB ≤ i ∧ i ≤ shB) : i.natAbs < 10 ^ 4300 := by
  have h1 : i.natAbs ≤ 10 ^ 3100 := by
    have e : ((10 ^ 3100 : Nat) : Int) = shB := by unfold shB; norm_cast
    generalize (10 : Nat) ^ 3100 = M at e ⊢
    rw [← e] at h
    omega
  exact Nat.lt_of_le_of_lt h1 (Nat.pow_lt_pow_right (by decide) (by decide))
def cIntS : List V → Hp → VK → Prop := fun xs H Q => ∃ a n, xs = [.str a] ∧ PySem.intText? a = some n ∧ a.length ≤ rdL ∧ Q (.int n) H
theorem p_intS {X : Cx} (D : DgK X.K) : CallR X (.type "int") cIntS := fun pins s σ H xs us Q I rs ⟨a, n, h1, h2, h3, h4⟩ => p_intSB D pins s σ H xs us Q I rs ⟨a, n, h1, h2, Nat.le_trans h3 (by decide), h4⟩
theorem w_strIB {i : Int} {H : Hp} {Q : VK} (h : i.natAbs < 10 ^ 4300) (q : Q (.str (Str.ofString (toString i))) H) : cStrIB [.int i] H Q := ⟨i, rfl, h, q⟩
section
variable {H : Hp} {Q : VK} {a b : Str}
theorem w_partition (hb : (b.length == 0) = false) (ha : a.length ≤ sizeLine) (q : ∀ p H2, H p = none → Chg [] H H2 → H2 p = some (.tup [.str (Txt.partition a b).1, .str (Txt.partition a b).2.1, .str (Txt.partition a b).2.2]) → Q (.ref p) H2) : mPartition (.str a) [.str b] H Q :=
  ⟨a, b, rfl, rfl, hb, ha, d_new q⟩
theorem w_split (hb : (b.length == 0) = false) (ha : a.length + 2 ≤ sizeLine) (q : ∀ p H2, H p = none → Chg [] H H2 → H2 p = some (.lst ((Txt.split a b).map V.str)) → Q (.ref p) H2) : mSplit (.str a) [.str b] H Q :=
  ⟨a, b, rfl, rfl, hb, ha, d_new q⟩
theorem w_intS {n : Int} (h : PySem.intText? a = some n) (hl : a.length ≤ rdL) (q : Q (.int n) H) : cIntS [.str a] H Q := ⟨a, n, rfl, h, hl, q⟩
end
end
section
abbrev Tx := List Nat
def stx (l : Tx) : Str := ⟨l.toArray⟩
theorem stx_list (l : Tx) : (stx l).cps.toList = l := by simp [stx]
theorem stx_of (x : Str) : stx x.cps.toList = x := by cases x; simp [stx]
theorem stx_len (l : Tx) : (stx l).length = l.length := by show l.toArray.size = l.length; simp
theorem stx_inj {a b : Tx} (h : stx a = stx b) : a = b := by rw [← stx_list a, h, stx_list]
/-- parted by two signs -/
def cons1 (a : Nat) : List Tx → List Tx
  | [] => [[a]]
  | p :: ps => (a :: p) :: ps
def spl2 (c d : Nat) : Tx → List Tx
  | [] => [[]]
  | [a] => [[a]]
  | a :: b :: r => if a = c ∧ b = d then [] :: spl2 c d r else cons1 a (spl2 c d (b :: r))
theorem spl2_cons (c d a b : Nat) (r : Tx) : spl2 c d (a :: b :: r) = if a = c ∧ b = d then [] :: spl2 c d r else cons1 a (spl2 c d (b :: r)) := by rw [spl2]
theorem spl2_ne (c d : Nat) : ∀ l : Tx, ∃ p ps, spl2 c d l = p :: ps
  | [] => ⟨_, _, rfl⟩
  | [a] => ⟨_, _, rfl⟩
  | a :: b :: r => by
    unfold spl2
    split
    · exact ⟨_, _, rfl⟩
    · obtain ⟨p, ps, e⟩ := spl2_ne c d (b :: r)
      rw [e]
      exact ⟨_, _, rfl⟩
/-- c d stands at k -/
def At2 (c d : Nat) (l : Tx) (k : Nat) : Prop := l[k]? = some c ∧ l[k + 1]? = some d
theorem spl2_no {c d : Nat} : ∀ {l : Tx}, (∀ k, ¬ At2 c d l k) → spl2 c d l = [l]
  | [], _ => rfl
  | [a], _ => rfl
  | a :: b :: r, h => by
    rw [spl2_cons, if_neg (fun ⟨h1, h2⟩ => h 0 ⟨by rw [h1]; rfl, by rw [h2]; rfl⟩), spl2_no fun k hk => h (k + 1) hk]
    rfl
theorem spl2_at {c d : Nat} : ∀ {l : Tx} {m : Nat}, At2 c d l m → (∀ k, k < m → ¬ At2 c d l k) → spl2 c d l = l.take m :: spl2 c d (l.drop (m + 2))
  | [], m, h, _ => by have := h.1; simp at this
  | [a], m, h, _ => by have := h.2; simp at this
  | a :: b :: r, 0, h, _ => by
    obtain ⟨h1, h2⟩ := h
    have h1 : a = c := Option.some.inj h1
    have h2 : b = d := Option.some.inj h2
    rw [spl2_cons, if_pos ⟨h1, h2⟩]
    rfl
  | a :: b :: r, m + 1, h, hn => by
    rw [spl2_cons, if_neg (fun ⟨h1, h2⟩ => hn 0 (by omega) ⟨by rw [h1]; rfl, by rw [h2]; rfl⟩), spl2_at (l := b :: r) (m := m) h fun k hk z => hn (k + 1) (by omega) z]
    rfl
open PySem.Builtin.Str PySem.StrLaws in
theorem at_iff {x : Str} {c d k : Nat} : At x ⟨#[c, d]⟩ x.length k ↔ At2 c d x.cps.toList k := by
  have hl : x.length = x.cps.toList.length := by simp [Str.length]
  unfold At At2
  rw [subAt_eq, beq_iff_eq]
  show (k + 2 ≤ x.length ∧ (x.cps.toList.drop k).take 2 = [c, d]) ↔ _
  rw [hl]
  generalize x.cps.toList = l
  constructor
  · rintro ⟨h1, h2⟩
    have e0 : ((l.drop k).take 2)[0]? = some c := by rw [h2]; rfl
    have e1 : ((l.drop k).take 2)[1]? = some d := by rw [h2]; rfl
    rw [List.getElem?_take_of_lt (by omega), List.getElem?_drop] at e0 e1
    exact ⟨e0, e1⟩
  · rintro ⟨h1, h2⟩
    have l1 := (List.getElem?_eq_some_iff.mp h2).1
    refine ⟨by omega, ?_⟩
    apply List.ext_getElem?
    intro i
    match i with
    | 0 => rw [List.getElem?_take_of_lt (by omega), List.getElem?_drop]; exact h1
    | 1 => rw [List.getElem?_take_of_lt (by omega), List.getElem?_drop]; exact h2
    | i + 2 =>
      rw [List.getElem?_eq_none (by rw [List.length_take]; omega), List.getElem?_eq_none (by simp)]
open PySem.Builtin.Str PySem.StrLaws in
theorem parts_spl {x : Str} {c d : Nat} : ∀ (cuts : List Nat) (a f : Nat), ChainG x ⟨#[c, d]⟩ x.length a cuts f → (∀ k, f ≤ k → ¬ At x ⟨#[c, d]⟩ x.length k) → (partsFrom x 2 a cuts).map (·.cps.toList) = spl2 c d (x.cps.toList.drop a)
  | [], a, f, h, hn => by
    have h : f = a := h
    subst h
    have hl : x.length = x.cps.toList.length := by simp [Str.length]
    rw [spl2_no fun k hk => hn (f + k) (by omega) (at_iff.mpr ⟨by rw [← List.getElem?_drop]; exact hk.1, by rw [Nat.add_assoc, ← List.getElem?_drop]; exact hk.2⟩)]
    show [(strSub x f x.length).cps.toList] = _
    rw [strSub_toList, List.take_of_length_le (by rw [List.length_drop, hl]; omega)]
  | m :: r, a, f, h, hn => by
    obtain ⟨h1, h2, h3, h4⟩ := h
    have ih := parts_spl r (m + 2) f h4 hn
    have h2' := at_iff.mp h2
    rw [spl2_at (m := m - a) ⟨by rw [List.getElem?_drop, show a + (m - a) = m by omega]; exact h2'.1, by rw [List.getElem?_drop, show a + (m - a + 1) = m + 1 by omega]; exact h2'.2⟩ fun k hk z => h3 (a + k) (by omega) (by omega) (at_iff.mpr ⟨by rw [← List.getElem?_drop]; exact z.1, by rw [Nat.add_assoc, ← List.getElem?_drop]; exact z.2⟩)]
    rw [List.drop_drop, show a + (m - a + 2) = m + 2 by omega, ← ih]
    show (strSub x a m).cps.toList :: _ = _
    rw [strSub_toList]
theorem split_spl {x : Str} {c d : Nat} (hc : c < 256) (hd : d < 256) : (Txt.split x ⟨#[c, d]⟩).map (·.cps.toList) = spl2 c d x.cps.toList := by
  obtain ⟨f, h1, h2⟩ := PySem.StrLaws.occ_tight x ⟨#[c, d]⟩ (by decide : 1 ≤ 2)
  have key := parts_spl (x := x) (c := c) (d := d) _ 0 f h1 h2
  rw [List.drop_zero] at key
  have hl : x.length = x.cps.toList.length := by simp [Str.length]
  unfold Txt.split
  by_cases hs : (decide (x.length < (⟨#[c, d]⟩ : Str).length) || decide (Builtin.Str.strKind x < Builtin.Str.strKind ⟨#[c, d]⟩)) = true
  · rw [if_pos hs]
    have hk : Builtin.Str.strKind ⟨#[c, d]⟩ = 1 := by
      unfold Builtin.Str.strKind
      rw [if_pos (by simp [hc, hd])]
    have hx : 1 ≤ Builtin.Str.strKind x := by
      unfold Builtin.Str.strKind
      split
      · exact Nat.le_refl _
      · split <;> decide
    rw [hk] at hs
    have hs2 : x.length < 2 := by
      rcases Bool.or_eq_true_iff.mp hs with h | h
      · exact of_decide_eq_true h
      · have := of_decide_eq_true h; omega
    rw [spl2_no fun k hk => by have := (List.getElem?_eq_some_iff.mp hk.2).1; omega]
    rfl
  · rw [if_neg hs]
    split
    · next he =>
      have e0 : Builtin.Str.occurrences x ⟨#[c, d]⟩ 0 x.length (x.length + 1) = [] := List.isEmpty_iff.mp he
      rw [e0] at key
      rw [← key]
      show [x.cps.toList] = [(Builtin.Str.strSub x 0 x.length).cps.toList]
      rw [PySem.StrLaws.sub_whole]
    · rw [PySem.StrLaws.partsBetween_eq]
      exact key
open PySem.Builtin.Str PySem.StrLaws in
/-- parted at the first c -/
theorem partition_no {x : Str} {c : Nat} (h : c ∉ x.cps.toList) : Txt.partition x ⟨#[c]⟩ = (x, Str.empty, Str.empty) := by
  unfold Txt.partition
  rcases occ_head x ⟨#[c]⟩ 1 (Nat.le_refl 1) with ⟨h0, _⟩ | ⟨i, r, h0, hi, hn⟩
  · rw [h0]
  · exact absurd (List.mem_of_getElem? ((subAt_one x c i).mp hi)) h
theorem takeWhile_at {c : Nat} : ∀ {l : Tx} {i : Nat}, l[i]? = some c → (∀ k, k < i → l[k]? ≠ some c) → l.takeWhile (· != c) = l.take i
  | [], i, h, _ => by simp at h
  | k :: r, 0, h, _ => by
    have e : k = c := by simpa using h
    subst e
    rw [List.takeWhile_cons_of_neg (by simp)]; rfl
  | k :: r, i + 1, h, hn => by
    have h1 : k ≠ c := fun e => hn 0 (by omega) (by simp [e])
    rw [List.takeWhile_cons_of_pos (by simp [h1]), takeWhile_at (l := r) (i := i) (by simpa using h) fun j hj => by have := hn (j + 1) (by omega); simpa using this]
    rfl
open PySem.Builtin.Str PySem.StrLaws in
theorem partition_at {x : Str} {c : Nat} (h : c ∈ x.cps.toList) : Txt.partition x ⟨#[c]⟩ = (stx (x.cps.toList.takeWhile (· != c)), ⟨#[c]⟩, stx (x.cps.toList.drop ((x.cps.toList.takeWhile (· != c)).length + 1))) := by
  unfold Txt.partition
  have hl : x.length = x.cps.toList.length := by simp [Str.length]
  rcases occ_head x ⟨#[c]⟩ 1 (Nat.le_refl 1) with ⟨h0, hn⟩ | ⟨i, r, h0, hi, hn⟩
  · obtain ⟨j, hj⟩ := List.getElem?_of_mem h
    exact absurd ((subAt_one x c j).mpr hj) (hn j)
  · rw [h0]
    have hm := (subAt_one x c i).mp hi
    have hil := (List.getElem?_eq_some_iff.mp hm).1
    rw [takeWhile_at hm fun k hk e => hn k hk ((subAt_one x c k).mpr e), List.length_take, Nat.min_eq_left (by omega)]
    have e1 : strSub x 0 i = stx (x.cps.toList.take i) := by rw [← stx_of (strSub x 0 i), strSub_toList]; rfl
    have e2 : strSub x (i + 1) x.length = stx (x.cps.toList.drop (i + 1)) := by rw [← stx_of (strSub x (i + 1) x.length), strSub_toList, List.take_of_length_le (by rw [List.length_drop]; omega)]
    show (strSub x 0 i, _, strSub x (i + 1) x.length) = _
    rw [e1, e2]
end
end Fg
namespace Fg
open PySem PySem.Spec PyProof.Rows L2
local macro_rules | `(tactic| walk_at "hp") => `(tactic| first
  | assumption
  | exact upd_same
  | (refine Chg.at (by assumption) ?_; walk_at "hp")
  | (refine Chg.at1 (by assumption) ?_ (by walk_at "ne"); walk_at "hp"))
local macro_rules | `(tactic| walk_at "ne") => `(tactic| first | assumption | (apply Ne.symm; assumption))
local macro_rules | `(tactic| walk_at "sq") => `(tactic| first | assumption | exact sqL (by walk_at "hp") | (refine Chg.seq (by assumption) ?_; walk_at "sq"))
local macro_rules | `(tactic| walk_at "sz") => `(tactic| first | assumption | exact Nat.zero_le _ | (simp only [List.length_cons, List.length_nil]; decide) | exact Nat.le_trans (by first | omega | (simp; done) | (simp; omega)) (show 100000 ≤ sizeLine by decide) | exact Nat.lt_of_lt_of_le (by first | omega | (simp; done) | (simp; omega)) (show 100000 ≤ sizeLine by decide))
local macro_rules | `(tactic| walk_at "ix") => `(tactic| first | exact at0 | exact at1 | exact at2 | exact at3 | assumption | exact rfl | walk_at "ix2")
local macro_rules | `(tactic| walk_at "ix2") => `(tactic| fail)
local macro_rules | `(tactic| walk_at "num") => `(tactic| first | assumption | omega | decide | walk_at "num2")
local macro_rules | `(tactic| walk_at "num2") => `(tactic| fail)
local macro_rules | `(tactic| walk_at "im") => `(tactic| first | assumption | exact R.non (S := fun _ => False) | exact R.bl (S := fun _ => False) _ | exact R.int (S := fun _ => False) _ | exact R.str (S := fun _ => False) _ | (refine R.im (by assumption) ?_; walk_at "im"))
local macro_rules | `(tactic| walk_at "r") => `(tactic| first | assumption | exact R.non (S := fun _ => False) | exact R.bl (S := fun _ => False) _ | exact R.int (S := fun _ => False) _ | exact R.str (S := fun _ => False) _ | (refine R.same (by assumption) ?_; walk_at "r") | exact R.any (by walk_at "im"))
local macro_rules | `(tactic| walk_at "chg") => `(tactic| first
  | exact Chg.refl
  | assumption
  | (refine Chg.same ?_ (by assumption); walk_at "chg")
  | (refine Chg.both ?_ (by assumption); walk_at "chg")
  | (refine Chg.pre (by assumption) ?_; walk_at "chg"))
local macro_rules | `(tactic| walk_at "w1") => `(tactic| first
  | with_reducible apply w_seq
  | with_reducible apply w_asg
  | ((with_reducible apply w_var); (focus (exact rfl)))
  | with_reducible apply w_c
  | with_reducible apply w_op
  | with_reducible apply w_cons
  | with_reducible apply w_nil
  | with_reducible apply w_gName
  | with_reducible apply w_if
  | with_reducible apply w_test
  | with_reducible apply w_B
  | with_reducible apply w_isbl
  | with_reducible apply w_retN
  | with_reducible apply w_next
  | with_reducible apply w_drop
  | with_reducible apply w_cb
  | with_reducible apply w_call
  | with_reducible apply w_callN
  | with_reducible apply w_bm
  | with_reducible apply w_bm0
  | ((with_reducible apply w_tyL); (focus (walk_at "hp"; done)))
  | with_reducible apply w_dput
  | with_reducible apply w_m1
  | with_reducible apply w_isstr
  | with_reducible apply w_and
  | with_reducible apply w_or
  | with_reducible apply w_not
  | with_reducible apply w_andV
  | with_reducible apply w_orV
  | with_reducible apply w_notV
  | with_reducible apply w_ifE
  | with_reducible apply w_chain
  | with_reducible apply w_un
  | with_reducible apply w_neg
  | with_reducible apply w_add
  | with_reducible apply w_sub
  | ((with_reducible apply w_mod); (focus (walk_at "num"; done)))
  | ((with_reducible apply w_mul); (focus (walk_at "num"; done)))
  | ((with_reducible apply w_fdiv); (focus (walk_at "num"; done)))
  | ((with_reducible apply w_pow); (focus (walk_at "num"; done)))
  | with_reducible apply w_lt
  | with_reducible apply w_le
  | with_reducible apply w_gt
  | with_reducible apply w_ge
  | with_reducible apply w_ltS
  | with_reducible apply w_geS
  | with_reducible apply w_inC
  | with_reducible apply w_notInC
  | with_reducible apply w_isN
  | with_reducible apply w_notN
  | with_reducible apply w_isB
  | with_reducible apply w_notB
  | ((with_reducible apply w_addS); (focus (walk_at "sz"; done)))
  | ((with_reducible apply w_ixL); (focus (walk_at "sq"; done)); (focus (walk_at "ix"; done)))
  | ((with_reducible apply w_ixT); (focus (walk_at "hp"; done)); (focus (walk_at "ix"; done)))
  | ((with_reducible apply w_ixS); (focus (walk_at "sz"; done)); (focus (walk_at "ix"; done)))
  | with_reducible apply w_gSub
  | ((with_reducible apply w_gTup); (focus (walk_at "hp"; done)); (focus (exact rfl)))
  | with_reducible apply w_gCons
  | with_reducible apply w_gNil
  | ((with_reducible apply w_aug); (focus (exact rfl)))
  | with_reducible apply w_ipI
  | ((with_reducible apply w_eq); (focus (exact rfl)))
  | ((with_reducible apply w_ne); (focus (exact rfl)))
  | with_reducible apply w_max
  | with_reducible apply w_min
  | with_reducible apply w_abs
  | with_reducible apply w_intB
  | with_reducible apply w_intI
  | with_reducible apply w_tup1
  | with_reducible apply w_lst1
  | with_reducible apply w_sl
  | with_reducible apply w_part
  | with_reducible apply w_noPart
  | with_reducible apply w_isint
  | ((with_reducible apply w_slS); (focus (walk_at "sz"; done)))
  | with_reducible apply w_iteT
  | with_reducible apply w_iteF
  | with_reducible apply w_iteN
  | ((with_reducible apply w_iteYes); (focus (exact rfl)))
  | ((with_reducible apply w_iteNo); (focus (exact rfl)))
  | ((with_reducible apply w_lenL); (focus (walk_at "sq"; done)))
  | ((with_reducible apply w_lenT); (focus (walk_at "hp"; done)))
  | ((with_reducible apply w_lenS); (focus (walk_at "sz"; done)))
  | with_reducible apply w_lc
  | with_reducible apply w_for
  | with_reducible apply w_yes
  | ((with_reducible apply w_wipe); (focus (exact rfl)))
  | with_reducible apply w_iList
  | with_reducible apply w_iTup
  | with_reducible apply w_iStr
  | with_reducible apply w_iRng1
  | with_reducible apply w_iRng2
  | with_reducible apply w_iZip
  | with_reducible apply w_iEnum
  | ((with_reducible apply d_iList); (focus (walk_at "sq"; done)))
  | ((with_reducible apply d_iTup); (focus (walk_at "hp"; done)))
  | with_reducible apply d_iStr
  | ((with_reducible apply d_iRng1); (focus (walk_at "num"; done)); (focus (walk_at "num"; done)))
  | ((with_reducible apply d_iRng2); (focus (walk_at "num"; done)); (focus (walk_at "num"; done)); (focus (walk_at "num"; done)); (focus (walk_at "num"; done)))
  | ((with_reducible apply d_iZip); (focus (walk_at "sq"; done)); (focus (walk_at "sq"; done)))
  | ((with_reducible apply d_iEnum); (focus (walk_at "sq"; done)))
  | walk_at "w2")
local macro_rules | `(tactic| walk_at "w2") => `(tactic| fail)
local macro_rules | `(tactic| walk_at "wn") => `(tactic| repeat walk_at "w1")
local macro_rules | `(tactic| walk_at "w") => `(tactic| repeat (first | walk_at "w1" | with_reducible apply w_ret))
local macro_rules | `(tactic| walk_at "w2") => `(tactic| first
  | ((with_reducible apply w_isInt); (focus (walk_at "r"; done)))
  | ((with_reducible apply w_isBool); (focus (walk_at "r"; done)))
  | ((with_reducible apply w_isStr); (focus (walk_at "r"; done)))
  | ((with_reducible apply w_isTup); (focus (walk_at "r"; done)))
  | ((with_reducible apply w_isLst); (focus (walk_at "r"; done)))
  | ((with_reducible apply w_notInP); (focus (assumption)))
  | ((with_reducible apply w_ixP); (focus (assumption)); (focus (assumption))))
section
abbrev fin (Q : VK) : Ends := { nx := fun _ H' => Q .non H', rt := Q }
def t_is_whole (K : PySem.W.Frag) : TS :=
    tRet (tAndV (tCB (rIsi K) (tCons (tVar 0) (tCons (tC (.ty "int")) (tNil)))) (tNotV (tCB (rIsi K) (tCons (tVar 0) (tCons (tC (.ty "bool")) (tNil))))))
def sp_is_whole : Sp := fun vs H Q _ => ∃ (v : V) (d : PyData) (S : Addr → Prop), vs = [v] ∧ R S H v d ∧ Q (.bl (isWhole d)) H
theorem pure_is_whole {K : PySem.W.Frag} (vs : List V) (H : Hp) (Q : VK) (E : XK) (h : sp_is_whole vs H Q E) : t_is_whole K (fin Q) (start ["thing"] vs) H := by
  obtain ⟨v, d, S, rfl, r, q⟩ := h
  show t_is_whole K _ [some v] H
  unfold t_is_whole
  walk_at "w"
  cases d <;> (walk_at "w"; exact q)
def t_is_name (K : PySem.W.Frag) : TS :=
    tSeq (tIfS (tOr (tNot (tB (tCB (rIsi K) (tCons (tVar 0) (tCons (tC (.ty "str")) (tNil)))))) (tOr (tTest (tOp oLt (tCB cLenS (tCons (tVar 0) (tNil))) (tC (.int 1)))) (tTest (tOp oGt (tCB cLenS (tCons (tVar 0) (tNil))) (tC (.int 8)))))) (tRet (tC (.bl false))) (tNext))
    (tRet (tCB (rAll K) (tCons (tLc (iStr (tVar 0)) (gName 1) (tYes) (tOp oInC (tVar 1) (tC (.str letters))) [1]) (tNil))))
def sp_is_name : Sp := fun vs H Q _ => ∃ (v : V) (d : PyData) (S : Addr → Prop), vs = [v] ∧ R S H v d ∧ (∀ x, d = .str x → x.length ≤ 100000) ∧ ∀ H', Chg [] H H' → Q (.bl (isName d)) H'
theorem pure_is_name {K : PySem.W.Frag} (vs : List V) (H : Hp) (Q : VK) (E : XK) (h : sp_is_name vs H Q E) : t_is_name K (fin Q) (start ["thing", "sign"] vs) H := by
  obtain ⟨v, d, S, rfl, r, hx, q⟩ := h
  show t_is_name K _ [some v, none] H
  unfold t_is_name
  walk_at "w"
  have q0 := q H .refl
  cases r with
  | str x =>
    have hz := hx x rfl
    walk_at "w"
    refine w_iteD (fun h => ?_) (fun h => ?_)
    · walk_at "w"
      have e : isName (.str x) = false := by
        show (decide (1 ≤ x.length) && decide (x.length ≤ 8) && x.cps.toList.all isLow) = false
        rw [decide_eq_false (by omega)]
        rfl
      rw [e] at q0
      exact q0
    walk_at "w"
    refine w_iteD (fun h2 => ?_) (fun h2 => ?_)
    · walk_at "w"
      have e : isName (.str x) = false := by
        show (decide (1 ≤ x.length) && decide (x.length ≤ 8) && x.cps.toList.all isLow) = false
        rw [decide_eq_false (p := x.length ≤ 8) (by omega), Bool.and_false]
        rfl
      rw [e] at q0
      exact q0
    walk_at "w"
    have hl : x.cps.size ≤ 100000 := hz
    refine w_lcP walk_str [] (fun _ _ => True) (fun i y _ => ∃ c, x.cps[i]? = some c ∧ y = .bl (isLow c)) trivial (fun _ _ _ _ _ _ _ => trivial) (fun _ _ => trivial) (fun D i acc z H1 H2 hi nD hD el iv c _ y => ?_) (fun D acc H1 nD c _ el hD ys => ?_)
    · obtain ⟨rfl, ch, ec, rfl⟩ := y
      walk_at "w"
      exact lcp_end (fun _ _ _ _ _ _ _ => trivial) (fun _ _ _ _ _ _ _ h => h) nD (by simp) hD el (by omega) iv .refl trivial ⟨ch, ec, rfl⟩
    · have e : acc = (x.cps.toList.map isLow).map V.bl := by
        refine all_bl el (by simp) fun i y hy => ?_
        obtain ⟨ch, ec, rfl⟩ := ys i y hy
        refine ⟨isLow ch, ?_, rfl⟩
        rw [List.getElem?_map, Array.getElem?_toList, ec]
        rfl
      subst e
      walk_at "w"
      refine w_all hD ?_
      have e2 : (x.cps.toList.map isLow).all id = isName (.str x) := by
        show _ = (decide (1 ≤ x.length) && decide (x.length ≤ 8) && x.cps.toList.all isLow)
        rw [decide_eq_true (by omega), decide_eq_true (by omega), List.all_map]
        rfl
      walk_at "w"
      rw [e2]
      exact q H1 c
  | _ => 
    walk_at "w"
    exact q0
end
section
def sp_is_expression (n : Nat) : Sp := fun vs H Q _ => ∃ (v : V) (d : PyData) (S : Addr → Prop) (m : Nat), vs = [v, .int (m : Nat)] ∧ m + 1 ≤ n ∧ R S H v d ∧ ∀ H', Chg [] H H' → Q (.bl (isExpr m d)) H'
theorem no_is_expression (vs : List V) (H : Hp) (Q : VK) (E : XK) : ¬ sp_is_expression 0 vs H Q E := by
  rintro ⟨v, d, S, m, _, h, _⟩
  omega
def t_is_expression (K : PySem.W.Frag) (w : World) (dP : Addr) (n : Nat) : TS :=
    tSeq (tIfS (tTest (tOp oLt (tVar 1) (tC (.int 1)))) (tRet (tC (.bl false))) (tNext))
    (tSeq (tIfS (tB (tCall sp_is_whole [] E0 (tCons (tVar 0) (tNil)))) (tRet (tC (.bl true))) (tNext))
    (tSeq (tIfS (tOr (tNot (tB (tCB (rIsi K) (tCons (tVar 0) (tCons (tC (.ty "tuple")) (tNil)))))) (tOr (tTest (tOp oLt (tCB (cLenQ K) (tCons (tVar 0) (tNil))) (tC (.int 1)))) (tNot (tB (tCB (rIsi K) (tCons (tOp (rIxT K) (tVar 0) (tC (.int 0))) (tCons (tC (.ty "str")) (tNil)))))))) (tRet (tC (.bl false))) (tNext))
    (tSeq (tIfS (tOr (tTest (tOp (oNotInKd K dP) (tOp (rIxT K) (tVar 0) (tC (.int 0))) (tC (.ref dP)))) (tTest (tOp rNe (tCB (cLenQ K) (tCons (tVar 0) (tNil))) (tOp oAdd (tOp (rIxD K w) (tC (.ref dP)) (tOp (rIxT K) (tVar 0) (tC (.int 0)))) (tC (.int 1)))))) (tRet (tC (.bl false))) (tNext))
    (tRet (tCB (rAll K) (tCons (tLc (iTup K (tSl (rSlA K) (tVar 0) (tPart (tC (.int 1))) (tNoPart))) (gName 2) (tYes) (tCall (sp_is_expression n) [] E0 (tCons (tVar 2) (tCons (tOp oSub (tVar 1) (tC (.int 1))) (tNil)))) [2]) (tNil)))))))
theorem pure_is_expression {K : PySem.W.Frag} {w : World} {dP : Addr} (T : Parts K w dP) (n : Nat) (vs : List V) (H : Hp) (Q : VK) (E : XK) (h : sp_is_expression (n + 1) vs H Q E) : t_is_expression K w dP n (fin Q) (start ["thing", "most", "one"] vs) H := by
  obtain ⟨v, d, S, m, rfl, hm, r, q⟩ := h
  show t_is_expression K w dP n _ [some v, some (.int (m : Nat)), none] H
  unfold t_is_expression
  have q0 := q H .refl
  walk_at "w"
  refine w_iteD (fun h => ?_) (fun h => ?_)
  · walk_at "w"
    have e : m = 0 := by omega
    subst e
    exact q0
  obtain ⟨k, rfl⟩ : ∃ k, m = k + 1 := ⟨m - 1, by omega⟩
  walk_at "w"
  refine ⟨v, d, S, rfl, r, ?_⟩
  walk_at "w"
  cases r with
  | int i => walk_at "w"; exact q0
  | non => walk_at "w"; exact q0
  | bl b => walk_at "w"; exact q0
  | str b => walk_at "w"; exact q0
  | lst s e a =>
    have r := R.lst s e a
    walk_at "w"; exact q0
  | dic s e =>
    have r := R.dic s e
    walk_at "w"; exact q0
  | @tup a xs ds e ra =>
    have r := R.tup e ra
    walk_at "w"
    cases ra with
    | nil =>
      walk_at "w"
      exact q0
    | @cons v0 vs0 d0 ds0 r0 rs =>
      refine w_iteD (fun h => ?_) (fun _ => ?_)
      · rw [List.length_cons] at h
        omega
      walk_at "w"
      cases r0 with
      | int i => walk_at "w"; exact q0
      | non => walk_at "w"; exact q0
      | bl b => walk_at "w"; exact q0
      | lst s1 e1 a1 =>
        have r := R.lst s1 e1 a1
        walk_at "w"; exact q0
      | dic s1 e1 =>
        have r := R.dic s1 e1
        walk_at "w"; exact q0
      | tup e1 a1 =>
        have r := R.tup e1 a1
        walk_at "w"; exact q0
      | str z =>
        walk_at "w"
        cases ez : partsOf z with
        | none =>
          walk_at "w"
          have e2 : isExpr (k + 1) (.tuple (.str z :: ds0)) = false := by
            unfold isExpr
            rw [ez]
          rw [e2] at q0
          exact q0
        | some pk =>
          walk_at "w"
          have ln := rs.length
          refine w_iteD (fun h => ?_) (fun h => ?_)
          · have h' : vs0.length = pk := by
              have := V.int.inj h
              rw [List.length_cons] at this
              omega
            have hp : pk ≤ 2 := by
              unfold partsOf at ez
              repeat (split at ez; · cases ez; omega)
              cases ez
            walk_at "w"
            refine w_slA e fun p' H2 c2 h2 => ?_
            rw [cut1] at h2
            walk_at "w"
            have rs2 := rs.same c2
            refine w_lcP walk_tup [] (fun _ _ => True) (fun i y _ => ∃ d, ds0[i]? = some d ∧ y = .bl (isExpr k d)) trivial (fun _ _ _ _ _ _ _ => trivial) (fun H1 c => sqT (c.at h2)) (fun D i acc z H1 H3 hi nD hD el iv c _ y => ?_) (fun D acc H1 nD c _ el hD ys => ?_)
            · obtain ⟨rfl, ey⟩ := y
              obtain ⟨d1, ed, r1⟩ := rs2.get (i := i) (v := z) ey
              walk_at "w"
              have e5 : (((k + 1 : Nat) : Int)) - 1 = (k : Nat) := by omega
              rw [e5]
              refine ⟨z, d1, S, k, rfl, by omega, r1.same c, fun H4 c4 => ?_⟩
              have hi' : i < 3 := by
                have : (vs0.length) ≤ 2 := by omega
                have h6 : i < vs0.length := hi
                omega
              exact lcp_end (fun _ _ _ _ _ _ _ => trivial) (fun _ _ _ _ _ _ _ h => h) nD (by simp) hD el (by omega) iv c4 trivial ⟨d1, ed, rfl⟩
            · have e3 : acc = (ds0.map (isExpr k)).map V.bl := by
                refine all_bl el (by rw [List.length_map]; exact ln.symm) fun i y hy => ?_
                obtain ⟨d1, ed, rfl⟩ := ys i y hy
                exact ⟨isExpr k d1, by rw [List.getElem?_map, ed]; rfl, rfl⟩
              subst e3
              walk_at "w"
              refine w_all hD ?_
              walk_at "w"
              have e4 : isExpr (k + 1) (.tuple (.str z :: ds0)) = (ds0.map (isExpr k)).all id := by
                rw [isExpr, ez]
                show (decide (ds0.length = pk) && ds0.all (isExpr k)) = _
                rw [decide_eq_true (by omega), List.all_map]
                rfl
              rw [← e4]
              exact q H1 (c2.same c)
          · walk_at "w"
            have e2 : isExpr (k + 1) (.tuple (.str z :: ds0)) = false := by
              rw [isExpr, ez]
              show (decide (ds0.length = pk) && ds0.all (isExpr k)) = false
              rw [decide_eq_false ?_]
              · rfl
              · intro h7
                apply h
                show V.int _ = V.int _
                congr 1
                rw [List.length_cons]
                omega
            rw [e2] at q0
            exact q0
end
section
mutual
def smallD : PyData → Bool
  | .str x => decide (x.length ≤ 100000)
  | .list ds => smallDs ds
  | .tuple ds => smallDs ds
  | _ => true
def smallDs : List PyData → Bool
  | [] => true
  | d :: ds => smallD d && smallDs ds
end
theorem smallDs_all : ∀ {ds : List PyData}, smallDs ds = true → ∀ d ∈ ds, smallD d = true
  | [], _, d, h => by cases h
  | e :: es, h, d, hd => by
    obtain ⟨h1, h2⟩ := Bool.and_eq_true_iff.mp (show (smallD e && smallDs es) = true from h)
    rcases List.mem_cons.mp hd with rfl | hd
    · exact h1
    · exact smallDs_all h2 d hd
theorem smallD_str {d : PyData} (h : smallD d = true) (x : Str) (e : d = .str x) : x.length ≤ 100000 := by
  subst e
  exact of_decide_eq_true h
section
variable {K : PySem.W.Frag} {H : Hp} {Q : VK} {p : Addr} {xs : List V} {x : V}
theorem w_inL (h : SqL K H p xs) (hx : flatV x = true) (hs : xs.all flatV = true) (q : Q (.bl (inV x xs)) H) : rIn K false x (.ref p) H Q := ⟨p, xs, rfl, .inl h, hx, hs, q⟩
theorem w_notInL (h : SqL K H p xs) (hx : flatV x = true) (hs : xs.all flatV = true) (q : Q (.bl (!inV x xs)) H) : rIn K true x (.ref p) H Q := ⟨p, xs, rfl, .inl h, hx, hs, q⟩
theorem w_notInT (h : H p = some (.tup xs)) (hx : flatV x = true) (hs : xs.all flatV = true) (q : Q (.bl (!inV x xs)) H) : rIn K true x (.ref p) H Q := ⟨p, xs, rfl, .inr (sqT h), hx, hs, q⟩
end
theorem inV_str (x : Str) (ns : List Str) : inV (.str x) (ns.map V.str) = decide (x ∈ ns) := by
  unfold inV
  induction ns with
  | nil => simp
  | cons a r ih =>
    rw [List.map_cons, List.any_cons, ih]
    have e : eqV (.str a) (.str x) = decide (a = x) := by
      show (a == x) = decide (a = x)
      rw [Bool.beq_eq_decide_eq]
    rw [e]
    by_cases h : a = x
    · subst h
      simp
    · have h' : ¬ x = a := fun z => h z.symm
      simp [h, h']
theorem flat_strs (ns : List Str) : (ns.map V.str).all flatV = true := by
  rw [List.all_map]
  exact List.all_eq_true.mpr fun _ _ => rfl
def sp_is_step (K : PySem.W.Frag) : Sp := fun vs H Q _ => ∃ (v : V) (d : PyData) (S : Addr → Prop) (l : Addr) (ns : List Str) (bh : Int), vs = [v, .ref l, .int bh] ∧ R S H v d ∧ smallD d = true ∧ SqL K H l (ns.map V.str) ∧ ∀ H', Chg [] H H' → Q (.bl (isStep ns bh d)) H'
def t_is_step (K : PySem.W.Frag) : TS :=
    tSeq (tIfS (tOr (tNot (tB (tCB (rIsi K) (tCons (tVar 0) (tCons (tC (.ty "tuple")) (tNil)))))) (tOr (tTest (tOp oLt (tCB (cLenQ K) (tCons (tVar 0) (tNil))) (tC (.int 1)))) (tNot (tB (tCB (rIsi K) (tCons (tOp (rIxT K) (tVar 0) (tC (.int 0))) (tCons (tC (.ty "str")) (tNil)))))))) (tRet (tC (.bl false))) (tNext))
    (tSeq (tAsg (tOp (rIxT K) (tVar 0) (tC (.int 0))) (gName 3))
    (tSeq (tIfS (tTest (tOp rEq (tVar 3) (tC (.str "wait")))) (tRet (tOp rEq (tCB (cLenQ K) (tCons (tVar 0) (tNil))) (tC (.int 1)))) (tNext))
    (tSeq (tIfS (tTest (tOp rNe (tCB (cLenQ K) (tCons (tVar 0) (tNil))) (tC (.int 3)))) (tRet (tC (.bl false))) (tNext))
    (tSeq (tIfS (tTest (tOp rEq (tVar 3) (tC (.str "cell")))) (tRet (tAndV (tCall (sp_is_expression 6) [.int 5] E0 (tCons (tOp (rIxT K) (tVar 0) (tC (.int 1))) (tNil))) (tCall (sp_is_expression 6) [.int 5] E0 (tCons (tOp (rIxT K) (tVar 0) (tC (.int 2))) (tNil))))) (tNext))
    (tSeq (tIfS (tTest (tOp rEq (tVar 3) (tC (.str "skip")))) (tRet (tAndV (tCall (sp_is_expression 6) [.int 5] E0 (tCons (tOp (rIxT K) (tVar 0) (tC (.int 1))) (tNil))) (tAndV (tCall sp_is_whole [] E0 (tCons (tOp (rIxT K) (tVar 0) (tC (.int 2))) (tNil))) (tChain oLe oLe (tC (.int 1)) (tOp (rIxT K) (tVar 0) (tC (.int 2))) (tVar 2))))) (tNext))
    (tSeq (tIfS (tOr (tTest (tOp (rIn K true) (tVar 3) (tTup (tCons (tC (.str "give")) (tCons (tC (.str "fork")) (tCons (tC (.str "call")) (tNil))))))) (tOr (tNot (tB (tCall sp_is_name [] E0 (tCons (tOp (rIxT K) (tVar 0) (tC (.int 1))) (tNil))))) (tNot (tB (tCall (sp_is_expression 6) [.int 5] E0 (tCons (tOp (rIxT K) (tVar 0) (tC (.int 2))) (tNil))))))) (tRet (tC (.bl false))) (tNext))
    (tRet (tOrV (tOp rEq (tVar 3) (tC (.str "give"))) (tOp (rIn K false) (tOp (rIxT K) (tVar 0) (tC (.int 1))) (tVar 1))))))))))
theorem isStep_tup (ns : List Str) (bh : Int) (z : Str) (ds : List PyData) : isStep ns bh (.tuple (.str z :: ds)) = (if z = "wait" then decide (ds.length = 0) else stepBody ns bh z ds) := rfl
theorem pure_is_step {K : PySem.W.Frag} (vs : List V) (H : Hp) (Q : VK) (E : XK) (h : sp_is_step K vs H Q E) : t_is_step K (fin Q) (start ["thing", "names", "behind", "word"] vs) H := by
  obtain ⟨v, d, S, l, ns, bh, rfl, r, sm, hl, q⟩ := h
  show t_is_step K _ [some v, some (.ref l), some (.int bh), none] H
  unfold t_is_step
  have q0 := q H .refl
  walk_at "w"
  cases r with
  | int i => walk_at "w"; exact q0
  | non => walk_at "w"; exact q0
  | bl b => walk_at "w"; exact q0
  | str b => walk_at "w"; exact q0
  | lst s e a => walk_at "w"; exact q0
  | dic s e => walk_at "w"; exact q0
  | @tup a xs ds e ra =>
    walk_at "w"
    cases ra with
    | nil => walk_at "w"; exact q0
    | @cons v0 vs0 d0 ds0 r0 rs =>
      refine w_iteD (fun h => ?_) (fun _ => ?_)
      · rw [List.length_cons] at h
        omega
      walk_at "w"
      cases r0 with
      | int i => walk_at "w"; exact q0
      | non => walk_at "w"; exact q0
      | bl b => walk_at "w"; exact q0
      | lst s1 e1 a1 => walk_at "w"; exact q0
      | dic s1 e1 => walk_at "w"; exact q0
      | tup e1 a1 => walk_at "w"; exact q0
      | str z =>
        rw [isStep_tup] at q0
        simp only [isStep_tup] at q
        have ln := rs.length
        walk_at "w"
        refine w_iteD (fun hz => ?_) (fun hz => ?_)
        · have hz' : z = "wait" := V.str.inj hz
          rw [if_pos hz'] at q0
          walk_at "w"
          have e2 : decide (V.int ((V.str z :: vs0).length : Nat) = V.int 1) = decide (ds0.length = 0) := by
            rw [← ln]
            exact decide_eq_decide.mpr ⟨fun h => by have := V.int.inj h; rw [List.length_cons] at this; omega, fun h => by rw [List.length_cons, h]; rfl⟩
          rw [e2]
          exact q0
        have hz' : ¬ z = "wait" := fun h => hz (by rw [h])
        rw [if_neg hz'] at q0
        simp only [if_neg hz'] at q
        walk_at "w"
        refine w_iteD (fun h3 => ?_) (fun h3 => ?_)
        rotate_left
        · walk_at "w"
          have e2 : ∀ a b, ds0 ≠ [a, b] := fun a b h => by
            apply h3
            rw [List.length_cons, ln, h]
            rfl
          match ds0, e2, q0 with
          | [], _, q0 => exact q0
          | [_], _, q0 => exact q0
          | _ :: _ :: _ :: _, _, q0 => exact q0
          | [a, b], h, _ => exact absurd rfl (h a b)
        cases rs with
        | nil => (have := V.int.inj h3; simp only [List.length_cons, List.length_nil] at this; omega)
        | @cons v1 vs1 d1 ds1 r1 rs1 =>
          cases rs1 with
          | nil => (have := V.int.inj h3; simp only [List.length_cons, List.length_nil] at this; omega)
          | @cons v2 vs2 d2 ds2 r2 rs2 =>
            cases rs2 with
            | cons _ _ =>
              have := V.int.inj h3
              simp only [List.length_cons] at this
              omega
            | nil =>
              have q : ∀ H', Chg [] H H' → Q (V.bl (step3 ns bh z d1 d2)) H' := q
              unfold step3 at q
              have sm1 : smallD d1 = true := smallDs_all (ds := [.str z, d1, d2]) sm d1 (by simp)
              walk_at "w"
              refine w_iteD (fun hc => ?_) (fun hc => ?_)
              · have hc' : z = "cell" := V.str.inj hc
                simp only [if_pos hc'] at q
                walk_at "w"
                refine ⟨v1, d1, S, 5, rfl, by omega, r1, fun H1 c1 => ?_⟩
                walk_at "w"
                refine w_iteB (fun b1 => ?_) (fun b1 => ?_)
                · walk_at "w"
                  refine ⟨v2, d2, S, 5, rfl, by omega, r2.same c1, fun H2 c2 => ?_⟩
                  have := q H2 (c1.same c2)
                  rw [b1] at this
                  exact this
                · walk_at "w"
                  have := q H1 c1
                  rw [b1] at this
                  exact this
              have hc' : ¬ z = "cell" := fun h => hc (by rw [h])
              simp only [if_neg hc'] at q
              walk_at "w"
              refine w_iteD (fun hs => ?_) (fun hs => ?_)
              · have hs' : z = "skip" := V.str.inj hs
                simp only [if_pos hs'] at q
                walk_at "w"
                refine ⟨v1, d1, S, 5, rfl, by omega, r1, fun H1 c1 => ?_⟩
                walk_at "w"
                refine w_iteB (fun b1 => ?_) (fun b1 => ?_)
                · walk_at "w"
                  refine ⟨v2, d2, S, rfl, r2.same c1, ?_⟩
                  walk_at "w"
                  have q1 := q H1 c1
                  rw [b1] at q1
                  cases r2 with
                  | int i =>
                    walk_at "w"
                    refine w_iteD (fun g => ?_) (fun g => ?_)
                    · walk_at "w"
                      have q1 : Q (V.bl (true && (decide (1 ≤ i) && decide (i ≤ bh)))) H1 := q1
                      rw [decide_eq_true g] at q1
                      exact q1
                    · walk_at "w"
                      have q1 : Q (V.bl (true && (decide (1 ≤ i) && decide (i ≤ bh)))) H1 := q1
                      rw [decide_eq_false g] at q1
                      exact q1
                  | non => walk_at "w"; exact q1
                  | bl b => walk_at "w"; exact q1
                  | str b => walk_at "w"; exact q1
                  | lst s1 e1 a1 => walk_at "w"; exact q1
                  | dic s1 e1 => walk_at "w"; exact q1
                  | tup e1 a1 => walk_at "w"; exact q1
                · walk_at "w"
                  have := q H1 c1
                  rw [b1] at this
                  exact this
              have hs' : ¬ z = "skip" := fun h => hs (by rw [h])
              simp only [if_neg hs'] at q
              walk_at "w"
              refine k_tup (by decide) fun p H1 np c1 hp => ?_
              refine w_notInT hp rfl rfl ?_
              have ein : inV (.str z) [V.str "give", V.str "fork", V.str "call"] = decide (z ∈ (["give", "fork", "call"] : List Str)) := inV_str z ["give", "fork", "call"]
              rw [ein]
              walk_at "w"
              refine w_iteD (fun hm => ?_) (fun hm => ?_)
              rotate_left
              · walk_at "w"
                have n1 : ¬ z = "give" := fun h => hm (by rw [h]; simp)
                have n2 : ¬ (z = "fork" ∨ z = "call") := fun h => hm (by rcases h with h | h <;> (rw [h]; simp))
                simp only [if_neg n1, if_neg n2] at q
                exact q H1 c1
              walk_at "w"
              refine ⟨v1, d1, S, rfl, r1.same c1, smallD_str sm1, fun H2 c2 => ?_⟩
              walk_at "w"
              refine w_iteB (fun b1 => ?_) (fun b1 => ?_)
              rotate_left
              · walk_at "w"
                have := q H2 (c1.same c2)
                rw [b1] at this
                simp only [Bool.false_and, ite_self] at this
                exact this
              walk_at "w"
              refine ⟨v2, d2, S, 5, rfl, by omega, r2.same (c1.same c2), fun H3 c3 => ?_⟩
              walk_at "w"
              refine w_iteB (fun b2 => ?_) (fun b2 => ?_)
              rotate_left
              · walk_at "w"
                have := q H3 ((c1.same c2).same c3)
                rw [b2, b1] at this
                simp only [Bool.and_false, Bool.false_and, ite_self] at this
                exact this
              walk_at "w"
              have q3 := q H3 ((c1.same c2).same c3)
              rw [b1, b2] at q3
              cases r1 with
              | str x1 =>
                refine w_iteD (fun hg => ?_) (fun hg => ?_)
                · have hg' : z = "give" := V.str.inj hg
                  rw [if_pos hg'] at q3
                  exact q3
                · have hg' : ¬ z = "give" := fun h => hg (by rw [h])
                  walk_at "w"
                  refine w_inL ((c1.same c2).same c3 |>.seq hl) rfl (flat_strs ns) ?_
                  rw [inV_str]
                  have hf : z = "fork" ∨ z = "call" := by
                    simp only [List.mem_cons, List.not_mem_nil, or_false] at hm
                    exact hm.resolve_left hg'
                  rw [if_neg hg', if_pos hf] at q3
                  exact q3
              | int i => cases b1
              | non => cases b1
              | bl b => cases b1
              | lst s1 e1 a1 => cases b1
              | dic s1 e1 => cases b1
              | tup e1 a1 => cases b1
end
section
def lenOk : PyData → Bool
  | .list ds => decide (ds.length ≤ 1000)
  | _ => true
def sp_has_form : Sp := fun vs H Q _ => ∃ (v : V) (d : PyData) (S : Addr → Prop), vs = [v] ∧ R S H v d ∧ smallD d = true ∧ lenOk d = true ∧ ∀ H', Chg [] H H' → Q (.bl (hasForm d)) H'
def t_has_form (K : PySem.W.Frag) : TS :=
    tSeq (tIfS (tNot (tB (tCB (rIsi K) (tCons (tVar 0) (tCons (tC (.ty "list")) (tNil)))))) (tRet (tC (.bl false))) (tNext))
    (tSeq (tFor (iList K (tVar 0)) (gName 1) (tIfS (tOr (tNot (tB (tCB (rIsi K) (tCons (tVar 1) (tCons (tC (.ty "tuple")) (tNil)))))) (tOr (tTest (tOp rNe (tCB (cLenQ K) (tCons (tVar 1) (tNil))) (tC (.int 2)))) (tOr (tNot (tB (tCall sp_is_name [] E0 (tCons (tOp (rIxT K) (tVar 1) (tC (.int 0))) (tNil))))) (tNot (tB (tCB (rIsi K) (tCons (tOp (rIxT K) (tVar 1) (tC (.int 1))) (tCons (tC (.ty "list")) (tNil))))))))) (tRet (tC (.bl false))) (tNext)))
    (tSeq (tAsg (tLc (iList K (tVar 0)) (gTup K 2 (gCons (gName 3) (gCons (gName 4) (gNil)))) (tYes) (tVar 3) [3, 4]) (gName 2))
    (tRet (tCB (rAll K) (tCons (tLc (iZip K (tCons (tVar 2) (tCons (tSl (rSlL K) (tVar 2) (tPart (tC (.int 1))) (tNoPart)) (tNil)))) (gTup K 2 (gCons (gName 5) (gCons (gName 6) (gNil)))) (tYes) (tOp oLtS (tVar 5) (tVar 6)) [5, 6]) (tNil))))))
theorem rising_zip : ∀ ns : List Str, rising ns = ((ns.zip (ns.drop 1)).map fun p => ltS p.1 p.2).all id
  | [] => rfl
  | [_] => rfl
  | x :: y :: r => by
    show (ltS x y && rising (y :: r)) = _
    rw [rising_zip (y :: r)]
    rfl
theorem rowOk_false {d : PyData} (h : ∀ x ds, d = .tuple [.str x, .list ds] → nameS x = false) : rowOk d = false := by
  unfold rowOk
  split
  · exact h _ _ rfl
  · rfl
theorem hasForm_false {rows : List PyData} {i : Nat} {d : PyData} (h : rows[i]? = some d) (hd : rowOk d = false) : hasForm (.list rows) = false := by
  have : rows.all rowOk = false := by
    rw [List.all_eq_false]
    exact ⟨d, List.mem_of_getElem? h, by rw [hd]; decide⟩
  show (rows.all rowOk && _) = false
  rw [this]
  rfl
theorem rowOk_true {d : PyData} (h : rowOk d = true) : ∃ x ds, d = .tuple [.str x, .list ds] ∧ nameS x = true := by
  unfold rowOk at h
  split at h
  · exact ⟨_, _, rfl, h⟩
  · cases h
theorem pure_has_form {K : PySem.W.Frag} (vs : List V) (H : Hp) (Q : VK) (E : XK) (h : sp_has_form vs H Q E) : t_has_form K (fin Q) (start ["thing", "row", "names", "name", "steps", "one", "other"] vs) H := by
  obtain ⟨v, d, S, rfl, r, sm, lo, q⟩ := h
  show t_has_form K _ [some v, none, none, none, none, none, none] H
  unfold t_has_form
  have q0 := q H .refl
  walk_at "w"
  cases r with
  | int i => walk_at "w"; exact q0
  | non => walk_at "w"; exact q0
  | bl b => walk_at "w"; exact q0
  | str b => walk_at "w"; exact q0
  | tup e1 a1 => walk_at "w"; exact q0
  | dic s e => walk_at "w"; exact q0
  | @lst a xs ds s e ra =>
    walk_at "w"
    have ln := ra.length
    have lo' : ds.length ≤ 1000 := of_decide_eq_true lo
    refine for_it (walk_list (K := K) (a := a) (xs := xs)) (fun i σ H1 => Chg [] H H1 ∧ (∀ j d, j < i → ds[j]? = some d → rowOk d = true) ∧ ∃ y, σ = [some (.ref a), y, none, none, none, none, none]) ⟨.refl, fun j d h => by omega, none, rfl⟩ (fun i σ H1 _ p => sqL (p.1.at e)) (fun i x σ H1 H2 hi p y => ?_) (fun σ H1 p => ?_)
    · obtain ⟨c1, ok, y1, rfl⟩ := p
      obtain ⟨rfl, ex⟩ := y
      obtain ⟨d1, ed, r1⟩ := ra.get ex
      have r1 := r1.same c1
      have sm1 : smallD d1 = true := smallDs_all (ds := ds) sm d1 (List.mem_of_getElem? ed)
      have bad : ∀ H3, Chg [] H2 H3 → rowOk d1 = false → Q (.bl false) H3 := fun H3 c3 hb => by
        have := q H3 (c1.same c3)
        rw [hasForm_false ed hb] at this
        exact this
      walk_at "w"
      cases r1 with
      | int i => walk_at "w"; exact bad _ .refl rfl
      | non => walk_at "w"; exact bad _ .refl rfl
      | bl b => walk_at "w"; exact bad _ .refl rfl
      | str b => walk_at "w"; exact bad _ .refl rfl
      | lst s e a => walk_at "w"; exact bad _ .refl rfl
      | dic s e => walk_at "w"; exact bad _ .refl rfl
      | @tup a2 xs2 ds2 e2 ra2 =>
        walk_at "w"
        have ln2 := ra2.length
        refine w_iteD (fun h2 => ?_) (fun h2 => ?_)
        rotate_left
        · walk_at "w"
          refine bad _ .refl (rowOk_false fun x ds h => ?_)
          exfalso
          apply h2
          rw [ln2]
          cases h
          rfl
        have h2' := V.int.inj h2
        cases ra2 with
        | nil => simp only [List.length_nil] at h2'; omega
        | @cons v0 vs0 d0 ds0 r0 rs0 =>
          cases rs0 with
          | nil => simp only [List.length_cons, List.length_nil] at h2'; omega
          | @cons v3 vs3 d3 ds3 r3 rs3 =>
            cases rs3 with
            | cons _ _ => simp only [List.length_cons] at h2'; omega
            | nil =>
              have sm0 : smallD d0 = true := smallDs_all (ds := [d0, d3]) sm1 d0 (by simp)
              walk_at "w"
              refine ⟨v0, d0, S, rfl, r0, smallD_str sm0, fun H3 c3 => ?_⟩
              walk_at "w"
              refine w_iteB (fun b1 => ?_) (fun b1 => ?_)
              rotate_left
              · walk_at "w"
                refine bad _ c3 (rowOk_false fun x ds h => ?_)
                cases h
                exact b1
              walk_at "w"
              have r3 := r3.same c3
              walk_at "w"
              have nolist : dLst d3 = false → rowOk (.tuple [d0, d3]) = false := fun hl => rowOk_false fun x ds h => by
                cases h
                cases hl
              cases r3 with
              | int i => walk_at "w"; exact bad _ c3 (nolist rfl)
              | non => walk_at "w"; exact bad _ c3 (nolist rfl)
              | bl b => walk_at "w"; exact bad _ c3 (nolist rfl)
              | str b => walk_at "w"; exact bad _ c3 (nolist rfl)
              | tup e a => walk_at "w"; exact bad _ c3 (nolist rfl)
              | dic s e => walk_at "w"; exact bad _ c3 (nolist rfl)
              | lst s4 e4 a4 =>
                walk_at "w"
                refine ⟨c1.same c3, fun j d hj hd => ?_, _, rfl⟩
                by_cases hji : j < i
                · exact ok j d hji hd
                · have : j = i := by omega
                  subst this
                  rw [ed] at hd
                  cases hd
                  cases r0 with
                  | str x => exact b1
                  | _ => cases b1
    · obtain ⟨c1, ok, y1, rfl⟩ := p
      have allok : ds.all rowOk = true := by
        rw [List.all_eq_true]
        intro d hd
        obtain ⟨j, hj⟩ := List.getElem?_of_mem hd
        exact ok j d (by have := (List.getElem?_eq_some_iff.mp hj).1; omega) hj
      walk_at "w"
      have ra1 := ra.same c1
      have e1 := c1.at e
      refine w_lcP walk_list [] (fun _ _ => True) (fun i y _ => ∃ d, ds[i]? = some d ∧ y = .str (rowName d)) trivial (fun _ _ _ _ _ _ _ => trivial) (fun H2 c => sqL (c.at e1)) (fun D i acc z H2 H3 hi nD hD el iv c _ y => ?_) (fun D acc H2 nD c _ el hD ys => ?_)
      · obtain ⟨rfl, ex⟩ := y
        obtain ⟨d1, ed, r1⟩ := ra1.get ex
        obtain ⟨x, ds1, rfl, hx⟩ := rowOk_true (List.all_eq_true.mp allok d1 (List.mem_of_getElem? ed))
        cases r1 with
        | tup e2 ra2 =>
          cases ra2 with
          | cons r0 rs0 =>
            cases rs0 with
            | cons r3 rs3 =>
              cases rs3
              cases r0
              have e3 := c.at e2
              walk_at "w"
              exact lcp_end (fun _ _ _ _ _ _ _ => trivial) (fun _ _ _ _ _ _ _ h => h) nD (by simp) hD el (by omega) iv .refl trivial ⟨_, ed, rfl⟩
      · have e3 : acc = (ds.map rowName).map V.str := by
          apply List.ext_getElem?
          intro i
          rw [List.getElem?_map, List.getElem?_map]
          by_cases hi : i < xs.length
          · have e4 : acc[i]? = some acc[i] := List.getElem?_eq_getElem (by omega)
            obtain ⟨d1, ed, e5⟩ := ys i _ e4
            rw [e4, ed, e5]
            rfl
          · rw [List.getElem?_eq_none (by omega), List.getElem?_eq_none (by omega)]
            rfl
        subst e3
        walk_at "w"
        refine w_slL (sqL hD) fun p' H3 np c3 hp => ?_
        rw [cut1] at hp
        walk_at "w"
        have hD3 := c3.at hD
        have lz : (ds.map rowName).length = ds.length := List.length_map _
        refine w_lcP (walk_zip rfl) [] (fun _ _ => True) (fun i y _ => ∃ x x', (ds.map rowName)[i]? = some x ∧ ((ds.map rowName).drop 1)[i]? = some x' ∧ y = .bl (ltS x x')) trivial (fun _ _ _ _ _ _ _ => trivial) (fun H4 c4 => ⟨sqL (c4.at hD3), sqL (c4.at hp)⟩) (fun D2 i acc z H4 H5 hi nD2 hD2 el2 iv2 c4 _ y => ?_) (fun D2 acc H4 nD2 c4 _ el2 hD2 ys2 => ?_)
        · obtain ⟨T, x, y, rfl, nT, rfl, ex, ey⟩ := y
          have ex : ((ds.map rowName).map V.str)[i]? = some x := ex
          have ey : (((ds.map rowName).map V.str).drop 1)[i]? = some y := ey
          rw [List.getElem?_map] at ex
          rw [← List.map_drop, List.getElem?_map] at ey
          cases ez1 : (ds.map rowName)[i]? with
          | none => rw [ez1] at ex; cases ex
          | some x1 =>
            cases ez2 : ((ds.map rowName).drop 1)[i]? with
            | none => rw [ez2] at ey; cases ey
            | some x2 =>
              rw [ez1] at ex
              rw [ez2] at ey
              cases ex
              cases ey
              have cT : Chg [] H4 (upd H4 T (.tup [.str x1, .str x2])) := .new nT
              walk_at "w"
              have hi2 : i < 1000 := by
                have := (List.getElem?_eq_some_iff.mp ez1).1
                omega
              exact lcp_end (fun _ _ _ _ _ _ _ => trivial) (fun _ _ _ _ _ _ _ h => h) nD2 (by simp) hD2 el2 (by omega) iv2 cT trivial ⟨x1, x2, ez1, ez2, rfl⟩
        · have e6 : acc = (((ds.map rowName).zip ((ds.map rowName).drop 1)).map fun p => ltS p.1 p.2).map V.bl := by
            refine all_bl el2 (by simp) fun i y hy => ?_
            obtain ⟨x, x', g1, g2, rfl⟩ := ys2 i y hy
            refine ⟨_, ?_, rfl⟩
            rw [List.getElem?_map, List.getElem?_zip_eq_some (z := (x, x')) |>.mpr ⟨g1, g2⟩]
            rfl
          subst e6
          walk_at "w"
          refine w_all hD2 ?_
          rw [← rising_zip]
          have e7 : hasForm (.list ds) = rising (ds.map rowName) := by
            show (ds.all rowOk && rising (ds.map rowName)) = _
            rw [allok]
            rfl
          rw [← e7]
          exact q H4 (((c1.same c).same c3).same c4)
end
section
def fwV : Option (Str × Nat) → List V
  | none => [.non, .non]
  | some (n, k) => [.str n, .int (k : Nat)]
def sp_first_wrong : Sp := fun vs H Q _ => ∃ (v : V) (d : PyData) (S : Addr → Prop), vs = [v] ∧ R S H v d ∧ smallD d = true ∧ lenOk d = true ∧ (firstWrong d = none → ∀ H', Chg [] H H' → Q .non H') ∧
  ∀ o, firstWrong d = some o → ∀ p H', Chg [] H H' → H' p = some (.tup (fwV o)) → Q (.ref p) H'
def t_first_wrong (K : PySem.W.Frag) : TS :=
    tSeq (tIfS (tNot (tB (tCall sp_has_form [] E0 (tCons (tVar 0) (tNil))))) (tRet (tTup (tCons (tC .non) (tCons (tC .non) (tNil))))) (tNext))
    (tSeq (tAsg (tLc (iList K (tVar 0)) (gTup K 2 (gCons (gName 2) (gCons (gName 3) (gNil)))) (tYes) (tVar 2) [2, 3]) (gName 1))
    (tSeq (tFor (iList K (tVar 0)) (gTup K 2 (gCons (gName 2) (gCons (gName 3) (gNil)))) (tFor (iEnum K (tCons (tVar 3) (tNil))) (gTup K 2 (gCons (gName 4) (gCons (gName 5) (gNil)))) (tIfS (tNot (tB (tCall (sp_is_step K) [] E0 (tCons (tVar 5) (tCons (tVar 1) (tCons (tOp oSub (tOp oSub (tCB (cLenQ K) (tCons (tVar 3) (tNil))) (tVar 4)) (tC (.int 1))) (tNil))))))) (tRet (tTup (tCons (tVar 2) (tCons (tVar 4) (tNil))))) (tNext))))
    (tRet (tC .non))))
theorem wrongAt_skip {ns : List Str} {ys : List PyData} {j : Nat} {d : PyData} (h : ys[j]? = some d) (hs : isStep ns ((ys.length : Int) - j - 1) d = true) : wrongAt ns j (ys.drop j) = wrongAt ns (j + 1) (ys.drop (j + 1)) := by
  have hj := (List.getElem?_eq_some_iff.mp h)
  obtain ⟨hl, e⟩ := hj
  rw [List.drop_eq_getElem_cons hl, e]
  show (if isStep ns ((ys.drop (j + 1)).length : Int) d = true then _ else _) = _
  rw [if_pos]
  rw [← hs]
  congr 1
  rw [List.length_drop]
  omega
theorem wrongAt_here {ns : List Str} {ys : List PyData} {j : Nat} {d : PyData} (h : ys[j]? = some d) (hs : isStep ns ((ys.length : Int) - j - 1) d = false) : wrongAt ns j (ys.drop j) = some j := by
  obtain ⟨hl, e⟩ := List.getElem?_eq_some_iff.mp h
  rw [List.drop_eq_getElem_cons hl, e]
  show (if isStep ns ((ys.drop (j + 1)).length : Int) d = true then _ else _) = _
  rw [if_neg]
  have e2 : ((ys.drop (j + 1)).length : Int) = (ys.length : Int) - j - 1 := by
    rw [List.length_drop]
    omega
  rw [e2, hs]
  decide
theorem pure_first_wrong {K : PySem.W.Frag} (vs : List V) (H : Hp) (Q : VK) (E : XK) (h : sp_first_wrong vs H Q E) : t_first_wrong K (fin Q) (start ["program", "names", "name", "steps", "at", "step"] vs) H := by
  obtain ⟨v, d, S, rfl, r, sm, lo, qn, qs⟩ := h
  show t_first_wrong K _ [some v, none, none, none, none, none] H
  unfold t_first_wrong
  walk_at "w"
  refine ⟨v, d, S, rfl, r, sm, lo, fun H1 c1 => ?_⟩
  walk_at "w"
  refine w_iteB (fun hf => ?_) (fun hf => ?_)
  rotate_left
  · walk_at "w"
    refine k_tup (by decide) fun p H2 np c2 hp => ?_
    exact qs none (by unfold firstWrong; rw [hf]; rfl) p H2 (c1.same c2) hp
  cases r with
  | int i => cases hf
  | non => cases hf
  | bl b => cases hf
  | str b => cases hf
  | tup e1 a1 => cases hf
  | dic s e => cases hf
  | @lst a xs ds s e ra =>
    have efw : firstWrong (.list ds) = (wrongIn (ds.map rowName) ds).map some := by
      unfold firstWrong
      rw [if_pos hf]
      rfl
    have ln := ra.length
    have lo' : ds.length ≤ 1000 := of_decide_eq_true lo
    have allok : ds.all rowOk = true := (Bool.and_eq_true_iff.mp (show (ds.all rowOk && rising (ds.map rowName)) = true from hf)).1
    have ra1 := ra.same c1
    have e1 := c1.at e
    walk_at "w"
    refine w_lcP walk_list [] (fun _ _ => True) (fun i y _ => ∃ d, ds[i]? = some d ∧ y = .str (rowName d)) trivial (fun _ _ _ _ _ _ _ => trivial) (fun H2 c => sqL (c.at e1)) (fun D i acc z H2 H3 hi nD hD el iv c _ y => ?_) (fun D acc H2 nD c _ el hD ys => ?_)
    · obtain ⟨rfl, ex⟩ := y
      obtain ⟨d1, ed, r1⟩ := ra1.get ex
      obtain ⟨x, ds1, rfl, hx⟩ := rowOk_true (List.all_eq_true.mp allok d1 (List.mem_of_getElem? ed))
      cases r1 with
      | tup e2 ra2 =>
        cases ra2 with
        | cons r0 rs0 =>
          cases rs0 with
          | cons r3 rs3 =>
            cases rs3
            cases r0
            have e3 := c.at e2
            walk_at "w"
            exact lcp_end (fun _ _ _ _ _ _ _ => trivial) (fun _ _ _ _ _ _ _ h => h) nD (by simp) hD el (by omega) iv .refl trivial ⟨_, ed, rfl⟩
    · have e3 : acc = (ds.map rowName).map V.str := by
        apply List.ext_getElem?
        intro i
        rw [List.getElem?_map, List.getElem?_map]
        by_cases hi : i < xs.length
        · have e4 : acc[i]? = some acc[i] := List.getElem?_eq_getElem (by omega)
          obtain ⟨d1, ed, e5⟩ := ys i _ e4
          rw [e4, ed, e5]
          rfl
        · rw [List.getElem?_eq_none (by omega), List.getElem?_eq_none (by omega)]
          rfl
      subst e3
      walk_at "w"
      have e2 := c.at e1
      have ra2 := ra1.same c
      have c12 := c1.same c
      refine for_it (walk_list (K := K) (a := a) (xs := xs)) (fun i σ H3 => Chg [] H2 H3 ∧ wrongIn (ds.map rowName) ds = wrongIn (ds.map rowName) (ds.drop i) ∧ ∃ y2 y3 y4 y5, σ = [some (.ref a), some (.ref D), y2, y3, y4, y5]) ⟨.refl, rfl, none, none, none, none, rfl⟩ (fun i σ H3 _ p => sqL (p.1.at e2)) (fun i x σ H3 H4 hi p y => ?_) (fun σ H3 p => ?_)
      · obtain ⟨c3, wr, y2, y3, y4, y5, rfl⟩ := p
        obtain ⟨rfl, ex⟩ := y
        obtain ⟨d1, ed, r1⟩ := ra2.get ex
        obtain ⟨x1, ds1, rfl, hx⟩ := rowOk_true (List.all_eq_true.mp allok d1 (List.mem_of_getElem? ed))
        have sm1 : smallD (.tuple [.str x1, .list ds1]) = true := smallDs_all (ds := ds) sm _ (List.mem_of_getElem? ed)
        have sm2 : smallDs ds1 = true := smallDs_all (ds := [.str x1, .list ds1]) sm1 (.list ds1) (by simp)
        obtain ⟨hli, edi⟩ := List.getElem?_eq_some_iff.mp ed
        have wr1 : wrongIn (ds.map rowName) ds = (match wrongAt (ds.map rowName) 0 ds1 with
            | some k => some (x1, k)
            | none => wrongIn (ds.map rowName) (ds.drop (i + 1))) := by
          rw [wr, List.drop_eq_getElem_cons hli, edi]
          rfl
        cases r1 with
        | tup e4 ra4 =>
          cases ra4 with
          | cons r0 rs0 =>
            cases rs0 with
            | cons r3 rs3 =>
              cases rs3
              cases r0
              cases r3 with
              | @lst l5 ys5 _ s5 e5 ra5 =>
                have e6 := c3.at e4
                have e7 := c3.at e5
                have ln5 := ra5.length
                walk_at "w"
                refine for_it (walk_enum (K := K) (a := l5) (xs := ys5)) (fun j σ H5 => Chg [] H4 H5 ∧ wrongAt (ds.map rowName) 0 ds1 = wrongAt (ds.map rowName) j (ds1.drop j) ∧ ∃ y4 y5, σ = [some (.ref a), some (.ref D), some (.str x1), some (.ref l5), y4, y5]) ⟨.refl, rfl, _, _, rfl⟩ (fun j σ H5 _ p => sqL (p.1.at e7)) (fun j x σ H5 H6 hj p y => ?_) (fun σ H5 p => ?_)
                · obtain ⟨c5, wa, z4, z5, rfl⟩ := p
                  obtain ⟨T, vx, vy, rfl, nT, rfl, ex, ey⟩ := y
                  cases ex
                  have ey : ys5[j]? = some vy := ey
                  obtain ⟨d6, ed6, r6⟩ := ra5.get ey
                  have cT : Chg [] H5 (upd H5 T (.tup [.int (j : Nat), vy])) := .new nT
                  have c6 : Chg [] H2 (upd H5 T (.tup [.int (j : Nat), vy])) := (c3.same c5).same cT
                  have e8 := cT.at (c5.at e7)
                  walk_at "w"
                  refine ⟨vy, d6, S, D, ds.map rowName, (ys5.length : Int) - (j : Nat) - 1, rfl, r6.same c6, smallDs_all sm2 d6 (List.mem_of_getElem? ed6), sqL (c6.at hD), fun H7 c7 => ?_⟩
                  have eln : ((ys5.length : Int) - (j : Nat) - 1) = ((ds1.length : Int) - (j : Nat) - 1) := by rw [ln5]
                  rw [eln]
                  walk_at "w"
                  refine w_iteB (fun b1 => ?_) (fun b1 => ?_)
                  · walk_at "w"
                    exact ⟨(c5.same cT).same c7, by rw [wa, wrongAt_skip ed6 b1], _, _, rfl⟩
                  · walk_at "w"
                    refine k_tup (by walk_at "sz") fun p H8 np c8 hp => ?_
                    refine qs (some (x1, j)) ?_ p H8 ((c12.same (c6.same c7)).same c8) hp
                    rw [efw, wr1, wa, wrongAt_here ed6 b1]
                    rfl
                · obtain ⟨c5, wa, z4, z5, rfl⟩ := p
                  refine ⟨c3.same c5, ?_, _, _, _, _, rfl⟩
                  rw [wr1, wa, ln5, List.drop_eq_nil_of_le (Nat.le_refl _)]
                  rfl
      · obtain ⟨c3, wr, y2, y3, y4, y5, rfl⟩ := p
        walk_at "w"
        refine qn ?_ H3 (c12.same c3)
        rw [efw, wr, List.drop_eq_nil_of_le (by omega)]
        rfl
def sp_is_program : Sp := fun vs H Q _ => ∃ (v : V) (d : PyData) (S : Addr → Prop), vs = [v] ∧ R S H v d ∧ smallD d = true ∧ lenOk d = true ∧ ∀ H', Chg [] H H' → Q (.bl (firstWrong d).isNone) H'
def t_is_program  : TS :=
    tRet (tOp oIsN (tCall sp_first_wrong [] E0 (tCons (tVar 0) (tNil))) (tC .non))
theorem pure_is_program {K : PySem.W.Frag} (vs : List V) (H : Hp) (Q : VK) (E : XK) (h : sp_is_program vs H Q E) : t_is_program (fin Q) (start ["thing"] vs) H := by
  obtain ⟨v, d, S, rfl, r, sm, lo, q⟩ := h
  show t_is_program _ [some v] H
  unfold t_is_program
  walk_at "w"
  refine ⟨v, d, S, rfl, r, sm, lo, fun e H1 c1 => ?_, fun o e p H1 c1 hp => ?_⟩
  · walk_at "w"
    have := q H1 c1
    rw [e] at this
    exact this
  · walk_at "w"
    have := q H1 c1
    rw [e] at this
    exact this
end
section
inductive Ex where
  | num (i : Int)
  | arg
  | cell (a : Ex)
  | add (a b : Ex)
  | less (a b : Ex)
  | least (a b : Ex)
def Ex.data : Ex → PyData
  | .num i => .int i
  | .arg => .tuple [.str "arg"]
  | .cell a => .tuple [.str "cell", a.data]
  | .add a b => .tuple [.str "add", a.data, b.data]
  | .less a b => .tuple [.str "less", a.data, b.data]
  | .least a b => .tuple [.str "least", a.data, b.data]
def Ex.deep : Ex → Nat
  | .num _ => 1
  | .arg => 1
  | .cell a => a.deep + 1
  | .add a b => max a.deep b.deep + 1
  | .less a b => max a.deep b.deep + 1
  | .least a b => max a.deep b.deep + 1
/-- all numbers within -B .. B -/
def Ex.numsIn (B : Int) : Ex → Prop
  | .num i => -B ≤ i ∧ i ≤ B
  | .arg => True
  | .cell a => a.numsIn B
  | .add a b => a.numsIn B ∧ b.numsIn B
  | .less a b => a.numsIn B ∧ b.numsIn B
  | .least a b => a.numsIn B ∧ b.numsIn B
theorem Ex.deep_pos (e : Ex) : 1 ≤ e.deep := by cases e <;> simp [Ex.deep]
theorem isExpr_of : ∀ (e : Ex) (n : Nat), e.deep ≤ n → isExpr n e.data = true
  | .num i, 0, h => by simp [Ex.deep] at h
  | .num i, n + 1, _ => rfl
  | .arg, 0, h => by simp [Ex.deep] at h
  | .arg, n + 1, _ => rfl
  | .cell a, 0, h => by simp [Ex.deep] at h
  | .cell a, n + 1, h => by
    have h1 := isExpr_of a n (by simp only [Ex.deep] at h; omega)
    show (match partsOf "cell" with
      | some k => decide ([a.data].length = k) && [a.data].all (isExpr n)
      | none => false) = true
    rw [show partsOf "cell" = some 1 by decide +kernel]
    simp [h1]
  | .add a b, 0, h => by simp [Ex.deep] at h
  | .add a b, n + 1, h => by
    have h1 := isExpr_of a n (by simp only [Ex.deep] at h; omega)
    have h2 := isExpr_of b n (by simp only [Ex.deep] at h; omega)
    show (match partsOf "add" with
      | some k => decide ([a.data, b.data].length = k) && [a.data, b.data].all (isExpr n)
      | none => false) = true
    rw [show partsOf "add" = some 2 by decide +kernel]
    simp [h1, h2]
  | .less a b, 0, h => by simp [Ex.deep] at h
  | .less a b, n + 1, h => by
    have h1 := isExpr_of a n (by simp only [Ex.deep] at h; omega)
    have h2 := isExpr_of b n (by simp only [Ex.deep] at h; omega)
    show (match partsOf "less" with
      | some k => decide ([a.data, b.data].length = k) && [a.data, b.data].all (isExpr n)
      | none => false) = true
    rw [show partsOf "less" = some 2 by decide +kernel]
    simp [h1, h2]
  | .least a b, 0, h => by simp [Ex.deep] at h
  | .least a b, n + 1, h => by
    have h1 := isExpr_of a n (by simp only [Ex.deep] at h; omega)
    have h2 := isExpr_of b n (by simp only [Ex.deep] at h; omega)
    show (match partsOf "least" with
      | some k => decide ([a.data, b.data].length = k) && [a.data, b.data].all (isExpr n)
      | none => false) = true
    rw [show partsOf "least" = some 2 by decide +kernel]
    simp [h1, h2]
inductive Stp where
  | cell (a b : Ex)
  | give (x : Str) (a : Ex)
  | fork (x : Str) (a : Ex)
  | call (x : Str) (a : Ex)
  | wait
  | skip (a : Ex) (k : Int)
def Stp.data : Stp → PyData
  | .cell a b => .tuple [.str "cell", a.data, b.data]
  | .give x a => .tuple [.str "give", .str x, a.data]
  | .fork x a => .tuple [.str "fork", .str x, a.data]
  | .call x a => .tuple [.str "call", .str x, a.data]
  | .wait => .tuple [.str "wait"]
  | .skip a k => .tuple [.str "skip", a.data, .int k]
/-- a right step, by the helpers' names and how many there are behind it -/
def Stp.ok (ns : List Str) (bh : Int) : Stp → Prop
  | .cell a b => a.deep ≤ 5 ∧ b.deep ≤ 5
  | .give x a => nameS x = true ∧ a.deep ≤ 5
  | .fork x a => nameS x = true ∧ x ∈ ns ∧ a.deep ≤ 5
  | .call x a => nameS x = true ∧ x ∈ ns ∧ a.deep ≤ 5
  | .wait => True
  | .skip a k => a.deep ≤ 5 ∧ 1 ≤ k ∧ k ≤ bh
theorem isStep_of {ns : List Str} {bh : Int} {s : Stp} (h : s.ok ns bh) : isStep ns bh s.data = true := by
  cases s with
  | cell a b =>
    have h1 := isExpr_of a 5 h.1
    have h2 := isExpr_of b 5 h.2
    show step3 ns bh "cell" a.data b.data = true
    unfold step3
    rw [if_pos rfl, h1, h2]
    rfl
  | give x a =>
    have h2 := isExpr_of a 5 h.2
    show step3 ns bh "give" (.str x) a.data = true
    unfold step3
    rw [if_neg (by decide +kernel), if_neg (by decide +kernel), if_pos rfl, h2, show isName (.str x) = true from h.1]
    rfl
  | fork x a =>
    have h2 := isExpr_of a 5 h.2.2
    show step3 ns bh "fork" (.str x) a.data = true
    unfold step3
    rw [if_neg (by decide +kernel), if_neg (by decide +kernel), if_neg (by decide +kernel), if_pos (.inl rfl), h2, show isName (.str x) = true from h.1, show inNm ns (.str x) = true from decide_eq_true h.2.1]
    rfl
  | call x a =>
    have h2 := isExpr_of a 5 h.2.2
    show step3 ns bh "call" (.str x) a.data = true
    unfold step3
    rw [if_neg (by decide +kernel), if_neg (by decide +kernel), if_neg (by decide +kernel), if_pos (.inr rfl), h2, show isName (.str x) = true from h.1, show inNm ns (.str x) = true from decide_eq_true h.2.1]
    rfl
  | wait => rfl
  | skip a k =>
    have h1 := isExpr_of a 5 h.1
    show step3 ns bh "skip" a.data (.int k) = true
    unfold step3
    rw [if_neg (by decide +kernel), if_pos rfl, h1]
    show (true && (decide (1 ≤ k) && decide (k ≤ bh))) = true
    rw [decide_eq_true h.2.1, decide_eq_true h.2.2]
    rfl
/-- helpers with their steps -/
abbrev Prg := List (Str × List Stp)
def rowD (r : Str × List Stp) : PyData := .tuple [.str r.1, .list (r.2.map Stp.data)]
def prgD (p : Prg) : PyData := .list (p.map rowD)
/-- each step right by its place -/
def stepsOk (ns : List Str) : List Stp → Prop
  | [] => True
  | s :: r => s.ok ns (r.length : Int) ∧ stepsOk ns r
structure PrgOk (p : Prg) : Prop where
  names : ∀ r ∈ p, nameS r.1 = true
  up : rising (p.map (·.1)) = true
  steps : ∀ r ∈ p, stepsOk (p.map (·.1)) r.2
  few : p.length ≤ 100
  short : ∀ r ∈ p, r.2.length ≤ 100
theorem wrongAt_of {ns : List Str} : ∀ {ss : List Stp} (k : Nat), stepsOk ns ss → wrongAt ns k (ss.map Stp.data) = none
  | [], _, _ => rfl
  | s :: r, k, h => by
    show (if isStep ns ((r.map Stp.data).length : Int) s.data = true then wrongAt ns (k + 1) (r.map Stp.data) else some k) = none
    rw [List.length_map, if_pos (isStep_of h.1)]
    exact wrongAt_of (k + 1) h.2
theorem wrongIn_of {ns : List Str} : ∀ {p : Prg}, (∀ r ∈ p, stepsOk ns r.2) → wrongIn ns (p.map rowD) = none
  | [], _ => rfl
  | r :: p, h => by
    show (match wrongAt ns 0 (r.2.map Stp.data) with
      | some k => some (r.1, k)
      | none => wrongIn ns (p.map rowD)) = none
    rw [wrongAt_of 0 (h r (by simp))]
    exact wrongIn_of fun r hr => h r (List.mem_cons_of_mem _ hr)
theorem rowName_map (p : Prg) : (p.map rowD).map rowName = p.map (·.1) := by
  rw [List.map_map]
  rfl
theorem Ex.small : ∀ e : Ex, smallD e.data = true
  | .num _ => rfl
  | .arg => by decide +kernel
  | .cell a => by
    show (smallD (.str "cell") && (smallD a.data && true)) = true
    rw [Ex.small a]; decide +kernel
  | .add a b => by
    show (smallD (.str "add") && (smallD a.data && (smallD b.data && true))) = true
    rw [Ex.small a, Ex.small b]; decide +kernel
  | .less a b => by
    show (smallD (.str "less") && (smallD a.data && (smallD b.data && true))) = true
    rw [Ex.small a, Ex.small b]; decide +kernel
  | .least a b => by
    show (smallD (.str "least") && (smallD a.data && (smallD b.data && true))) = true
    rw [Ex.small a, Ex.small b]; decide +kernel
theorem nameS_iff {x : Str} : nameS x = true ↔ 1 ≤ x.length ∧ x.length ≤ 8 ∧ ∀ c ∈ x.cps.toList, isLow c = true := by
  unfold nameS
  rw [Bool.and_eq_true, Bool.and_eq_true, decide_eq_true_eq, decide_eq_true_eq, List.all_eq_true]
  exact ⟨fun h => ⟨h.1.1, h.1.2, h.2⟩, fun h => ⟨⟨h.1, h.2.1⟩, h.2.2⟩⟩
theorem smallDs_of : ∀ {ds : List PyData}, (∀ d ∈ ds, smallD d = true) → smallDs ds = true
  | [], _ => rfl
  | d :: ds, h => by
    show (smallD d && smallDs ds) = true
    rw [h d (by simp), smallDs_of fun e he => h e (List.mem_cons_of_mem _ he)]
    rfl
theorem stepsOk_mem {ns : List Str} : ∀ {ss : List Stp}, stepsOk ns ss → ∀ s ∈ ss, ∃ bh, s.ok ns bh
  | [], _, s, h => by cases h
  | t :: r, h, s, hs => by
    rcases List.mem_cons.mp hs with rfl | hs
    · exact ⟨_, h.1⟩
    · exact stepsOk_mem h.2 s hs
theorem Ex.flat : ∀ e : Ex, noDic e.data = true
  | .num _ => rfl
  | .arg => rfl
  | .cell a => by
    show (true && (noDic a.data && true)) = true
    rw [Ex.flat a]; rfl
  | .add a b => by
    show (true && (noDic a.data && (noDic b.data && true))) = true
    rw [Ex.flat a, Ex.flat b]; rfl
  | .less a b => by
    show (true && (noDic a.data && (noDic b.data && true))) = true
    rw [Ex.flat a, Ex.flat b]; rfl
  | .least a b => by
    show (true && (noDic a.data && (noDic b.data && true))) = true
    rw [Ex.flat a, Ex.flat b]; rfl
theorem Stp.flat (s : Stp) : noDic s.data = true := by
  cases s with
  | cell a b =>
    show (true && (noDic a.data && (noDic b.data && true))) = true
    rw [Ex.flat a, Ex.flat b]; rfl
  | give x a => show (true && (true && (noDic a.data && true))) = true; rw [Ex.flat a]; rfl
  | fork x a => show (true && (true && (noDic a.data && true))) = true; rw [Ex.flat a]; rfl
  | call x a => show (true && (true && (noDic a.data && true))) = true; rw [Ex.flat a]; rfl
  | wait => rfl
  | skip a k => show (true && (noDic a.data && (true && true))) = true; rw [Ex.flat a]; rfl
theorem noDics_of : ∀ {ds : List PyData}, (∀ d ∈ ds, noDic d = true) → noDics ds = true
  | [], _ => rfl
  | d :: ds, h => by
    show (noDic d && noDics ds) = true
    rw [h d (by simp), noDics_of fun e he => h e (List.mem_cons_of_mem _ he)]
    rfl
theorem prg_noDic (p : Prg) : noDic (prgD p) = true := by
  refine noDics_of fun d hd => ?_
  obtain ⟨r, hr, rfl⟩ := List.mem_map.mp hd
  show (true && (noDics (r.2.map Stp.data) && true)) = true
  rw [noDics_of fun d hd => by
    obtain ⟨s, hs, rfl⟩ := List.mem_map.mp hd
    exact Stp.flat s]
  rfl
theorem Ex.depth_le : ∀ e : Ex, e.data.depth ≤ e.deep
  | .num _ => Nat.zero_le _
  | .arg => by show 1 ≤ 1; exact Nat.le_refl _
  | .cell a => by
    have := Ex.depth_le a
    show max 0 (max a.data.depth 0) + 1 ≤ a.deep + 1
    omega
  | .add a b => by
    have := Ex.depth_le a
    have := Ex.depth_le b
    show max 0 (max a.data.depth (max b.data.depth 0)) + 1 ≤ max a.deep b.deep + 1
    omega
  | .less a b => by
    have := Ex.depth_le a
    have := Ex.depth_le b
    show max 0 (max a.data.depth (max b.data.depth 0)) + 1 ≤ max a.deep b.deep + 1
    omega
  | .least a b => by
    have := Ex.depth_le a
    have := Ex.depth_le b
    show max 0 (max a.data.depth (max b.data.depth 0)) + 1 ≤ max a.deep b.deep + 1
    omega
theorem Stp.depth_le {ns : List Str} {bh : Int} {s : Stp} (h : s.ok ns bh) : s.data.depth ≤ 6 := by
  cases s with
  | cell a b =>
    have := Ex.depth_le a
    have := Ex.depth_le b
    have := h.1
    have := h.2
    show max 0 (max a.data.depth (max b.data.depth 0)) + 1 ≤ 6
    omega
  | give x a =>
    have := Ex.depth_le a
    have := h.2
    show max 0 (max 0 (max a.data.depth 0)) + 1 ≤ 6
    omega
  | fork x a =>
    have := Ex.depth_le a
    have := h.2.2
    show max 0 (max 0 (max a.data.depth 0)) + 1 ≤ 6
    omega
  | call x a =>
    have := Ex.depth_le a
    have := h.2.2
    show max 0 (max 0 (max a.data.depth 0)) + 1 ≤ 6
    omega
  | wait => show 1 ≤ 6; decide
  | skip a k =>
    have := Ex.depth_le a
    have := h.1
    show max 0 (max a.data.depth (max 0 0)) + 1 ≤ 6
    omega
theorem depthAll_le {n : Nat} : ∀ {ds : List PyData}, (∀ d ∈ ds, d.depth ≤ n) → PyData.depthAll ds ≤ n
  | [], _ => Nat.zero_le _
  | d :: ds, h => by
    have h1 := h d (by simp)
    have h2 := depthAll_le fun e he => h e (List.mem_cons_of_mem d he)
    show max d.depth (PyData.depthAll ds) ≤ n
    omega
mutual
def noL : PyData → Bool
  | .list _ => false
  | .dict _ => false
  | .tuple ds => noLs ds
  | _ => true
def noLs : List PyData → Bool
  | [] => true
  | d :: ds => noL d && noLs ds
end
mutual
theorem R.pure {S : Addr → Prop} {H : Hp} : ∀ {d : PyData} {v : V}, R S H v d → noL d = true → Im H v d
  | .none, _, h, _ => by cases h; exact .non
  | .bool _, _, h, _ => by cases h; exact .bl _
  | .int _, _, h, _ => by cases h; exact .int _
  | .str _, _, h, _ => by cases h; exact .str _
  | .list ds, _, h, z => by cases z
  | .tuple ds, _, h, z => by
    cases h with
    | tup e r => exact .tup e (RA.pure r z)
  | .dict _, _, h, z => by cases z
theorem RA.pure {S : Addr → Prop} {H : Hp} : ∀ {ds : List PyData} {vs : List V}, RA S H vs ds → noLs ds = true → ImA H vs ds
  | [], _, h, _ => by cases h; exact .nil
  | d :: ds, _, h, z => by
    obtain ⟨z1, z2⟩ := Bool.and_eq_true_iff.mp (show (noL d && noLs ds) = true from z)
    cases h with
    | cons a b => exact .cons (R.pure a z1) (RA.pure b z2)
end
theorem Ex.noL : ∀ e : Ex, Fg.noL e.data = true
  | .num _ => rfl
  | .arg => rfl
  | .cell a => by
    show (true && (Fg.noL a.data && true)) = true
    rw [Ex.noL a]; rfl
  | .add a b => by
    show (true && (Fg.noL a.data && (Fg.noL b.data && true))) = true
    rw [Ex.noL a, Ex.noL b]; rfl
  | .less a b => by
    show (true && (Fg.noL a.data && (Fg.noL b.data && true))) = true
    rw [Ex.noL a, Ex.noL b]; rfl
  | .least a b => by
    show (true && (Fg.noL a.data && (Fg.noL b.data && true))) = true
    rw [Ex.noL a, Ex.noL b]; rfl
theorem Stp.noL (s : Stp) : Fg.noL s.data = true := by
  cases s with
  | cell a b =>
    show (true && (Fg.noL a.data && (Fg.noL b.data && true))) = true
    rw [Ex.noL a, Ex.noL b]; rfl
  | give x a => show (true && (true && (Fg.noL a.data && true))) = true; rw [Ex.noL a]; rfl
  | fork x a => show (true && (true && (Fg.noL a.data && true))) = true; rw [Ex.noL a]; rfl
  | call x a => show (true && (true && (Fg.noL a.data && true))) = true; rw [Ex.noL a]; rfl
  | wait => rfl
  | skip a k => show (true && (Fg.noL a.data && (true && true))) = true; rw [Ex.noL a]; rfl
theorem noLs_of : ∀ {ds : List PyData}, (∀ d ∈ ds, Fg.noL d = true) → noLs ds = true
  | [], _ => rfl
  | d :: ds, h => by
    show (Fg.noL d && noLs ds) = true
    rw [h d (by simp), noLs_of fun e he => h e (List.mem_cons_of_mem _ he)]
    rfl
theorem steps_noL (ss : List Stp) : noLs (ss.map Stp.data) = true := noLs_of fun d hd => by
  obtain ⟨s, _, rfl⟩ := List.mem_map.mp hd
  exact Stp.noL s
end
section
def isFig (c : Nat) : Bool := decide (48 ≤ c) && decide (c ≤ 57)
theorem fig_iff (c : Nat) : c ∈ figs.cps.toList ↔ isFig c = true := by
  have e : figs.cps.toList = [48, 49, 50, 51, 52, 53, 54, 55, 56, 57] := by decide +kernel
  rw [e]
  unfold isFig
  rw [Bool.and_eq_true, decide_eq_true_eq, decide_eq_true_eq]
  simp only [List.mem_cons, List.not_mem_nil, or_false]
  omega
def figsOf (x : Str) : Str := if cutS x none (some 1) = "-" then cutS x (some 1) none else x
def numOk (x : Str) : Bool := !decide (figsOf x = "") && (figsOf x).cps.toList.all isFig && !(decide ((figsOf x).cps.toList.head? = some 48) && !decide (x = "0"))
def rdN (x : Str) : Option Int := if numOk x = true then PySem.intText? x else none
/-- parted by blanks that are within no brackets: what comes from the level lv on -/
def ptd : Int → Tx → Option (List Tx)
  | _, [] => some [[]]
  | lv, c :: r => if (if c = 91 then lv + 1 else if c = 93 then lv - 1 else lv) < 0 then none
    else if c = 32 ∧ (if c = 91 then lv + 1 else if c = 93 then lv - 1 else lv) = 0 then (ptd (if c = 91 then lv + 1 else if c = 93 then lv - 1 else lv) r).map fun ps => [] :: ps
    else (ptd (if c = 91 then lv + 1 else if c = 93 then lv - 1 else lv) r).map (cons1 c)
def ptdS (x : Str) : Option (List Str) := (ptd 0 x.cps.toList).map fun ps => ps.map stx
def mapO {α β : Type} (f : α → Option β) : List α → Option (List β)
  | [] => some []
  | a :: r => (f a).bind fun b => (mapO f r).bind fun bs => some (b :: bs)
def rdE : Nat → Str → Option PyData
  | 0, _ => none
  | n + 1, x => if x = "arg" then some (.tuple [.str "arg"]) else if cutS x (some (-1)) none ≠ "]" then (rdN x).map PyData.int
    else if partsOf (Txt.partition x "[").1 = none ∨ (Txt.partition x "[").1 = "arg" then none
    else (ptdS (cutS x (some ((Txt.partition x "[").1.length + 1)) (some (-1)))).bind fun ps => (mapO (rdE n) ps).map fun ds => .tuple (.str (Txt.partition x "[").1 :: ds)
def rdS3 (w a b : Str) : Option PyData :=
  if w = "cell" then (rdE 5 a).bind fun d => (rdE 5 b).map fun e => .tuple [.str "cell", d, e]
  else if w = "skip" then (rdE 5 a).bind fun d => (rdN b).map fun k => .tuple [.str "skip", d, .int k]
  else (rdE 5 b).map fun e => .tuple [.str w, .str a, e]
def rdSw : List Str → Option PyData
  | [w] => if w = "wait" then some (.tuple [.str "wait"]) else none
  | [w, a, b] => rdS3 w a b
  | _ => none
def rdS (x : Str) : Option PyData := (ptdS x).bind rdSw
def rdH (x : Str) : Option PyData :=
  if (Txt.partition x ":").2.1 = "" ∨ ((Txt.partition x ":").2.2 ≠ "" ∧ (Txt.partition x ":").2.2.cps.toList.head? ≠ some 32) then none
  else if (Txt.partition x ":").2.2 = "" then some (.tuple [.str (Txt.partition x ":").1, .list []])
  else (mapO rdS (Txt.split (cutS (Txt.partition x ":").2.2 (some 1) none) ", ")).map fun ds => .tuple [.str (Txt.partition x ":").1, .list ds]
def rdRows (x : Str) : Option (List PyData) := if x = "" then some [] else mapO rdH (Txt.split x "; ")
def rdP (x : Str) : Option (List PyData) := (rdRows x).bind fun ds => if firstWrong (.list ds) = none then some ds else none
def shE : Ex → Str
  | .num i => Str.ofString (toString i)
  | .arg => "arg"
  | .cell a => "cell" ++ "[" ++ shE a ++ "]"
  | .add a b => "add" ++ "[" ++ (shE a ++ " " ++ shE b) ++ "]"
  | .less a b => "less" ++ "[" ++ (shE a ++ " " ++ shE b) ++ "]"
  | .least a b => "least" ++ "[" ++ (shE a ++ " " ++ shE b) ++ "]"
def shS : Stp → Str
  | .cell a b => "cell" ++ " " ++ shE a ++ " " ++ shE b
  | .give x a => "give" ++ " " ++ x ++ " " ++ shE a
  | .fork x a => "fork" ++ " " ++ x ++ " " ++ shE a
  | .call x a => "call" ++ " " ++ x ++ " " ++ shE a
  | .wait => "wait"
  | .skip a k => "skip" ++ " " ++ shE a ++ " " ++ Str.ofString (toString k)
def shH (r : Str × List Stp) : Str := if r.2 = [] then r.1 ++ ":" else r.1 ++ ": " ++ Txt.join ", " (r.2.map shS)
def shP (p : Prg) : Str := Txt.join "; " (p.map shH)
abbrev tlS (x : Str) : Tx := x.cps.toList
theorem tl_app (a b : Str) : tlS (a ++ b) = tlS a ++ tlS b := by
  show (a.cps ++ b.cps).toList = _
  rw [Array.toList_append]
theorem tl_inj {a b : Str} (h : tlS a = tlS b) : a = b := by rw [← stx_of a, ← stx_of b]; exact congrArg stx h
theorem tl_len (a : Str) : a.length = (tlS a).length := by show a.cps.size = _; simp
theorem tl_stx (l : Tx) : tlS (stx l) = l := stx_list l
/-- the signs of a number -/
theorem sh_nat (n : Nat) : tlS (Str.ofString (toString ((n : Nat) : Int))) = TL.numL n := TL.tl_num n
theorem sh_neg (n : Nat) : tlS (Str.ofString (toString (-((n + 1 : Nat) : Int)))) = 45 :: TL.numL (n + 1) := by
  have e : toString (-((n + 1 : Nat) : Int)) = "-" ++ toString (((n + 1 : Nat)) : Int) := rfl
  rw [e]
  show (Str.ofString ("-" ++ toString (((n + 1 : Nat)) : Int))).cps.toList = _
  have h := sh_nat (n + 1)
  unfold tlS at h
  rw [Str.ofString_eq_toList] at h ⊢
  rw [← h, String.toList_append, List.map_append]
  simp
theorem sh_int (i : Int) : (∃ n : Nat, i = (n : Int) ∧ tlS (Str.ofString (toString i)) = TL.numL n) ∨ ∃ n : Nat, i = -((n + 1 : Nat) : Int) ∧ tlS (Str.ofString (toString i)) = 45 :: TL.numL (n + 1) := by
  rcases Int.le_total 0 i with h | h
  · obtain ⟨n, rfl⟩ := Int.eq_ofNat_of_zero_le h
    exact .inl ⟨n, rfl, sh_nat n⟩
  · by_cases h0 : i = 0
    · subst h0; exact .inl ⟨0, rfl, sh_nat 0⟩
    · obtain ⟨n, hn⟩ : ∃ n : Nat, i = -((n + 1 : Nat) : Int) := ⟨(-i - 1).toNat, by omega⟩
      subst hn
      exact .inr ⟨n, rfl, sh_neg n⟩
theorem numL_head {n : Nat} (h : 1 ≤ n) : (TL.numL n).head? ≠ some 48 := by
  induction n using Nat.strongRecOn with
  | ind n ih =>
    by_cases hn : n < 10
    · rw [TL.numL_lt hn]
      intro z
      have := Option.some.inj z
      omega
    · rw [TL.numL_step (by omega)]
      have ih := ih (n / 10) (by omega) (by omega)
      cases e : TL.numL (n / 10) with
      | nil => exact absurd e (TL.numL_ne _)
      | cons a r => rw [e] at ih; exact ih
theorem numL_fig {n c : Nat} (h : c ∈ TL.numL n) : isFig c = true := by
  obtain ⟨h1, h2⟩ := TL.numL_digits n c h
  unfold isFig
  rw [decide_eq_true h1, decide_eq_true h2]
  rfl
end
section
theorem cutS_take (x : Str) (k : Nat) : cutS x none (some (k : Int)) = stx ((tlS x).take k) := by
  unfold cutS stx
  rw [HT.sIx_none, HT.sIx_nat, List.drop_zero, Nat.sub_zero]
  congr 2
  have h : x.length = x.cps.toList.length := tl_len x
  rcases Nat.le_total k x.length with hk | hk
  · rw [Nat.min_eq_left hk]
  · rw [Nat.min_eq_right hk, List.take_of_length_le (by omega), List.take_of_length_le (by show x.cps.toList.length ≤ k; omega)]
theorem cutS_drop (x : Str) (k : Nat) : cutS x (some (k : Int)) none = stx ((tlS x).drop k) := by
  unfold cutS stx
  rw [HT.sIx_none, HT.sIx_nat]
  congr 2
  have h : x.length = x.cps.toList.length := tl_len x
  rcases Nat.le_total k x.length with hk | hk
  · rw [Nat.min_eq_left hk, List.take_of_length_le (by rw [List.length_drop]; omega)]
  · rw [Nat.min_eq_right hk, List.drop_of_length_le (by omega), List.drop_of_length_le (by show x.cps.toList.length ≤ k; omega)]
    simp
theorem sIx_last (n d : Nat) : HT.sIx n d (some (-1)) = n - 1 := by
  unfold HT.sIx
  simp
  omega
theorem cutS_last (x : Str) : cutS x (some (-1)) none = stx ((tlS x).drop ((tlS x).length - 1)) := by
  unfold cutS stx
  rw [HT.sIx_none, sIx_last]
  congr 2
  have h : x.length = x.cps.toList.length := tl_len x
  rw [List.take_of_length_le (by rw [List.length_drop]; omega), h]
theorem cutS_mid (x : Str) (k : Nat) : cutS x (some (k : Int)) (some (-1)) = stx (((tlS x).take ((tlS x).length - 1)).drop k) := by
  unfold cutS stx
  rw [sIx_last, HT.sIx_nat]
  congr 2
  have h : x.length = x.cps.toList.length := tl_len x
  rw [List.drop_take, h]
  rcases Nat.le_total k x.cps.toList.length with hk | hk
  · rw [Nat.min_eq_left hk]
  · rw [Nat.min_eq_right hk, List.drop_of_length_le (Nat.le_refl _), List.drop_of_length_le hk]
    simp
def consL (p : Tx) : List Tx → List Tx
  | [] => [p]
  | q :: qs => (p ++ q) :: qs
theorem ptd_bl (lv : Int) (r : Tx) : ptd lv (32 :: r) = if lv < 0 then none else if lv = 0 then (ptd lv r).map fun ps => [] :: ps else (ptd lv r).map (cons1 32) := by
  rw [ptd]
  simp
theorem ptd_op (lv : Int) (r : Tx) : ptd lv (91 :: r) = if lv + 1 < 0 then none else (ptd (lv + 1) r).map (cons1 91) := by
  rw [ptd]
  simp
theorem ptd_cl (lv : Int) (r : Tx) : ptd lv (93 :: r) = if lv - 1 < 0 then none else (ptd (lv - 1) r).map (cons1 93) := by
  rw [ptd]
  simp
theorem ptd_in {c : Nat} (lv : Int) (r : Tx) (h1 : c ≠ 91) (h2 : c ≠ 93) (h3 : c ≠ 32) : ptd lv (c :: r) = if lv < 0 then none else (ptd lv r).map (cons1 c) := by
  rw [ptd]
  simp [h1, h2, h3]
theorem ptd_ne : ∀ {lv : Int} {l : Tx} {ps : List Tx}, ptd lv l = some ps → ∃ q qs, ps = q :: qs
  | lv, [], ps, h => by cases h; exact ⟨_, _, rfl⟩
  | lv, c :: r, ps, h => by
    rw [ptd] at h
    generalize (if c = 91 then lv + 1 else if c = 93 then lv - 1 else lv) = lv' at h
    split at h
    · cases h
    · split at h
      · obtain ⟨qs, h1, rfl⟩ := Option.map_eq_some_iff.mp h
        exact ⟨_, _, rfl⟩
      · obtain ⟨qs, h1, rfl⟩ := Option.map_eq_some_iff.mp h
        obtain ⟨q, qs, rfl⟩ := ptd_ne h1
        exact ⟨_, _, rfl⟩
theorem consL_app {p p' : Tx} : ∀ {ps : List Tx}, ps ≠ [] → consL (p ++ p') ps = consL p (consL p' ps)
  | [], h => absurd rfl h
  | q :: qs, _ => by show ((p ++ p') ++ q) :: qs = (p ++ (p' ++ q)) :: qs; rw [List.append_assoc]
def Inner (p : Tx) : Prop := ∀ (lv : Int) (r : Tx), 1 ≤ lv → ptd lv (p ++ r) = (ptd lv r).map (consL p)
def Solid (p : Tx) : Prop := ∀ (lv : Int) (r : Tx), 0 ≤ lv → ptd lv (p ++ r) = (ptd lv r).map (consL p)
theorem Solid.inner {p : Tx} (h : Solid p) : Inner p := fun lv r hl => h lv r (by omega)
theorem map_consL_nil (o : Option (List Tx)) (h : ∀ ps, o = some ps → ps ≠ []) : o.map (consL []) = o := by
  cases o with
  | none => rfl
  | some ps =>
    cases ps with
    | nil => exact absurd rfl (h _ rfl)
    | cons q qs => rfl
theorem ptd_nn {lv : Int} {l : Tx} : ∀ ps, ptd lv l = some ps → ps ≠ [] := fun ps h e => by
  obtain ⟨q, qs, e2⟩ := ptd_ne h
  rw [e] at e2
  cases e2
theorem solid_nil : Solid [] := fun lv r _ => (map_consL_nil _ ptd_nn).symm
theorem map_comp {p q : Tx} {o : Option (List Tx)} (h : ∀ ps, o = some ps → ps ≠ []) : (o.map (consL q)).map (consL p) = o.map (consL (p ++ q)) := by
  cases o with
  | none => rfl
  | some ps => show some (consL p (consL q ps)) = some (consL (p ++ q) ps); rw [consL_app (h _ rfl)]
theorem Solid.app {p q : Tx} (h1 : Solid p) (h2 : Solid q) : Solid (p ++ q) := fun lv r hl => by
  rw [List.append_assoc, h1 lv _ hl, h2 lv _ hl, map_comp ptd_nn]
theorem Inner.app {p q : Tx} (h1 : Inner p) (h2 : Inner q) : Inner (p ++ q) := fun lv r hl => by
  rw [List.append_assoc, h1 lv _ hl, h2 lv _ hl, map_comp ptd_nn]
theorem cons1_L {c : Nat} {ps : List Tx} (h : ps ≠ []) : cons1 c ps = consL [c] ps := by
  cases ps with
  | nil => exact absurd rfl h
  | cons q qs => rfl
theorem map_cons1 {c : Nat} {o : Option (List Tx)} (h : ∀ ps, o = some ps → ps ≠ []) : o.map (cons1 c) = o.map (consL [c]) := by
  cases o with
  | none => rfl
  | some ps => show some _ = some _; rw [cons1_L (h _ rfl)]
theorem solid_one {c : Nat} (h1 : c ≠ 91) (h2 : c ≠ 93) (h3 : c ≠ 32) : Solid [c] := fun lv r hl => by
  show ptd lv (c :: r) = _
  rw [ptd_in lv r h1 h2 h3, if_neg (by omega), map_cons1 ptd_nn]
theorem inner_blank : Inner [32] := fun lv r hl => by
  show ptd lv (32 :: r) = _
  rw [ptd_bl, if_neg (by omega), if_neg (by omega), map_cons1 ptd_nn]
theorem solid_of : ∀ {p : Tx}, (∀ c ∈ p, c ≠ 91 ∧ c ≠ 93 ∧ c ≠ 32) → Solid p
  | [], _ => solid_nil
  | c :: r, h => by
    obtain ⟨h1, h2, h3⟩ := h c (by simp)
    exact (solid_one h1 h2 h3).app (q := r) (solid_of fun d hd => h d (List.mem_cons_of_mem _ hd))
theorem Inner.br {p : Tx} (h : Inner p) : Solid (91 :: (p ++ [93])) := fun lv r hl => by
  show ptd lv (91 :: ((p ++ [93]) ++ r)) = _
  rw [ptd_op, if_neg (by omega), List.append_assoc, h (lv + 1) _ (by omega)]
  have e : ptd (lv + 1) ([93] ++ r) = (ptd lv r).map (consL [93]) := by
    show ptd (lv + 1) (93 :: r) = _
    rw [ptd_cl, show lv + 1 - 1 = lv by omega, if_neg (by omega), map_cons1 ptd_nn]
  rw [e, map_comp ptd_nn, map_cons1 (by
    intro ps hp
    obtain ⟨qs, _, rfl⟩ := Option.map_eq_some_iff.mp hp
    cases qs <;> exact fun z => by cases z), map_comp ptd_nn]
  rfl
/-- pieces that stand together, with blanks between -/
theorem ptd_join : ∀ {p : Tx} {ps : List Tx}, (∀ q ∈ p :: ps, Solid q) → ptd 0 (p ++ ps.flatMap (fun q => 32 :: q)) = some (p :: ps)
  | p, [], h => by
    rw [List.flatMap_nil, h p (by simp) 0 [] (by omega)]
    show some [p ++ []] = _
    rw [List.append_nil]
  | p, q :: ps, h => by
    rw [List.flatMap_cons, h p (by simp) 0 _ (by omega)]
    have e : ptd 0 (32 :: q ++ ps.flatMap fun q => 32 :: q) = some ([] :: q :: ps) := by
      show ptd 0 (32 :: (q ++ ps.flatMap fun q => 32 :: q)) = _
      rw [ptd_bl, if_neg (by omega), if_pos rfl, ptd_join fun r hr => h r (List.mem_cons_of_mem _ hr)]
      rfl
    rw [e]
    show some ((p ++ []) :: q :: ps) = _
    rw [List.append_nil]
theorem head_take (l : Tx) : (stx (l.take 1) = "-") ↔ l.head? = some 45 := by
  have e : ("-" : Str) = stx [45] := by decide +kernel
  rw [e]
  constructor
  · intro h
    have := stx_inj h
    cases l with
    | nil => cases this
    | cons a r => show some a = some 45; rw [(List.cons.inj this).1]
  · intro h
    cases l with
    | nil => cases h
    | cons a r => rw [Option.some.inj h]; rfl
theorem figsOf_pos {x : Str} (h : (tlS x).head? ≠ some 45) : figsOf x = x := by
  unfold figsOf
  rw [show (some (1 : Int)) = some ((1 : Nat) : Int) from rfl, cutS_take, if_neg (fun z => h ((head_take _).mp z))]
theorem figsOf_neg {x : Str} {r : Tx} (h : tlS x = 45 :: r) : figsOf x = stx r := by
  unfold figsOf
  rw [show (some (1 : Int)) = some ((1 : Nat) : Int) from rfl, cutS_take, if_pos ((head_take _).mpr (by rw [h]; rfl)), cutS_drop, h]
  rfl
theorem empty_stx : ("" : Str) = stx [] := by decide +kernel
theorem zero_stx : ("0" : Str) = stx [48] := by decide +kernel
theorem len_nat {n : Nat} (h : n < 10 ^ 3200) : (TL.numL n).length ≤ 3200 := TL.numL_len (by decide) h
theorem rdN_sh {i : Int} (h : i.natAbs < 10 ^ 3200) : rdN (Str.ofString (toString i)) = some i := by
  rcases sh_int i with ⟨n, rfl, e⟩ | ⟨n, rfl, e⟩
  · have hn : n < 10 ^ 3200 := h
    have ne := TL.numL_ne n
    have h45 : (tlS (Str.ofString (toString ((n : Nat) : Int)))).head? ≠ some 45 := by
      rw [e]
      intro z
      cases hl : TL.numL n with
      | nil => exact ne hl
      | cons a r =>
        rw [hl] at z
        have := numL_fig (n := n) (c := a) (by rw [hl]; simp)
        rw [Option.some.inj z] at this
        cases this
    have hf := figsOf_pos h45
    have ok : numOk (Str.ofString (toString ((n : Nat) : Int))) = true := by
      unfold numOk
      rw [hf]
      have a1 : Str.ofString (toString ((n : Nat) : Int)) ≠ "" := fun z => ne (by rw [← e, z]; decide +kernel)
      have a2 : (Str.ofString (toString ((n : Nat) : Int))).cps.toList.all isFig = true := List.all_eq_true.mpr fun c hc => numL_fig (n := n) (by rw [← e]; exact hc)
      rw [decide_eq_false a1, a2]
      rcases Nat.eq_zero_or_pos n with h0 | h0
      · subst h0
        decide +kernel
      · have a3 := numL_head h0
        rw [← e] at a3
        rw [decide_eq_false a3]
        rfl
    unfold rdN
    rw [if_pos ok]
    exact TL.int_num (Nat.le_trans (len_nat hn) (by decide))
  · have hn : n + 1 < 10 ^ 3200 := by have h : (-((n + 1 : Nat) : Int)).natAbs < 10 ^ 3200 := h; omega
    have ne := TL.numL_ne (n + 1)
    have hf := figsOf_neg e
    have ok : numOk (Str.ofString (toString (-((n + 1 : Nat) : Int)))) = true := by
      unfold numOk
      rw [hf, stx_list]
      have a1 : stx (TL.numL (n + 1)) ≠ "" := fun z => ne (by rw [empty_stx] at z; exact stx_inj z)
      have a2 : (TL.numL (n + 1)).all isFig = true := List.all_eq_true.mpr fun c hc => numL_fig hc
      rw [decide_eq_false a1, a2, decide_eq_false (numL_head (by omega))]
      rfl
    unfold rdN
    rw [if_pos ok, intText_neg e (TL.numL_digits _) ne (by rw [tl_len, e, List.length_cons]; have := len_nat hn; omega), TL.numL_val]
end
section
theorem cpow {i j : Int} (m : Nat) (h : i.natAbs < 2 ^ m) (h0 : 0 ≤ j) (h1 : (m : Int) * j ≤ 2 ^ 27) : CPowW i j := by
  refine ⟨h0, ?_⟩
  have b := PySem.intBits_le_iff.mpr h
  have : (Builtin.Int.intBits i : Int) * j ≤ (m : Int) * j := Int.mul_le_mul_of_nonneg_right (by omega) h0
  omega
theorem cmulL {i j : Int} (h : -(2 ^ 64) < i) (h' : i < 2 ^ 64) : CMul i j := .inl ⟨h, h'⟩
theorem cdivS {i j : Int} (h : 0 < j) (h' : j < 10 ^ 30) : CDivW i j := wide_div (b := 100) h (by omega) (by decide) (by decide)
end
end Fg
namespace Fg
open PySem PySem.Spec PyProof.Rows L2
local macro_rules | `(tactic| walk_at "hp") => `(tactic| first
  | assumption
  | exact upd_same
  | (refine Chg.at (by assumption) ?_; walk_at "hp")
  | (refine Chg.at1 (by assumption) ?_ (by walk_at "ne"); walk_at "hp"))
local macro_rules | `(tactic| walk_at "ne") => `(tactic| first | assumption | (apply Ne.symm; assumption))
local macro_rules | `(tactic| walk_at "sq") => `(tactic| first | assumption | exact sqL (by walk_at "hp") | (refine Chg.seq (by assumption) ?_; walk_at "sq"))
local macro_rules | `(tactic| walk_at "sz") => `(tactic| first | assumption | exact Nat.zero_le _ | (simp only [List.length_cons, List.length_nil]; decide) | exact Nat.le_trans (by first | omega | (simp; done) | (simp; omega)) (show 100000 ≤ sizeLine by decide) | exact Nat.lt_of_lt_of_le (by first | omega | (simp; done) | (simp; omega)) (show 100000 ≤ sizeLine by decide))
local macro_rules | `(tactic| walk_at "ix") => `(tactic| first | exact at0 | exact at1 | exact at2 | exact at3 | assumption | exact rfl | walk_at "ix2")
local macro_rules | `(tactic| walk_at "ix2") => `(tactic| fail)
local macro_rules | `(tactic| walk_at "num") => `(tactic| first | assumption | omega | decide | walk_at "num2")
local macro_rules | `(tactic| walk_at "num2") => `(tactic| fail)
local macro_rules | `(tactic| walk_at "im") => `(tactic| first | assumption | exact R.non (S := fun _ => False) | exact R.bl (S := fun _ => False) _ | exact R.int (S := fun _ => False) _ | exact R.str (S := fun _ => False) _ | (refine R.im (by assumption) ?_; walk_at "im"))
local macro_rules | `(tactic| walk_at "r") => `(tactic| first | assumption | exact R.non (S := fun _ => False) | exact R.bl (S := fun _ => False) _ | exact R.int (S := fun _ => False) _ | exact R.str (S := fun _ => False) _ | (refine R.same (by assumption) ?_; walk_at "r") | exact R.any (by walk_at "im"))
local macro_rules | `(tactic| walk_at "chg") => `(tactic| first
  | exact Chg.refl
  | assumption
  | (refine Chg.same ?_ (by assumption); walk_at "chg")
  | (refine Chg.both ?_ (by assumption); walk_at "chg")
  | (refine Chg.pre (by assumption) ?_; walk_at "chg"))
local macro_rules | `(tactic| walk_at "w1") => `(tactic| first
  | with_reducible apply w_seq
  | with_reducible apply w_asg
  | ((with_reducible apply w_var); (focus (exact rfl)))
  | with_reducible apply w_c
  | with_reducible apply w_op
  | with_reducible apply w_cons
  | with_reducible apply w_nil
  | with_reducible apply w_gName
  | with_reducible apply w_if
  | with_reducible apply w_test
  | with_reducible apply w_B
  | with_reducible apply w_isbl
  | with_reducible apply w_retN
  | with_reducible apply w_next
  | with_reducible apply w_drop
  | with_reducible apply w_cb
  | with_reducible apply w_call
  | with_reducible apply w_callN
  | with_reducible apply w_bm
  | with_reducible apply w_bm0
  | ((with_reducible apply w_tyL); (focus (walk_at "hp"; done)))
  | with_reducible apply w_dput
  | with_reducible apply w_m1
  | with_reducible apply w_isstr
  | with_reducible apply w_and
  | with_reducible apply w_or
  | with_reducible apply w_not
  | with_reducible apply w_andV
  | with_reducible apply w_orV
  | with_reducible apply w_notV
  | with_reducible apply w_ifE
  | with_reducible apply w_chain
  | with_reducible apply w_un
  | with_reducible apply w_neg
  | with_reducible apply w_add
  | with_reducible apply w_sub
  | ((with_reducible apply w_mod); (focus (walk_at "num"; done)))
  | ((with_reducible apply w_mul); (focus (walk_at "num"; done)))
  | ((with_reducible apply w_fdiv); (focus (walk_at "num"; done)))
  | ((with_reducible apply w_pow); (focus (walk_at "num"; done)))
  | with_reducible apply w_lt
  | with_reducible apply w_le
  | with_reducible apply w_gt
  | with_reducible apply w_ge
  | with_reducible apply w_ltS
  | with_reducible apply w_geS
  | with_reducible apply w_inC
  | with_reducible apply w_notInC
  | with_reducible apply w_isN
  | with_reducible apply w_notN
  | with_reducible apply w_isB
  | with_reducible apply w_notB
  | ((with_reducible apply w_addS); (focus (walk_at "sz"; done)))
  | ((with_reducible apply w_ixL); (focus (walk_at "sq"; done)); (focus (walk_at "ix"; done)))
  | ((with_reducible apply w_ixT); (focus (walk_at "hp"; done)); (focus (walk_at "ix"; done)))
  | ((with_reducible apply w_ixS); (focus (walk_at "sz"; done)); (focus (walk_at "ix"; done)))
  | with_reducible apply w_gSub
  | ((with_reducible apply w_gTup); (focus (walk_at "hp"; done)); (focus (exact rfl)))
  | with_reducible apply w_gCons
  | with_reducible apply w_gNil
  | ((with_reducible apply w_aug); (focus (exact rfl)))
  | with_reducible apply w_ipI
  | ((with_reducible apply w_eq); (focus (exact rfl)))
  | ((with_reducible apply w_ne); (focus (exact rfl)))
  | with_reducible apply w_max
  | with_reducible apply w_min
  | with_reducible apply w_abs
  | with_reducible apply w_intB
  | with_reducible apply w_intI
  | with_reducible apply w_tup1
  | with_reducible apply w_lst1
  | with_reducible apply w_sl
  | with_reducible apply w_part
  | with_reducible apply w_noPart
  | with_reducible apply w_isint
  | ((with_reducible apply w_slS); (focus (walk_at "sz"; done)))
  | with_reducible apply w_iteT
  | with_reducible apply w_iteF
  | with_reducible apply w_iteN
  | ((with_reducible apply w_iteYes); (focus (exact rfl)))
  | ((with_reducible apply w_iteNo); (focus (exact rfl)))
  | ((with_reducible apply w_lenL); (focus (walk_at "sq"; done)))
  | ((with_reducible apply w_lenT); (focus (walk_at "hp"; done)))
  | ((with_reducible apply w_lenS); (focus (walk_at "sz"; done)))
  | with_reducible apply w_lc
  | with_reducible apply w_for
  | with_reducible apply w_yes
  | ((with_reducible apply w_wipe); (focus (exact rfl)))
  | with_reducible apply w_iList
  | with_reducible apply w_iTup
  | with_reducible apply w_iStr
  | with_reducible apply w_iRng1
  | with_reducible apply w_iRng2
  | with_reducible apply w_iZip
  | with_reducible apply w_iEnum
  | ((with_reducible apply d_iList); (focus (walk_at "sq"; done)))
  | ((with_reducible apply d_iTup); (focus (walk_at "hp"; done)))
  | with_reducible apply d_iStr
  | ((with_reducible apply d_iRng1); (focus (walk_at "num"; done)); (focus (walk_at "num"; done)))
  | ((with_reducible apply d_iRng2); (focus (walk_at "num"; done)); (focus (walk_at "num"; done)); (focus (walk_at "num"; done)); (focus (walk_at "num"; done)))
  | ((with_reducible apply d_iZip); (focus (walk_at "sq"; done)); (focus (walk_at "sq"; done)))
  | ((with_reducible apply d_iEnum); (focus (walk_at "sq"; done)))
  | walk_at "w2")
local macro_rules | `(tactic| walk_at "w2") => `(tactic| fail)
local macro_rules | `(tactic| walk_at "wn") => `(tactic| repeat walk_at "w1")
local macro_rules | `(tactic| walk_at "w") => `(tactic| repeat (first | walk_at "w1" | with_reducible apply w_ret))
section
/-- the law's bag, n draws may follow -/
def Bag (H : Hp) (b : Addr) (n : Nat) : Prop := ∃ x y z : Int, H b = some (.lst [.int x, .int y, .int z]) ∧ 0 ≤ x ∧ 0 ≤ y ∧ y < 2 ^ 130 ∧ 0 ≤ z ∧ z + n ≤ 10 ^ 12
theorem Bag.keep {M : List Addr} {H H' : Hp} {b : Addr} {n : Nat} (h : Bag H b n) (c : Chg M H H') (hb : b ∉ M) : Bag H' b n := by
  obtain ⟨x, y, z, e, r⟩ := h
  exact ⟨x, y, z, c.keep _ _ e hb, r⟩
theorem Bag.same {H H' : Hp} {b : Addr} {n : Nat} (h : Bag H b n) (c : Chg [] H H') : Bag H' b n := h.keep c (by simp)
theorem Bag.one {H H' : Hp} {b p : Addr} {n : Nat} (h : Bag H b n) (c : Chg [p] H H') (e : b ≠ p) : Bag H' b n := h.keep c (by simpa using e)
theorem Bag.some {H : Hp} {b : Addr} {n : Nat} (h : Bag H b n) : H b ≠ none := by
  obtain ⟨x, y, z, h, _⟩ := h
  rw [h]
  exact fun z => nomatch z
theorem Bag.le {H : Hp} {b : Addr} {n m : Nat} (h : Bag H b n) (e : m ≤ n) : Bag H b m := by
  obtain ⟨x, y, z, h, x0, y0, y1, z0, z1⟩ := h
  exact ⟨x, y, z, h, x0, y0, y1, z0, by omega⟩
def sp__law_draw : Sp := fun vs H Q _ => ∃ (b : Addr) (m : Int) (n : Nat), vs = [.ref b, .int m] ∧ Bag H b n ∧ 1 ≤ n ∧ 0 < m ∧ m < 10 ^ 30 ∧ ∀ (v : Int) (H' : Hp), Chg [b] H H' → Bag H' b (n - 1) → 0 ≤ v → v < m → Q (.int v) H'
theorem u_draw {H : Hp} {Q : VK} {E : XK} {b : Addr} {m : Int} {n : Nat} (hb : Bag H b n) (hn : 1 ≤ n) (h0 : 0 < m) (h1 : m < 10 ^ 30) (q : ∀ (v : Int) (H' : Hp), Chg [b] H H' → Bag H' b (n - 1) → 0 ≤ v → v < m → Q (.int v) H') : sp__law_draw ([.ref b, .int m] ++ []) H Q E := ⟨b, m, n, rfl, hb, hn, h0, h1, q⟩
def t__law_draw (K : PySem.W.Frag) : TS :=
    tSeq (tIfS (tTest (tOp oGt (tOp (rIxL K) (tVar 0) (tC (.int 0))) (tC (.int 1)))) (tSeq (tAsg (tOp oMod (tOp (rIxL K) (tVar 0) (tC (.int 0))) (tVar 1)) (gName 2))
    (tSeq (tAsg (tOp oFdiv (tOp (rIxL K) (tVar 0) (tC (.int 0))) (tVar 1)) (gSub (tVar 0) (tC (.int 0)) rSetL))
    (tRet (tVar 2)))) (tNext))
    (tSeq (tAsg (tOp oAdd (tOp (rIxL K) (tVar 0) (tC (.int 2))) (tC (.int 1))) (gSub (tVar 0) (tC (.int 2)) rSetL))
    (tSeq (tAsg (tOp oMod (tOp oPow (tOp oAdd (tOp (rIxL K) (tVar 0) (tC (.int 1))) (tOp oMul (tC (.int 7368787)) (tOp (rIxL K) (tVar 0) (tC (.int 2))))) (tC (.int 3))) (tC (.int 170141183460469231731687303715884105727))) (gName 3))
    (tSeq (tAsg (tOp oMod (tOp oPow (tOp oAdd (tVar 3) (tOp oMul (tC (.int 15485863)) (tOp (rIxL K) (tVar 0) (tC (.int 2))))) (tC (.int 3))) (tC (.int 162259276829213363391578010288127))) (gName 3))
    (tRet (tOp oMod (tOp oFdiv (tVar 3) (tC (.int 1024))) (tVar 1))))))
theorem pure__law_draw {K : PySem.W.Frag} (vs : List V) (H : Hp) (Q : VK) (E : XK) (h : sp__law_draw vs H Q E) : t__law_draw K (fin Q) (start ["bag", "many", "found", "mixed"] vs) H := by
  obtain ⟨b, m, n, rfl, ⟨x, y, z, hb, x0, y0, y1, z0, z1⟩, n1, m0, m1, q⟩ := h
  show t__law_draw K _ [some (.ref b), some (.int m), none, none] H
  unfold t__law_draw
  walk_at "w"
  refine w_iteD (fun h => ?_) (fun h => ?_)
  · walk_at "w"
    refine w_fdiv (cdivS m0 m1) ?_
    walk_at "w"
    refine w_setL hb rfl fun H1 c1 h1 => ?_
    walk_at "w"
    refine q _ H1 c1 ⟨_, _, _, h1, Int.ediv_nonneg x0 (by omega), y0, y1, z0, by omega⟩ (Int.emod_nonneg _ (by omega)) (Int.emod_lt_of_pos _ m0)
  · walk_at "w"
    refine w_setL hb rfl fun H1 c1 h1 => ?_
    have h1' : H1 b = some (HO.lst [V.int x, V.int y, V.int (z + 1)]) := h1
    clear h1
    walk_at "w"
    refine w_mul (cmulL (by decide) (by decide)) ?_
    walk_at "w"
    refine w_pow (cpow 200 (by omega) (by decide) (by decide)) ?_
    walk_at "w"
    refine w_mul (cmulL (by decide) (by decide)) ?_
    walk_at "w"
    have e0 := Int.emod_nonneg ((y + 7368787 * (z + 1)) ^ Int.toNat 3) (b := 170141183460469231731687303715884105727) (by decide)
    have e1 := Int.emod_lt_of_pos ((y + 7368787 * (z + 1)) ^ Int.toNat 3) (b := 170141183460469231731687303715884105727) (by decide)
    refine w_pow (cpow 200 (by omega) (by decide) (by decide)) ?_
    walk_at "w"
    refine w_fdiv (cdivS (by decide) (by decide)) ?_
    walk_at "w"
    exact q _ H1 c1 ⟨_, _, _, h1', x0, y0, y1, by omega, by omega⟩ (Int.emod_nonneg _ (by omega)) (Int.emod_lt_of_pos _ m0)
def sp__law_cell_at (K : PySem.W.Frag) : Sp := fun vs H Q _ => ∃ (a : Addr) (ns : List Int) (k : Int), vs = [.ref a, .int k] ∧ SqL K H a (ns.map V.int) ∧ 0 ≤ k ∧ ∀ v : Int, Q (.int v) H
def t__law_cell_at (K : PySem.W.Frag) : TS :=
    tSeq (tIfS (tTest (tOp oLt (tVar 1) (tCB (cLenQ K) (tCons (tVar 0) (tNil))))) (tRet (tOp (rIxL K) (tVar 0) (tVar 1))) (tNext))
    (tRet (tC (.int 0)))
theorem pure__law_cell_at {K : PySem.W.Frag} (vs : List V) (H : Hp) (Q : VK) (E : XK) (h : sp__law_cell_at K vs H Q E) : t__law_cell_at K (fin Q) (start ["script", "k"] vs) H := by
  obtain ⟨a, ns, k, rfl, hs, k0, q⟩ := h
  show t__law_cell_at K _ [some (.ref a), some (.int k)] H
  unfold t__law_cell_at
  walk_at "w"
  refine w_iteD (fun h => ?_) (fun h => ?_)
  · rw [List.length_map] at h
    obtain ⟨v, ev, hv⟩ := atD (xs := ns.map V.int) k0 (by rw [List.length_map]; exact h)
    obtain ⟨n, _, rfl⟩ := List.mem_map.mp hv
    walk_at "w"
    exact q n
  · walk_at "w"
    exact q 0
def sp__law_bag : Sp := fun vs H Q _ => ∃ c p : Int, vs = [.int c, .int p] ∧ 0 ≤ p ∧ p ≤ 1000 ∧ ∀ b H', H b = none → Chg [] H H' → Bag H' b (10 ^ 12) → Q (.ref b) H'
def t__law_bag  : TS :=
    tRet (tLst (tCons (tCB cMax (tCons (tC (.int 0)) (tCons (tOp oSub (tVar 0) (tOp oPow (tC (.int 10)) (tC (.int 18)))) (tNil)))) (tCons (tOp oAdd (tOp oMod (tVar 0) (tC (.int 170141183460469231731687303715884105727))) (tOp oMul (tC (.int 982451653)) (tVar 1))) (tCons (tC (.int 0)) (tNil)))))
theorem pure__law_bag {K : PySem.W.Frag} (vs : List V) (H : Hp) (Q : VK) (E : XK) (h : sp__law_bag vs H Q E) : t__law_bag (fin Q) (start ["cell", "place"] vs) H := by
  obtain ⟨c, p, rfl, p0, p1, q⟩ := h
  show t__law_bag _ [some (.int c), some (.int p)] H
  unfold t__law_bag
  walk_at "w"
  refine w_pow (cpow 4 (by decide) (by decide) (by decide)) ?_
  walk_at "w"
  refine w_mul (cmulL (by decide) (by decide)) ?_
  walk_at "w"
  refine k_lst (by walk_at "sz") fun b H1 nb c1 hb => ?_
  have e0 := Int.emod_nonneg c (b := 170141183460469231731687303715884105727) (by decide)
  have e1 := Int.emod_lt_of_pos c (b := 170141183460469231731687303715884105727) (by decide)
  refine q b H1 nb c1 ⟨_, _, _, hb, ?_, by omega, by omega, by omega, by omega⟩
  split <;> omega
end
section
theorem len_append (x y : Str) : (x ++ y).length = x.length + y.length := Array.size_append
end
section
def Stp.numsIn (B : Int) : Stp → Prop
  | .cell a b => a.numsIn B ∧ b.numsIn B
  | .give _ a => a.numsIn B
  | .fork _ a => a.numsIn B
  | .call _ a => a.numsIn B
  | .wait => True
  | .skip a k => a.numsIn B ∧ k ≤ 100
end
section
theorem tl_lb : tlS "[" = [91] := by decide +kernel
theorem tl_rb : tlS "]" = [93] := by decide +kernel
theorem tl_blk : tlS " " = [32] := by decide +kernel
theorem tl_arg : tlS "arg" = [97, 114, 103] := by decide +kernel
theorem tl_cell : tlS "cell" = [99, 101, 108, 108] := by decide +kernel
theorem tl_add : tlS "add" = [97, 100, 100] := by decide +kernel
theorem tl_less : tlS "less" = [108, 101, 115, 115] := by decide +kernel
theorem tl_least : tlS "least" = [108, 101, 97, 115, 116] := by decide +kernel
theorem tl_give : tlS "give" = [103, 105, 118, 101] := by decide +kernel
theorem tl_fork : tlS "fork" = [102, 111, 114, 107] := by decide +kernel
theorem tl_call : tlS "call" = [99, 97, 108, 108] := by decide +kernel
theorem tl_skip : tlS "skip" = [115, 107, 105, 112] := by decide +kernel
theorem tl_wait : tlS "wait" = [119, 97, 105, 116] := by decide +kernel
theorem tl_br (w p : Str) : tlS (w ++ "[" ++ p ++ "]") = tlS w ++ (91 :: (tlS p ++ [93])) := by
  rw [tl_app, tl_app, tl_app, tl_lb, tl_rb]
  simp
theorem sg_num {i : Int} {c : Nat} (h : c ∈ tlS (Str.ofString (toString i))) : c = 45 ∨ isFig c = true := by
  rcases sh_int i with ⟨n, _, e⟩ | ⟨n, _, e⟩
  · rw [e] at h; exact .inr (numL_fig h)
  · rw [e] at h
    rcases List.mem_cons.mp h with h | h
    · exact .inl h
    · exact .inr (numL_fig h)
theorem fig_range {c : Nat} (h : c = 45 ∨ isFig c = true) : c = 45 ∨ (48 ≤ c ∧ c ≤ 57) := by
  rcases h with h | h
  · exact .inl h
  · unfold isFig at h
    rw [Bool.and_eq_true, decide_eq_true_eq, decide_eq_true_eq] at h
    exact .inr h
theorem num_solid (i : Int) : Solid (tlS (Str.ofString (toString i))) := solid_of fun c hc => by
  have := fig_range (sg_num hc)
  omega
def plainW (w : Tx) : Prop := ∀ c ∈ w, c ≠ 91 ∧ c ≠ 93 ∧ c ≠ 32
theorem pl_cell : plainW (tlS "cell") := by rw [tl_cell]; unfold plainW; decide
theorem pl_add : plainW (tlS "add") := by rw [tl_add]; unfold plainW; decide
theorem pl_less : plainW (tlS "less") := by rw [tl_less]; unfold plainW; decide
theorem pl_least : plainW (tlS "least") := by rw [tl_least]; unfold plainW; decide
theorem pl_arg : plainW (tlS "arg") := by rw [tl_arg]; unfold plainW; decide
theorem pl_give : plainW (tlS "give") := by rw [tl_give]; unfold plainW; decide
theorem pl_fork : plainW (tlS "fork") := by rw [tl_fork]; unfold plainW; decide
theorem pl_call : plainW (tlS "call") := by rw [tl_call]; unfold plainW; decide
theorem pl_skip : plainW (tlS "skip") := by rw [tl_skip]; unfold plainW; decide
theorem pl_wait : plainW (tlS "wait") := by rw [tl_wait]; unfold plainW; decide
theorem br_solid {w p : Str} (hw : plainW (tlS w)) (hp : Inner (tlS p)) : Solid (tlS (w ++ "[" ++ p ++ "]")) := by
  rw [tl_br]
  exact (solid_of hw).app hp.br
theorem two_inner {a b : Str} (ha : Solid (tlS a)) (hb : Solid (tlS b)) : Inner (tlS (a ++ " " ++ b)) := by
  rw [tl_app, tl_app, tl_blk]
  exact (ha.inner.app inner_blank).app hb.inner
theorem shE_solid : ∀ e : Ex, Solid (tlS (shE e))
  | .num i => num_solid i
  | .arg => solid_of pl_arg
  | .cell a => br_solid pl_cell (shE_solid a).inner
  | .add a b => br_solid pl_add (two_inner (shE_solid a) (shE_solid b))
  | .less a b => br_solid pl_less (two_inner (shE_solid a) (shE_solid b))
  | .least a b => br_solid pl_least (two_inner (shE_solid a) (shE_solid b))
/-- no sign that parts steps or helpers -/
def sgn (l : Tx) : Prop := ∀ c ∈ l, c ≠ 44 ∧ c ≠ 58 ∧ c ≠ 59
theorem sgn.app {a b : Tx} (h1 : sgn a) (h2 : sgn b) : sgn (a ++ b) := fun c hc => (List.mem_append.mp hc).elim (h1 c) (h2 c)
theorem sgn_lit {a : Tx} (h : (a.all fun c => decide (c ≠ 44) && decide (c ≠ 58) && decide (c ≠ 59)) = true) : sgn a := fun c hc => by
  have := List.all_eq_true.mp h c hc
  rw [Bool.and_eq_true, Bool.and_eq_true, decide_eq_true_eq, decide_eq_true_eq, decide_eq_true_eq] at this
  exact ⟨this.1.1, this.1.2, this.2⟩
theorem sgn_br {w p : Str} (h1 : sgn (tlS w)) (h2 : sgn (tlS p)) : sgn (tlS (w ++ "[" ++ p ++ "]")) := by
  rw [tl_app, tl_app, tl_app, tl_lb, tl_rb]
  exact ((h1.app (sgn_lit (by decide))).app h2).app (sgn_lit (by decide))
theorem sgn_two {a b : Str} (h1 : sgn (tlS a)) (h2 : sgn (tlS b)) : sgn (tlS (a ++ " " ++ b)) := by
  rw [tl_app, tl_app, tl_blk]
  exact (h1.app (sgn_lit (by decide))).app h2
theorem sgn_num (i : Int) : sgn (tlS (Str.ofString (toString i))) := fun c hc => by
  have := fig_range (sg_num hc)
  omega
theorem shE_sgn : ∀ e : Ex, sgn (tlS (shE e))
  | .num i => sgn_num i
  | .arg => by show sgn (tlS "arg"); rw [tl_arg]; exact sgn_lit (by decide)
  | .cell a => sgn_br (by rw [tl_cell]; exact sgn_lit (by decide)) (shE_sgn a)
  | .add a b => sgn_br (by rw [tl_add]; exact sgn_lit (by decide)) (sgn_two (shE_sgn a) (shE_sgn b))
  | .less a b => sgn_br (by rw [tl_less]; exact sgn_lit (by decide)) (sgn_two (shE_sgn a) (shE_sgn b))
  | .least a b => sgn_br (by rw [tl_least]; exact sgn_lit (by decide)) (sgn_two (shE_sgn a) (shE_sgn b))
theorem lb_one : ("[" : Str) = ⟨#[91]⟩ := by decide +kernel
theorem takeW {w : Tx} {c : Nat} (h : c ∉ w) (r : Tx) : (w ++ c :: r).takeWhile (· != c) = w := by
  rw [List.takeWhile_append_of_pos (fun d hd => by
    have : d ≠ c := fun z => h (z ▸ hd)
    simp [this]), List.takeWhile_cons_of_neg (by simp), List.append_nil]
theorem ptdS_join {x p : Str} {ps : List Str} (e : tlS x = tlS p ++ (ps.map tlS).flatMap (fun q => 32 :: q)) (h : ∀ q ∈ p :: ps, Solid (tlS q)) : ptdS x = some (p :: ps) := by
  show (ptd 0 (tlS x)).map (fun ps => ps.map stx) = _
  rw [e, ptd_join fun q hq => by
    obtain ⟨r, hr, rfl⟩ := List.mem_map.mp (show q ∈ (p :: ps).map tlS from hq)
    exact h r hr]
  show some ((tlS p :: ps.map tlS).map stx) = _
  rw [List.map_cons, List.map_map]
  have : ∀ l : List Str, l.map (stx ∘ tlS) = l := fun l => by
    conv => rhs; rw [← List.map_id l]
    exact List.map_congr_left fun a _ => stx_of a
  rw [this, stx_of]
theorem rb_last {x : Str} {l : Tx} (e : tlS x = l ++ [93]) : cutS x (some (-1)) none = "]" := by
  rw [cutS_last, e, List.length_append]
  show stx (List.drop (l.length + 1 - 1) (l ++ [93])) = _
  rw [Nat.add_sub_cancel, List.drop_left]
  decide +kernel
theorem rdE_br {n : Nat} {w p : Str} (hw : 91 ∉ tlS w) (hp : partsOf w ≠ none) (ha : w ≠ "arg") : rdE (n + 1) (w ++ "[" ++ p ++ "]") = (ptdS p).bind fun ps => (mapO (rdE n) ps).map fun ds => PyData.tuple (.str w :: ds) := by
  have e := tl_br w p
  generalize w ++ "[" ++ p ++ "]" = x at e ⊢
  have e2 : tlS x = (tlS w ++ 91 :: tlS p) ++ [93] := by rw [e]; simp
  have h1 : x ≠ "arg" := fun z => by
    have : 93 ∈ tlS x := by rw [e2]; simp
    rw [z, tl_arg] at this
    revert this
    decide
  have h3 : (Txt.partition x "[").1 = w := by
    rw [lb_one, partition_at (c := 91) (by show 91 ∈ tlS x; rw [e]; simp)]
    show stx ((tlS x).takeWhile (· != 91)) = w
    rw [e, takeW hw, stx_of]
  have h4 : cutS x (some ((w.length : Int) + 1)) (some (-1)) = p := by
    have := cutS_mid x (w.length + 1)
    rw [Int.natCast_add] at this
    rw [show (w.length : Int) + 1 = (w.length : Int) + ((1 : Nat) : Int) from rfl, this, e2, List.length_append]
    show stx (((tlS w ++ 91 :: tlS p ++ [93]).take ((tlS w ++ 91 :: tlS p).length + 1 - 1)).drop (w.length + 1)) = p
    rw [Nat.add_sub_cancel, List.take_left, tl_len, ← List.drop_drop, List.drop_left]
    exact stx_of p
  rw [rdE, if_neg h1, if_neg (fun z => z (rb_last e2)), h3, if_neg (fun z => z.elim hp ha), h4]
theorem rdE_num {n : Nat} {i : Int} (h : i.natAbs < 10 ^ 3200) : rdE (n + 1) (Str.ofString (toString i)) = some (.int i) := by
  have h0 : ∀ c ∈ tlS (Str.ofString (toString i)), c < 60 := fun c hc => by
    have := fig_range (sg_num hc)
    omega
  have h5 := rdN_sh h
  generalize Str.ofString (toString i) = x at h0 h5 ⊢
  have h1 : x ≠ "arg" := fun z => by
    have := h0 97 (by rw [z, tl_arg]; decide)
    omega
  have h2 : cutS x (some (-1)) none ≠ "]" := fun z => by
    rw [cutS_last, show ("]" : Str) = stx [93] by decide +kernel] at z
    have z := stx_inj z
    have := h0 93 (List.mem_of_mem_drop (i := (tlS x).length - 1) (by rw [z]; simp))
    omega
  rw [rdE, if_neg h1, if_pos h2, h5]
  rfl
theorem bnd_of {i B : Int} (h : -B ≤ i ∧ i ≤ B) (hB : B < 10 ^ 3200) : i.natAbs < 10 ^ 3200 := by
  have h10 : ((10 ^ 3200 : Nat) : Int) = 10 ^ 3200 := by norm_cast
  generalize (10 : Nat) ^ 3200 = M at h10 ⊢
  rw [← h10] at hB
  omega
theorem mapO_one {α β : Type} {f : α → Option β} {a : α} {b : β} (h : f a = some b) : mapO f [a] = some [b] := by
  show (f a).bind _ = _
  rw [h]
  rfl
theorem mapO_two {α β : Type} {f : α → Option β} {a a2 : α} {b b2 : β} (h : f a = some b) (h2 : f a2 = some b2) : mapO f [a, a2] = some [b, b2] := by
  show (f a).bind _ = _
  rw [h]
  show (mapO f [a2]).bind _ = _
  rw [mapO_one h2]
  rfl
theorem mapO_all {α β γ : Type} {f : α → Option β} {g : γ → α} {d : γ → β} : ∀ {l : List γ}, (∀ x ∈ l, f (g x) = some (d x)) → mapO f (l.map g) = some (l.map d)
  | [], _ => rfl
  | x :: l, h => by
    show (f (g x)).bind _ = _
    rw [h x (by simp)]
    show (mapO f (l.map g)).bind _ = _
    rw [mapO_all fun y hy => h y (List.mem_cons_of_mem _ hy)]
    rfl
theorem ptdS_one {x : Str} (h : Solid (tlS x)) : ptdS x = some [x] := ptdS_join (ps := []) (by simp) (by simpa using h)
theorem ptdS_two {a b : Str} (h : Solid (tlS a)) (h2 : Solid (tlS b)) : ptdS (a ++ " " ++ b) = some [a, b] := ptdS_join (ps := [b]) (by
  rw [tl_app, tl_app, tl_blk]
  simp) (by simp [h, h2])
theorem ptdS_three {a b c : Str} (h : Solid (tlS a)) (h2 : Solid (tlS b)) (h3 : Solid (tlS c)) : ptdS (a ++ " " ++ b ++ " " ++ c) = some [a, b, c] := ptdS_join (ps := [b, c]) (by
  rw [tl_app, tl_app, tl_app, tl_app, tl_blk]
  simp) (by simp [h, h2, h3])
theorem rdE_sh {B : Int} (hB : B < 10 ^ 3200) : ∀ (e : Ex) (n : Nat), e.deep ≤ n → e.numsIn B → rdE n (shE e) = some e.data
  | e, 0, h, _ => by have := e.deep_pos; omega
  | .num i, n + 1, _, hn => rdE_num (bnd_of hn hB)
  | .arg, n + 1, _, _ => by rw [rdE]; exact if_pos rfl
  | .cell a, n + 1, h, hn => by
    show rdE (n + 1) ("cell" ++ "[" ++ shE a ++ "]") = _
    rw [rdE_br (fun z => (pl_cell _ z).1 rfl) (by decide +kernel) (by decide +kernel), ptdS_one (shE_solid a)]
    show (mapO (rdE n) [shE a]).map _ = _
    rw [mapO_one (rdE_sh hB a n (by simp only [Ex.deep] at h; omega) hn)]
    rfl
  | .add a b, n + 1, h, hn => by
    show rdE (n + 1) ("add" ++ "[" ++ (shE a ++ " " ++ shE b) ++ "]") = _
    rw [rdE_br (fun z => (pl_add _ z).1 rfl) (by decide +kernel) (by decide +kernel), ptdS_two (shE_solid a) (shE_solid b)]
    show (mapO (rdE n) [shE a, shE b]).map _ = _
    rw [mapO_two (rdE_sh hB a n (by simp only [Ex.deep] at h; omega) hn.1) (rdE_sh hB b n (by simp only [Ex.deep] at h; omega) hn.2)]
    rfl
  | .less a b, n + 1, h, hn => by
    show rdE (n + 1) ("less" ++ "[" ++ (shE a ++ " " ++ shE b) ++ "]") = _
    rw [rdE_br (fun z => (pl_less _ z).1 rfl) (by decide +kernel) (by decide +kernel), ptdS_two (shE_solid a) (shE_solid b)]
    show (mapO (rdE n) [shE a, shE b]).map _ = _
    rw [mapO_two (rdE_sh hB a n (by simp only [Ex.deep] at h; omega) hn.1) (rdE_sh hB b n (by simp only [Ex.deep] at h; omega) hn.2)]
    rfl
  | .least a b, n + 1, h, hn => by
    show rdE (n + 1) ("least" ++ "[" ++ (shE a ++ " " ++ shE b) ++ "]") = _
    rw [rdE_br (fun z => (pl_least _ z).1 rfl) (by decide +kernel) (by decide +kernel), ptdS_two (shE_solid a) (shE_solid b)]
    show (mapO (rdE n) [shE a, shE b]).map _ = _
    rw [mapO_two (rdE_sh hB a n (by simp only [Ex.deep] at h; omega) hn.1) (rdE_sh hB b n (by simp only [Ex.deep] at h; omega) hn.2)]
    rfl
/-- what a step must be to be read back -/
def Stp.rd (B : Int) : Stp → Prop
  | .cell a b => a.deep ≤ 5 ∧ b.deep ≤ 5 ∧ a.numsIn B ∧ b.numsIn B
  | .give x a => nameS x = true ∧ a.deep ≤ 5 ∧ a.numsIn B
  | .fork x a => nameS x = true ∧ a.deep ≤ 5 ∧ a.numsIn B
  | .call x a => nameS x = true ∧ a.deep ≤ 5 ∧ a.numsIn B
  | .wait => True
  | .skip a k => a.deep ≤ 5 ∧ a.numsIn B ∧ -B ≤ k ∧ k ≤ B
theorem low_range {x : Str} (h : nameS x = true) {c : Nat} (hc : c ∈ tlS x) : 97 ≤ c ∧ c ≤ 122 := by
  have := of_decide_eq_true ((nameS_iff.mp h).2.2 c hc)
  have e : letters.cps.toList = [97, 98, 99, 100, 101, 102, 103, 104, 105, 106, 107, 108, 109, 110, 111, 112, 113, 114, 115, 116, 117, 118, 119, 120, 121, 122] := by decide +kernel
  rw [e] at this
  simp only [List.mem_cons, List.not_mem_nil, or_false] at this
  omega
theorem name_solid {x : Str} (h : nameS x = true) : Solid (tlS x) := solid_of fun c hc => by
  have := low_range h hc
  omega
theorem name_sgn {x : Str} (h : nameS x = true) : sgn (tlS x) := fun c hc => by
  have := low_range h hc
  omega
theorem rdS_sh {B : Int} (hB : B < 10 ^ 3200) {s : Stp} (h : s.rd B) : rdS (shS s) = some s.data := by
  unfold rdS
  cases s with
  | cell a b =>
    show (ptdS ("cell" ++ " " ++ shE a ++ " " ++ shE b)).bind rdSw = _
    rw [ptdS_three (solid_of pl_cell) (shE_solid a) (shE_solid b)]
    show rdS3 "cell" (shE a) (shE b) = _
    unfold rdS3
    rw [if_pos rfl, rdE_sh hB a 5 h.1 h.2.2.1, rdE_sh hB b 5 h.2.1 h.2.2.2]
    rfl
  | give x a =>
    show (ptdS ("give" ++ " " ++ x ++ " " ++ shE a)).bind rdSw = _
    rw [ptdS_three (solid_of pl_give) (name_solid h.1) (shE_solid a)]
    show rdS3 "give" x (shE a) = _
    unfold rdS3
    rw [if_neg (by decide +kernel), if_neg (by decide +kernel), rdE_sh hB a 5 h.2.1 h.2.2]
    rfl
  | fork x a =>
    show (ptdS ("fork" ++ " " ++ x ++ " " ++ shE a)).bind rdSw = _
    rw [ptdS_three (solid_of pl_fork) (name_solid h.1) (shE_solid a)]
    show rdS3 "fork" x (shE a) = _
    unfold rdS3
    rw [if_neg (by decide +kernel), if_neg (by decide +kernel), rdE_sh hB a 5 h.2.1 h.2.2]
    rfl
  | call x a =>
    show (ptdS ("call" ++ " " ++ x ++ " " ++ shE a)).bind rdSw = _
    rw [ptdS_three (solid_of pl_call) (name_solid h.1) (shE_solid a)]
    show rdS3 "call" x (shE a) = _
    unfold rdS3
    rw [if_neg (by decide +kernel), if_neg (by decide +kernel), rdE_sh hB a 5 h.2.1 h.2.2]
    rfl
  | wait =>
    show (ptdS "wait").bind rdSw = _
    rw [ptdS_one (solid_of pl_wait)]
    show (if ("wait" : Str) = "wait" then some (PyData.tuple [.str "wait"]) else none) = some (PyData.tuple [.str "wait"])
    exact if_pos rfl
  | skip a k =>
    show (ptdS ("skip" ++ " " ++ shE a ++ " " ++ Str.ofString (toString k))).bind rdSw = _
    rw [ptdS_three (solid_of pl_skip) (shE_solid a) (num_solid k)]
    show rdS3 "skip" (shE a) (Str.ofString (toString k)) = _
    unfold rdS3
    rw [if_neg (by decide +kernel), if_pos rfl, rdE_sh hB a 5 h.1 h.2.1, rdN_sh (bnd_of h.2.2 hB)]
    rfl
theorem sgn_three {w a b : Str} (h1 : sgn (tlS w)) (h2 : sgn (tlS a)) (h3 : sgn (tlS b)) : sgn (tlS (w ++ " " ++ a ++ " " ++ b)) := by
  rw [tl_app, tl_app, tl_app, tl_app, tl_blk]
  exact (((h1.app (sgn_lit (by decide))).app h2).app (sgn_lit (by decide))).app h3
theorem shS_sgn {B : Int} {s : Stp} (h : s.rd B) : sgn (tlS (shS s)) := by
  cases s with
  | cell a b => exact sgn_three (by rw [tl_cell]; exact sgn_lit (by decide)) (shE_sgn a) (shE_sgn b)
  | give x a => exact sgn_three (by rw [tl_give]; exact sgn_lit (by decide)) (name_sgn h.1) (shE_sgn a)
  | fork x a => exact sgn_three (by rw [tl_fork]; exact sgn_lit (by decide)) (name_sgn h.1) (shE_sgn a)
  | call x a => exact sgn_three (by rw [tl_call]; exact sgn_lit (by decide)) (name_sgn h.1) (shE_sgn a)
  | wait => show sgn (tlS "wait"); rw [tl_wait]; exact sgn_lit (by decide)
  | skip a k => exact sgn_three (by rw [tl_skip]; exact sgn_lit (by decide)) (shE_sgn a) (sgn_num k)
theorem com_tl : TL.tl ", " = 44 :: [32] := by decide +kernel
theorem sem_tl : TL.tl "; " = 59 :: [32] := by decide +kernel
theorem col_one : (":" : Str) = ⟨#[58]⟩ := by decide +kernel
theorem tl_col : tlS ":" = [58] := by decide +kernel
theorem tl_colb : tlS ": " = [58, 32] := by decide +kernel
theorem part_col {x n : Str} {r : Tx} (e : tlS x = tlS n ++ 58 :: r) (h : 58 ∉ tlS n) : Txt.partition x ":" = (n, (":" : Str), stx r) := by
  rw [col_one, partition_at (c := 58) (by show 58 ∈ tlS x; rw [e]; simp)]
  show (stx ((tlS x).takeWhile (· != 58)), _, stx ((tlS x).drop (((tlS x).takeWhile (· != 58)).length + 1))) = _
  rw [e, takeW h, stx_of, ← List.drop_drop, List.drop_left]
  rfl
theorem col_ne : ((":" : Str) = "") = False := eq_false (by decide +kernel)
theorem emp_stx : stx [] = "" := empty_stx.symm
theorem rdH_sh {B : Int} (hB : B < 10 ^ 3200) {r : Str × List Stp} (hn : nameS r.1 = true) (h : ∀ s ∈ r.2, s.rd B) : rdH (shH r) = some (rowD r) := by
  obtain ⟨n, ss⟩ := r
  have hn : nameS n = true := hn
  have h : ∀ s ∈ ss, s.rd B := h
  have n58 : 58 ∉ tlS n := fun z => (name_sgn hn 58 z).2.1 rfl
  by_cases h0 : ss = []
  · subst h0
    have e : shH (n, []) = n ++ ":" := if_pos rfl
    have p := part_col (x := shH (n, [])) (n := n) (r := []) (by rw [e, tl_app, tl_col]) n58
    unfold rdH
    rw [p]
    rw [if_neg (fun z => z.elim (fun z => by rw [← col_ne]; exact z) fun z => z.1 emp_stx), if_pos emp_stx]
    rfl
  · have e : shH (n, ss) = n ++ ": " ++ Txt.join ", " (ss.map shS) := if_neg h0
    have p := part_col (x := shH (n, ss)) (n := n) (r := 32 :: tlS (Txt.join ", " (ss.map shS))) (by rw [e, tl_app, tl_app, tl_colb]; simp) n58
    unfold rdH
    rw [p]
    generalize hj : Txt.join ", " (ss.map shS) = j
    have ne : stx (32 :: tlS j) ≠ "" := fun z => by rw [empty_stx] at z; exact absurd (stx_inj z) (by simp)
    rw [if_neg (fun z => z.elim (fun z => by rw [← col_ne]; exact z) fun z => z.2 (by rw [stx_list]; rfl)), if_neg ne]
    rw [show (some (1 : Int)) = some ((1 : Nat) : Int) from rfl, cutS_drop, tl_stx]
    show (mapO rdS (Txt.split (stx (tlS j)) ", ")).map _ = _
    rw [stx_of, ← hj, TL.split_join com_tl (by decide +kernel) (by simpa using h0) fun p hp => by
      obtain ⟨s, hs, rfl⟩ := List.mem_map.mp hp
      exact fun z => (shS_sgn (h s hs) 44 z).1 rfl]
    rw [mapO_all fun s hs => rdS_sh hB (h s hs)]
    rfl
theorem join_nos {c : Nat} {y : Str} (hy : c ∉ tlS y) : ∀ {ps : List Str}, (∀ p ∈ ps, c ∉ tlS p) → c ∉ tlS (Txt.join y ps)
  | ps, h => by
    rw [TL.join_eq]
    induction ps with
    | nil => exact fun z => by cases z
    | cons p r ih =>
      cases r with
      | nil => exact h p (by simp)
      | cons q r =>
        show c ∉ tlS (p ++ y ++ Str.join y (q :: r))
        rw [tl_app, tl_app]
        intro z
        rcases List.mem_append.mp z with z | z
        · rcases List.mem_append.mp z with z | z
          · exact h p (by simp) z
          · exact hy z
        · exact ih (fun p hp => h p (List.mem_cons_of_mem _ hp)) z
theorem shH_no {B : Int} {r : Str × List Stp} (hn : nameS r.1 = true) (h : ∀ s ∈ r.2, s.rd B) : 59 ∉ tlS (shH r) := by
  obtain ⟨n, ss⟩ := r
  have n59 : 59 ∉ tlS n := fun z => (name_sgn hn 59 z).2.2 rfl
  unfold shH
  split
  · rw [tl_app, tl_col]
    intro z
    rcases List.mem_append.mp z with z | z
    · exact n59 z
    · revert z; decide
  · rw [tl_app, tl_app, tl_colb]
    intro z
    rcases List.mem_append.mp z with z | z
    · rcases List.mem_append.mp z with z | z
      · exact n59 z
      · revert z; decide
    · refine join_nos (by decide +kernel) (fun p hp => ?_) z
      obtain ⟨s, hs, rfl⟩ := List.mem_map.mp hp
      exact fun z => (shS_sgn (h s hs) 59 z).2.2 rfl
theorem shH_ne (r : Str × List Stp) : 58 ∈ tlS (shH r) := by
  unfold shH
  split
  · rw [tl_app, tl_col]; simp
  · rw [tl_app, tl_app, tl_colb]; simp
theorem join_mem {c : Nat} {y p : Str} (hc : c ∈ tlS p) {ps : List Str} : c ∈ tlS (Txt.join y (p :: ps)) := by
  rw [TL.join_eq]
  cases ps with
  | nil => exact hc
  | cons q r =>
    show c ∈ tlS (p ++ y ++ Str.join y (q :: r))
    rw [tl_app, tl_app]
    exact List.mem_append_left _ (List.mem_append_left _ hc)
theorem rdRows_sh {B : Int} (hB : B < 10 ^ 3200) {p : Prg} (h : ∀ r ∈ p, nameS r.1 = true ∧ ∀ s ∈ r.2, s.rd B) : rdRows (shP p) = some (p.map rowD) := by
  unfold rdRows shP
  cases p with
  | nil => exact if_pos (by decide +kernel)
  | cons r p =>
    have ne : Txt.join "; " ((r :: p).map shH) ≠ "" := fun z => by
      have := join_mem (y := "; ") (ps := p.map shH) (shH_ne r)
      rw [List.map_cons] at z
      rw [z] at this
      cases this
    rw [if_neg ne, TL.split_join sem_tl (by decide +kernel) (by simp) fun q hq => by
      obtain ⟨s, hs, rfl⟩ := List.mem_map.mp hq
      exact shH_no (h s hs).1 (h s hs).2]
    exact mapO_all fun s hs => rdH_sh hB (h s hs).1 (h s hs).2
end
end Fg
namespace Fg
open PySem PySem.Spec PyProof.Rows L2
local macro_rules | `(tactic| walk_at "hp") => `(tactic| first
  | assumption
  | exact upd_same
  | (refine Chg.at (by assumption) ?_; walk_at "hp")
  | (refine Chg.at1 (by assumption) ?_ (by walk_at "ne"); walk_at "hp"))
local macro_rules | `(tactic| walk_at "ne") => `(tactic| first | assumption | (apply Ne.symm; assumption))
local macro_rules | `(tactic| walk_at "sq") => `(tactic| first | assumption | exact sqL (by walk_at "hp") | (refine Chg.seq (by assumption) ?_; walk_at "sq"))
local macro_rules | `(tactic| walk_at "sz") => `(tactic| first | assumption | exact Nat.zero_le _ | (simp only [List.length_cons, List.length_nil]; decide) | exact Nat.le_trans (by first | omega | (simp; done) | (simp; omega)) (show 100000 ≤ sizeLine by decide) | exact Nat.lt_of_lt_of_le (by first | omega | (simp; done) | (simp; omega)) (show 100000 ≤ sizeLine by decide))
local macro_rules | `(tactic| walk_at "ix") => `(tactic| first | exact at0 | exact at1 | exact at2 | exact at3 | assumption | exact rfl | walk_at "ix2")
local macro_rules | `(tactic| walk_at "ix2") => `(tactic| fail)
local macro_rules | `(tactic| walk_at "num") => `(tactic| first | assumption | omega | decide | walk_at "num2")
local macro_rules | `(tactic| walk_at "num2") => `(tactic| fail)
local macro_rules | `(tactic| walk_at "im") => `(tactic| first | assumption | exact R.non (S := fun _ => False) | exact R.bl (S := fun _ => False) _ | exact R.int (S := fun _ => False) _ | exact R.str (S := fun _ => False) _ | (refine R.im (by assumption) ?_; walk_at "im"))
local macro_rules | `(tactic| walk_at "r") => `(tactic| first | assumption | exact R.non (S := fun _ => False) | exact R.bl (S := fun _ => False) _ | exact R.int (S := fun _ => False) _ | exact R.str (S := fun _ => False) _ | (refine R.same (by assumption) ?_; walk_at "r") | exact R.any (by walk_at "im"))
local macro_rules | `(tactic| walk_at "chg") => `(tactic| first
  | exact Chg.refl
  | assumption
  | (refine Chg.same ?_ (by assumption); walk_at "chg")
  | (refine Chg.both ?_ (by assumption); walk_at "chg")
  | (refine Chg.pre (by assumption) ?_; walk_at "chg"))
local macro_rules | `(tactic| walk_at "w1") => `(tactic| first
  | with_reducible apply w_seq
  | with_reducible apply w_asg
  | ((with_reducible apply w_var); (focus (exact rfl)))
  | with_reducible apply w_c
  | with_reducible apply w_op
  | with_reducible apply w_cons
  | with_reducible apply w_nil
  | with_reducible apply w_gName
  | with_reducible apply w_if
  | with_reducible apply w_test
  | with_reducible apply w_B
  | with_reducible apply w_isbl
  | with_reducible apply w_retN
  | with_reducible apply w_next
  | with_reducible apply w_drop
  | with_reducible apply w_cb
  | with_reducible apply w_call
  | with_reducible apply w_callN
  | with_reducible apply w_bm
  | with_reducible apply w_bm0
  | ((with_reducible apply w_tyL); (focus (walk_at "hp"; done)))
  | with_reducible apply w_dput
  | with_reducible apply w_m1
  | with_reducible apply w_isstr
  | with_reducible apply w_and
  | with_reducible apply w_or
  | with_reducible apply w_not
  | with_reducible apply w_andV
  | with_reducible apply w_orV
  | with_reducible apply w_notV
  | with_reducible apply w_ifE
  | with_reducible apply w_chain
  | with_reducible apply w_un
  | with_reducible apply w_neg
  | with_reducible apply w_add
  | with_reducible apply w_sub
  | ((with_reducible apply w_mod); (focus (walk_at "num"; done)))
  | ((with_reducible apply w_mul); (focus (walk_at "num"; done)))
  | ((with_reducible apply w_fdiv); (focus (walk_at "num"; done)))
  | ((with_reducible apply w_pow); (focus (walk_at "num"; done)))
  | with_reducible apply w_lt
  | with_reducible apply w_le
  | with_reducible apply w_gt
  | with_reducible apply w_ge
  | with_reducible apply w_ltS
  | with_reducible apply w_geS
  | with_reducible apply w_inC
  | with_reducible apply w_notInC
  | with_reducible apply w_isN
  | with_reducible apply w_notN
  | with_reducible apply w_isB
  | with_reducible apply w_notB
  | ((with_reducible apply w_addS); (focus (walk_at "sz"; done)))
  | ((with_reducible apply w_ixL); (focus (walk_at "sq"; done)); (focus (walk_at "ix"; done)))
  | ((with_reducible apply w_ixT); (focus (walk_at "hp"; done)); (focus (walk_at "ix"; done)))
  | ((with_reducible apply w_ixS); (focus (walk_at "sz"; done)); (focus (walk_at "ix"; done)))
  | with_reducible apply w_gSub
  | ((with_reducible apply w_gTup); (focus (walk_at "hp"; done)); (focus (exact rfl)))
  | with_reducible apply w_gCons
  | with_reducible apply w_gNil
  | ((with_reducible apply w_aug); (focus (exact rfl)))
  | with_reducible apply w_ipI
  | ((with_reducible apply w_eq); (focus (exact rfl)))
  | ((with_reducible apply w_ne); (focus (exact rfl)))
  | with_reducible apply w_max
  | with_reducible apply w_min
  | with_reducible apply w_abs
  | with_reducible apply w_intB
  | with_reducible apply w_intI
  | with_reducible apply w_tup1
  | with_reducible apply w_lst1
  | with_reducible apply w_sl
  | with_reducible apply w_part
  | with_reducible apply w_noPart
  | with_reducible apply w_isint
  | ((with_reducible apply w_slS); (focus (walk_at "sz"; done)))
  | with_reducible apply w_iteT
  | with_reducible apply w_iteF
  | with_reducible apply w_iteN
  | ((with_reducible apply w_iteYes); (focus (exact rfl)))
  | ((with_reducible apply w_iteNo); (focus (exact rfl)))
  | ((with_reducible apply w_lenL); (focus (walk_at "sq"; done)))
  | ((with_reducible apply w_lenT); (focus (walk_at "hp"; done)))
  | ((with_reducible apply w_lenS); (focus (walk_at "sz"; done)))
  | with_reducible apply w_lc
  | with_reducible apply w_for
  | with_reducible apply w_yes
  | ((with_reducible apply w_wipe); (focus (exact rfl)))
  | with_reducible apply w_iList
  | with_reducible apply w_iTup
  | with_reducible apply w_iStr
  | with_reducible apply w_iRng1
  | with_reducible apply w_iRng2
  | with_reducible apply w_iZip
  | with_reducible apply w_iEnum
  | ((with_reducible apply d_iList); (focus (walk_at "sq"; done)))
  | ((with_reducible apply d_iTup); (focus (walk_at "hp"; done)))
  | with_reducible apply d_iStr
  | ((with_reducible apply d_iRng1); (focus (walk_at "num"; done)); (focus (walk_at "num"; done)))
  | ((with_reducible apply d_iRng2); (focus (walk_at "num"; done)); (focus (walk_at "num"; done)); (focus (walk_at "num"; done)); (focus (walk_at "num"; done)))
  | ((with_reducible apply d_iZip); (focus (walk_at "sq"; done)); (focus (walk_at "sq"; done)))
  | ((with_reducible apply d_iEnum); (focus (walk_at "sq"; done)))
  | walk_at "w2")
local macro_rules | `(tactic| walk_at "w2") => `(tactic| fail)
local macro_rules | `(tactic| walk_at "wn") => `(tactic| repeat walk_at "w1")
local macro_rules | `(tactic| walk_at "w") => `(tactic| repeat (first | walk_at "w1" | with_reducible apply w_ret))
local macro_rules | `(tactic| walk_at "w2") => `(tactic| first
  | ((with_reducible apply w_isInt); (focus (walk_at "r"; done)))
  | ((with_reducible apply w_isBool); (focus (walk_at "r"; done)))
  | ((with_reducible apply w_isStr); (focus (walk_at "r"; done)))
  | ((with_reducible apply w_isTup); (focus (walk_at "r"; done)))
  | ((with_reducible apply w_isLst); (focus (walk_at "r"; done)))
  | ((with_reducible apply w_notInP); (focus (assumption)))
  | ((with_reducible apply w_ixP); (focus (assumption)); (focus (assumption))))
end Fg
namespace PySem.SeqAt
open AutoSeq1 (wpAny_loadPart')
open MeetsSeq
theorem fg_dict_declines_str (l : Addr) (es : Array DictEntry) (n : Nat) (dd : Option Addr) (sl : Array (Option Value)) (b : Str) (u : Tok) :
    Meets (Builtin.«dict.__eq__» ⟨[.ref l, .str b u], []⟩) (fun _ R s => s.heap.get? l = some { cls := .type "dict", dict := dd, data := .dict es n, slots := sl } ∧ R (.ok (.ret .notImplemented)) s) :=
  .of_wp fun prog w A R s h => by obtain ⟨hp, g, d, tk, os⟩ := s; obtain ⟨hl, h⟩ := h; have f1 := F.sub_str_dict; wp_walk using wpAny_loadPart' hl, wpAny_load hl; exact ⟨_, rfl, h⟩
theorem fg_str_declines_dict (b : Str) (u : Tok) (l : Addr) (es : Array DictEntry) (n : Nat) (dd : Option Addr) (sl : Array (Option Value)) :
    Meets (Builtin.«str.__eq__» ⟨[.str b u, .ref l], []⟩) (fun _ R s => s.heap.get? l = some { cls := .type "dict", dict := dd, data := .dict es n, slots := sl } ∧ R (.ok (.ret .notImplemented)) s) :=
  .of_wp fun prog w A R s h => by obtain ⟨hp, g, d, tk, os⟩ := s; obtain ⟨hl, h⟩ := h; wp_walk using wpAny_loadPart' hl, wpAny_load hl; exact ⟨_, rfl, h⟩
theorem fg_dict_declines_tuple (l b : Addr) (es : Array DictEntry) (items : Array Value) (n n2 : Nat) (dd dd2 : Option Addr) (sl sl2 : Array (Option Value)) :
    Meets (Builtin.«dict.__eq__» ⟨[.ref l, .ref b], []⟩) (fun _ R s => s.heap.get? l = some { cls := .type "dict", dict := dd, data := .dict es n, slots := sl } ∧ s.heap.get? b = some { cls := .type "tuple", dict := dd2, data := .seq items n2, slots := sl2 } ∧ R (.ok (.ret .notImplemented)) s) :=
  .of_wp fun prog w A R s h => by obtain ⟨hp, g, d, tk, os⟩ := s; obtain ⟨hl, hb, h⟩ := h; have f1 := F.sub_tuple_dict; wp_walk using wpAny_loadPart' hl, wpAny_load hl, wpAny_loadPart' hb, wpAny_load hb; exact ⟨_, rfl, h⟩
theorem fg_tuple_declines_dict (b l : Addr) (items : Array Value) (es : Array DictEntry) (n2 n : Nat) (dd2 dd : Option Addr) (sl2 sl : Array (Option Value)) :
    Meets (Builtin.«tuple.__eq__» ⟨[.ref b, .ref l], []⟩) (fun _ R s => s.heap.get? b = some { cls := .type "tuple", dict := dd2, data := .seq items n2, slots := sl2 } ∧ s.heap.get? l = some { cls := .type "dict", dict := dd, data := .dict es n, slots := sl } ∧ R (.ok (.ret .notImplemented)) s) :=
  .of_wp fun prog w A R s h => by obtain ⟨hp, g, d, tk, os⟩ := s; obtain ⟨hb, hl, h⟩ := h; have f1 : isSubtype (.type "dict") (.type "tuple") = pure false := by rw [isSubtype_type]; kernel_rfl
                                  wp_walk using wpAny_loadPart' hb, wpAny_load hb, wpAny_loadPart' hl, wpAny_load hl; exact ⟨_, rfl, h⟩
section
variable {A : Around} {s : Shared}
theorem fg_dict_str {l : Addr} {es : Array DictEntry} {n : Nat} {dd : Option Addr} {sl : Array (Option Value)} (b : Str) (u : Tok) (ho : s.heap.get? l = some { cls := .type "dict", dict := dd, data := .dict es n, slots := sl }) (hu : A.units < cLine) : RcAt A s (.ref l) (.str b u) false := fun prog w E Q h =>
  rc_eq_decline_or (k := false) ⟨_, ho, rfl⟩ (typeIs_str s b u) (by decide) F.sub_str_dict F.slot_dict_eq F.slot_str_eq_refl
    (fun _ hq => call_meets F.slot_dict_eq ⟨_, ho, rfl⟩ F.entry_dict_eq (F.args_dict_eq_2 _ _) (fg_dict_declines_str l es n dd sl b u) ⟨ho, hq⟩)
    (fun _ hq => call_meets F.slot_str_eq_refl (typeIs_str s b u) F.entry_str_eq (F.args_str_eq_2 _ _) (fg_str_declines_dict b u l es n dd sl) ⟨ho, hq⟩)
    (fun _ hq => wpAny_of_eq (rfl : isSame (.ref l) (.str b u) = pure false) hq) (.inr hu) h
theorem fg_eq_dict_str {l : Addr} {es : Array DictEntry} {n : Nat} {dd : Option Addr} {sl : Array (Option Value)} (b : Str) (u : Tok) (ho : s.heap.get? l = some { cls := .type "dict", dict := dd, data := .dict es n, slots := sl }) (hu : A.units < cLine) : EqAt A s (.ref l) (.str b u) false := fun prog w E Q h => by
  unfold eqBool
  refine wpAny_holding ?_
  refine wpAny_ite_split (fun hab => absurd (eq_of_beq hab) nofun) (fun _ => ?_)
  exact wpAny_bind (fg_dict_str b u ho hu prog w E _ (wpAny_truthy_bool h))
theorem fg_dict_tuple {l b : Addr} {es : Array DictEntry} {items : Array Value} {n : Nat} {dd : Option Addr} {sl : Array (Option Value)} (ho : s.heap.get? l = some { cls := .type "dict", dict := dd, data := .dict es n, slots := sl }) (hb : s.heap.IsTuple b items) (hu : A.units < cLine) :
    RcAt A s (.ref l) (.ref b) false := fun prog w E Q h => by
  obtain ⟨⟨cls2, dd2, data2, sl2⟩, ho2, hc2, n2, hd2⟩ := id hb
  simp only at hc2 hd2
  subst hc2 hd2
  have hne : l ≠ b := fun z => by
    rw [z, ho2] at ho
    injection ho with ho
    injection ho with e1 e2 e3
    cases e3
  exact (rc_eq_decline_or (k := false) ⟨_, ho, rfl⟩ ⟨_, ho2, rfl⟩ (by decide) F.sub_tuple_dict F.slot_dict_eq F.slot_tuple_eq_refl
    (fun _ hq => call_meets F.slot_dict_eq ⟨_, ho, rfl⟩ F.entry_dict_eq (F.args_dict_eq_2 _ _) (fg_dict_declines_tuple l b es items n n2 dd dd2 sl sl2) ⟨ho, ho2, hq⟩)
    (fun _ hq => call_meets F.slot_tuple_eq_refl ⟨_, ho2, rfl⟩ F.entry_tuple_eq (F.args_tuple_eq_2 _ _) (fg_tuple_declines_dict b l items es n2 n dd2 dd sl2 sl) ⟨ho2, ho, hq⟩)
    (fun _ hq => wpAny_isSame_ref_other hne ho ho2 (by simp) hq) (.inr hu) h)
end
end PySem.SeqAt
namespace Fg
open PySem PySem.Spec PyProof.Rows L2
/-- d is the tuple of the one text z -/
def isT1 (z : Str) : PyData → Bool
  | .tuple [.str y] => y == z
  | _ => false
def is0 (z : Str) : PyData → Bool
  | .str y => y == z
  | _ => false
def oEqT1 : R2 := fun x y H Q => ∃ (d : PyData) (S : Addr → Prop) (z : Str) (p : Addr), R S H x d ∧ y = .ref p ∧ H p = some (.tup [.str z]) ∧ Q (.bl (isT1 z d)) H
def oEqE : R2 := fun x y H Q => ∃ (p q : Addr) (xs : List V), x = .ref p ∧ y = .ref q ∧ ((H p = some (.lst xs) ∧ H q = some (.lst [])) ∨ (H p = some (.tup xs) ∧ H q = some (.tup []))) ∧ Q (.bl xs.isEmpty) H
section
variable {X : Cx} {pins : List (Addr × Obj)} {σ : L2.St} {H : Hp} {s : Shared}
theorem tupAt {p : Addr} {xs : List V} (I : Inv X pins σ H s) (h : H p = some (.tup xs)) : ∃ its : List Value, Vals xs its ∧ s.heap.IsTuple p its.toArray := by
  obtain ⟨_, its, rv, o, h1, h2, n, h3⟩ := (show ObjOk X.prog X.w H s.heap p (.tup xs) from I.hok p _ h)
  exact ⟨its, rv, ⟨o, h1, h2, n, h3⟩⟩
theorem lstAt {p : Addr} {xs : List V} (I : Inv X pins σ H s) (h : H p = some (.lst xs)) : ∃ its : List Value, Vals xs its ∧ s.heap.IsList p its.toArray := by
  obtain ⟨_, its, n, rv, h1⟩ := (show ObjOk X.prog X.w H s.heap p (.lst xs) from I.hok p _ h)
  exact ⟨its, rv, ⟨_, h1, rfl, n, rfl⟩⟩
theorem dicAt {p : Addr} {kvs : List (Key × V)} (I : Inv X pins σ H s) (h : H p = some (.dK kvs)) : ∃ (es : Array DictEntry) (n : Nat) (dd : Option Addr) (sl : Array (Option Value)), s.heap.get? p = some { cls := .type "dict", dict := dd, data := .dict es n, slots := sl } := by
  obtain ⟨_, _, vs, _, o, es, ep, h1, h2, h3, _⟩ := (show ObjOk X.prog X.w H s.heap p (.dK kvs) from I.hok p _ h)
  obtain ⟨oc, od, dt, sl⟩ := o
  obtain ⟨h4, h5, h6⟩ := h2
  simp only at h3 h4 h5 h6
  subst h3 h4
  exact ⟨es, ep, od, sl, h1⟩
/-- an item against a text -/
theorem eqAt_text {A : Around} {S : Addr → Prop} {v : V} {d : PyData} {u : Value} {z : Str} {t : Tok} (I : Inv X pins σ H s) (r : R S H v d) (rv : RelV v u) (hu : A.units < cLine) : SeqAt.EqAt A s u (.str z t) (is0 z d) := by
  cases r with
  | non => cases (show u = Value.none from rv); exact SeqAt.EqAt.none_str z t
  | bl b => cases (show u = Value.bool b from rv); exact SeqAt.EqAt.bool_str b z t
  | int i =>
    obtain ⟨k, q⟩ := (show ∃ k, u = Value.int i k from rv)
    cases q
    exact SeqAt.EqAt.int_str i k z t
  | str x =>
    obtain ⟨k, q⟩ := (show ∃ k, u = Value.str x k from rv)
    cases q
    exact SeqAt.EqAt.str_str x k z t
  | @lst a xs ds sa ea ra =>
    cases (show u = Value.ref a from rv)
    obtain ⟨its, _, hl⟩ := lstAt I ea
    exact SeqAt.EqAt.list_str z t hl hu
  | @tup a xs ds ea ra =>
    cases (show u = Value.ref a from rv)
    obtain ⟨its, _, hl⟩ := tupAt I ea
    exact SeqAt.EqAt.tuple_str z t hl hu
  | @dic a kvs sa ea =>
    cases (show u = Value.ref a from rv)
    obtain ⟨es, n, dd, sl, ho⟩ := dicAt I ea
    exact SeqAt.fg_eq_dict_str z t ho hu
theorem p_eqT1 (hu : X.A.units + 64 < cLine) : OpR X (compareOp .Eq) oEqT1 := by
  intro pins s σ H x y v u Q I rx ry h
  obtain ⟨d, S, z, p, r, rfl, hp, q⟩ := h
  cases (show u = Value.ref p from ry)
  have hu0 : X.A.units < cLine := by omega
  obtain ⟨itp, rp, tp⟩ := tupAt I hp
  have fin : ∀ b, SeqAt.RcAt X.A s v (.ref p) b → isT1 z d = b → wpAny (model X.prog X.w) X.A (compareOp .Eq v (.ref p)) (EP X pins σ Q) X.xe s := fun b hb e => by
    subst e
    exact hb X.prog X.w X.xe _ ⟨.bl _, H, I, rfl, q⟩
  cases r with
  | non => cases (show v = Value.none from rx); exact fin _ (SeqAt.RcAt.none_tuple tp hu0) rfl
  | bl b => cases (show v = Value.bool b from rx); exact fin _ (SeqAt.RcAt.bool_tuple b tp hu0) rfl
  | int i =>
    obtain ⟨k, q⟩ := (show ∃ k, v = Value.int i k from rx)
    cases q
    exact fin _ (SeqAt.RcAt.int_tuple i k tp hu0) rfl
  | str w =>
    obtain ⟨k, q⟩ := (show ∃ k, v = Value.str w k from rx)
    cases q
    exact fin _ (SeqAt.RcAt.str_tuple w k tp hu0) rfl
  | @lst a xs ds sa ea ra =>
    cases (show v = Value.ref a from rx)
    obtain ⟨its, _, hl⟩ := lstAt I ea
    exact fin _ (SeqAt.RcAt.list_tuple hl tp hu0) rfl
  | @dic a kvs sa ea =>
    cases (show v = Value.ref a from rx)
    obtain ⟨es, n, dd, sl, ho⟩ := dicAt I ea
    exact fin _ (SeqAt.fg_dict_tuple ho tp hu0) rfl
  | @tup a xs ds ea ra =>
    cases (show v = Value.ref a from rx)
    obtain ⟨its, rv, hl⟩ := tupAt I ea
    cases rp with
    | cons rz rn =>
      cases rn
      obtain ⟨t, rfl⟩ := rz
      cases ra with
      | nil =>
        cases rv
        refine fin _ (SeqAt.RcAt.tuples (e := fun _ => true) hl tp hu0 fun j h1 h2 => absurd h1 (by simp)) rfl
      | @cons v0 vs0 d0 ds0 r0 rs =>
        cases rv with
        | @cons _ u0 _ us0 q0 qs =>
          have e0 := eqAt_text (A := X.A.in1) (z := z) (t := t) I r0 q0 (show X.A.units + 1 < cLine by omega)
          refine fin _ (SeqAt.RcAt.tuples (e := fun _ => is0 z d0) hl tp hu0 fun j h1 h2 => ?_) ?_
          · have hj : j = 0 := by
              have : j < 1 := h2
              omega
            subst hj
            exact e0
          · have l1 : us0.length = ds0.length := by rw [← Paired.length qs, rs.length]
            cases ds0 with
            | nil =>
              have l2 : us0 = [] := List.length_eq_zero_iff.mp l1
              subst l2
              cases d0 <;> first | rfl | simp [isT1, is0]
            | cons d1 ds1 =>
              cases us0 with
              | nil => simp at l1
              | cons u1 us1 => cases d0 <;> simp [isT1, is0]
theorem p_eqE (hu : X.A.units + 64 < cLine) : OpR X (compareOp .Eq) oEqE := by
  intro pins s σ H x y v u Q I rx ry h
  obtain ⟨p, q, xs, rfl, rfl, hc, hq⟩ := h
  cases (show v = Value.ref p from rx)
  cases (show u = Value.ref q from ry)
  have hu0 : X.A.units < cLine := by omega
  have fin : ∀ b, SeqAt.RcAt X.A s (.ref p) (.ref q) b → xs.isEmpty = b → wpAny (model X.prog X.w) X.A (compareOp .Eq (.ref p) (.ref q)) (EP X pins σ Q) X.xe s := fun b hb e => by
    subst e
    exact hb X.prog X.w X.xe _ ⟨.bl _, H, I, rfl, hq⟩
  rcases hc with ⟨h1, h2⟩ | ⟨h1, h2⟩
  · obtain ⟨i1, r1, l1⟩ := lstAt I h1
    obtain ⟨i2, r2, l2⟩ := lstAt I h2
    cases r2
    cases r1 with
    | nil => exact fin _ (SeqAt.RcAt.lists (e := fun _ => true) l1 l2 rfl hu0 fun j h1 h2 => absurd h1 (by simp)) rfl
    | cons a b => exact fin _ (SeqAt.RcAt.lists_lengths l1 l2 (by simp) hu0) rfl
  · obtain ⟨i1, r1, l1⟩ := tupAt I h1
    obtain ⟨i2, r2, l2⟩ := tupAt I h2
    cases r2
    cases r1 with
    | nil => exact fin _ (SeqAt.RcAt.tuples (e := fun _ => true) l1 l2 hu0 fun j h1 h2 => absurd h1 (by simp)) rfl
    | cons a b => exact fin _ (SeqAt.RcAt.tuples (e := fun _ => true) l1 l2 hu0 fun j h1 h2 => absurd h2 (by simp)) (by simp)
end
section
variable {H : Hp} {Q : VK} {x y : V}
theorem w_eqT1 {d : PyData} {S : Addr → Prop} {z : Str} {p : Addr} (r : R S H x d) (hp : H p = some (.tup [.str z])) (q : Q (.bl (isT1 z d)) H) : oEqT1 x (.ref p) H Q := ⟨d, S, z, p, r, rfl, hp, q⟩
theorem w_eqEL {p q : Addr} {xs : List V} (h1 : H p = some (.lst xs)) (h2 : H q = some (.lst [])) (k : Q (.bl xs.isEmpty) H) : oEqE (.ref p) (.ref q) H Q := ⟨p, q, xs, rfl, rfl, .inl ⟨h1, h2⟩, k⟩
theorem w_eqET {p q : Addr} {xs : List V} (h1 : H p = some (.tup xs)) (h2 : H q = some (.tup [])) (k : Q (.bl xs.isEmpty) H) : oEqE (.ref p) (.ref q) H Q := ⟨p, q, xs, rfl, rfl, .inr ⟨h1, h2⟩, k⟩
end
end Fg
namespace L2
open PySem PySem.Spec PyProof.Rows
end L2
namespace Fg
open PySem PySem.Spec PyProof.Rows L2
section
section
variable {K : PySem.W.Frag} {σ : L2.St} {H : Hp} {D : Ends} {ta tv td ty tx : TE} {Q : VK} {f : Str} {tr : TA}
theorem w_while {c : TT} {tb : TS} (h : ∃ W : Nat → L2.St → Hp → Prop, (∃ m, W m σ H) ∧ ∀ m σ H, W m σ H → c σ H fun b H1 => if b = true then ∃ N : L2.St → Hp → Prop, (∀ σ' H', N σ' H' → ∃ m', m' < m ∧ W m' σ' H') ∧ tb { D with nx := N, ct := N, bk := D.nx } σ H1 else D.nx σ H1) : tWhile c tb D σ H := h
end
end
section
abbrev NV := NestedKey × Addr × V
abbrev NU := NestedKey × Addr × Value
def entN (w : World) (x : NU) : DictEntry := ⟨x.1.hash w, .ref x.2.1, x.2.2⟩
def DnO (w : World) (a : Addr) (es : List NV) : HO := .ext fun h =>
  (a == sysModules) = false ∧ es.length ≤ sizeLine ∧ ∃ vs : List NU, Paired (fun p q => p.1 = q.1 ∧ p.2.1 = q.2.1 ∧ RelV p.2.2 q.2.2) es vs ∧
    ∃ o es' ep, h.get? a = some o ∧ o.ExactDict ∧ o.data = .dict es' ep ∧ es'.toList = vs.map (entN w) ∧ (vs.map (·.1)).Nodup
/-- at a stands a dict with these keys and values, in their order -/
def DnAt (w : World) (H : Hp) (a : Addr) (kvs : List (NestedKey × V)) : Prop :=
  ∃ es : List NV, H a = some (DnO w a es) ∧ (∀ e ∈ es, Im H (.ref e.2.1) e.1.data ∧ e.1.depth ≤ 8) ∧ kvs = es.map fun e => (e.1, e.2.2)
theorem DnAt.keep {w : World} {M : List Addr} {H H' : Hp} {a : Addr} {kvs : List (NestedKey × V)} (c : Chg M H H') (n : a ∉ M) (d : DnAt w H a kvs) : DnAt w H' a kvs :=
  let ⟨es, e, k, z⟩ := d; ⟨es, c.keep _ _ e n, fun x hx => ⟨(k x hx).1.im c, (k x hx).2⟩, z⟩
theorem DnAt.same {w : World} {H H' : Hp} {a : Addr} {kvs : List (NestedKey × V)} (c : Chg [] H H') (d : DnAt w H a kvs) : DnAt w H' a kvs := d.keep c (by simp)
theorem DnAt.some {w : World} {H : Hp} {a : Addr} {kvs : List (NestedKey × V)} (d : DnAt w H a kvs) : ∃ o, H a = some o := let ⟨_, e, _⟩ := d; ⟨_, e⟩
def NT (es : List NV) (vs : List NU) : Prop := Paired (fun (p : NV) (q : NU) => p.1 = q.1 ∧ p.2.1 = q.2.1 ∧ RelV p.2.2 q.2.2) es vs
theorem NT.val {es : List NV} {vs : List NU} (r : NT es vs) (k : NestedKey) : RelO (valV (es.map fun e => (e.1, e.2.2)) k) ((atKey vs k).map (·.2)) := by
  induction r with
  | nil => exact True.intro
  | @cons p q ps qs h t ih =>
    obtain ⟨h1, _, h2⟩ := h
    rw [List.map_cons]
    by_cases e : p.1 = k
    · have e' : q.1 = k := h1.symm.trans e
      have b : atKey (q :: qs) k = some q.2 := by simp [atKey, List.find?_cons, e']
      rw [valV_pos (p := (p.1, p.2.2)) e, b]; exact h2
    · have e' : ¬ q.1 = k := fun z => e (h1.trans z)
      have b : atKey (q :: qs) k = atKey qs k := by simp [atKey, List.find?_cons, e']
      rw [valV_neg (p := (p.1, p.2.2)) e, b]; exact ih
end
section
theorem noteFrame_of {x : Value} {e e' : Env} (h : e.frame = e'.frame) : noteFrame x e = noteFrame x e' := by
  unfold noteFrame PySem.frameOf
  rw [h]
/-- a call within the block let it out -/
def XB (X : Cx) (E : XK) (u : Value) (s' : Shared) : Prop :=
  ∃ (a : Addr) (B : Heap) (sI : Shared) (pins : List (Addr × Obj)) (σ : L2.St) (H : Hp) (cls : Value) (d : Option Addr),
    u = .ref a ∧ Inv X pins σ H sI ∧ (∀ b o, sI.heap.get? b = some o → b ∉ frs X.stack → B.get? b = some o) ∧ sI.heap.UpToSlots s'.heap ∧
      HandSPX.FlyingZ B X.stack a (Zc cls d) s'.heap ∧ H a = none ∧ s'.os = sI.os ∧ AllBare s'.gens ∧ E cls d H
section
variable {X : Cx} {pins : List (Addr × Obj)} {σ : L2.St} {H : Hp} {s s' : Shared} {E : XK}
theorem XB.of_call (I : Inv X pins σ H s) {u : Value} (c : L2.CX X.prog X.w X.stack H s E u s') : XB X E u s' := by
  obtain ⟨a, B, H', cls, d, rfl, fl, hok, ub, na, os, ag, hE⟩ := c
  obtain ⟨G, g1, g2⟩ := restrict s'.heap fun b => (B.get? b).isSome || decide (b ∈ frs X.stack)
  have st : B.StaysIn s'.heap := fl.1
  have gB : ∀ b o, B.get? b = some o → G.get? b = some o := fun b o e => by
    rw [g1 b (by simp [e])]
    exact st b o e
  have gF : ∀ b, b ∈ frs X.stack → G.get? b = s'.heap.get? b := fun b hb => g1 b (by simp [hb])
  have og : ∀ b o, G.get? b = some o → s'.heap.get? b = some o ∧ ((B.get? b).isSome = true ∨ b ∈ frs X.stack) := fun b o e => by
    cases q : ((B.get? b).isSome || decide (b ∈ frs X.stack)) with
    | false => rw [g2 b q] at e; cases e
    | true =>
      rw [g1 b q] at e
      exact ⟨e, by simpa [Bool.or_eq_true] using q⟩
  refine ⟨a, B, { s with heap := G, gens := s'.gens, drawn := s'.drawn, toks := s'.toks }, pins, σ, H', cls, d, rfl, ?_, fun b o e hb => ?_, Heap.UpToSlots.of_keeps fun b o e => (og b o e).1, fl, na, os, ag, hE⟩
  · refine I.call (ch := []) ⟨fun b o e n hb _ => gB b o (ub.keep b o e n hb), fun b o e n hb _ => ?_, fun b o e n _ => ub.free b o e n, fun b o e _ => ?_, ub.tups, ub.frzs, ub.tbls⟩ (hok.kept gB) ag (fun _ z => nomatch z)
    · obtain ⟨sl, q⟩ := ub.slot b o e hb
      exact ⟨sl, by rw [gF b hb]; exact q⟩
    · by_cases hb : b ∈ frs X.stack
      · obtain ⟨sl, q⟩ := ub.slot b o e hb
        exact ⟨_, by rw [gF b hb]; exact q⟩
      · obtain ⟨o', q⟩ := ub.there b o e hb
        exact ⟨o', gB b o' q⟩
  · obtain ⟨e', h⟩ := og b o e
    rcases h with h | h
    · obtain ⟨o', q⟩ := Option.isSome_iff_exists.mp h
      have z := st b o' q
      rw [e'] at z; cases z
      exact q
    · exact absurd h hb
theorem passB (E : XK) (σ : L2.St) : PassesAt (L2.CX X.prog X.w) (X.wish (XB X E)) σ E := fun pins H s e s' I c => XB.of_call (X := X) I.unwish c
end
/-- the frames stand, on a smaller ground, where all but C stands -/
theorem funFrames_but {h h2 B B' : Heap} {C : Addr} (k : ∀ b, B.get? b = none → B'.get? b = none) (kk : ∀ b, b ≠ C → h2.get? b = h.get? b) : ∀ {l : List Env}, C ∉ frs l → h.FunFrames B l → h2.FunFrames B' l
  | [], _, _ => trivial
  | e :: l, hC, ⟨h1, ⟨L, o, h2', h3, h4, h5⟩, h6⟩ => by
    have ef : frs (e :: l) = L :: frs l := by
      show (e :: l).filterMap (·.frame) = _
      rw [List.filterMap_cons, h2']
      rfl
    rw [ef] at hC
    exact ⟨h1, ⟨L, o, h2', k L h3, by rw [kk L fun z => hC (by rw [z]; exact List.mem_cons_self)]; exact h4, h5⟩, funFrames_but k kk (fun z => hC (List.mem_cons_of_mem _ z)) h6⟩
section
variable {X : Cx}
theorem lc_coreX {pins : List (Addr × Obj)} {s : Shared} {σ : L2.St} {H : Hp} {Q : VK} {E : XK} {elt tg iter : Expr} {ifs : List Expr} {scope : Scope} {own : List (Str × Nat)} {pos pos' : Pos} {wi : L2.TI} {g : TG} {tt : TT} {te : TE} {use : Option (Value → Sem Unit)} {Qf : Value → Shared → Prop}
    (hs0 : X.stack = X.env :: X.outer) (hf0 : X.env.frame = some X.env.locals) (tk : Takes X (fun cls d _ H => E cls d H))
    (hc : X.calm = true) (hN : X.N.Nodup) (I : Inv X pins σ H s) (hi : PI X tg iter wi) (ok : BlkOk X.N X.env.scope scope own)
    (hg : ∀ (s : Shared) (H : Hp) (C : Addr) (cl : List (Str × Addr)) (fp : List Addr), PG (X.blk s H scope (compEnvC scope cl C X.env) fp) tg g) (ht : ∀ (s : Shared) (H : Hp) (C : Addr) (cl : List (Str × Addr)) (fp : List Addr), PTs (X.blk s H scope (compEnvC scope cl C X.env) fp) ifs tt)
    (he : ∀ (s : Shared) (H : Hp) (C : Addr) (cl : List (Str × Addr)) (fp : List Addr), PE ((X.blk s H scope (compEnvC scope cl C X.env) fp).wish (XB (X.blk s H scope (compEnvC scope cl C X.env) fp) E)) elt te) (hs : ∀ x, foldedSetIterable iter X.env x = pure x)
    (h : tLc wi g tt te (own.map (·.2)) σ H Q)
    (hRR : ∀ D C s' m H' (ce : Env), ce.locals = C → Inv X pins σ H' s' → Q (.ref D) H' → s'.heap.Ns C m → FpOk X pins H' C → compEnds (model X.prog X.w) X.A X.xe use Qf (.ref D) ce (.ok .next) s') :
    wpAny (model X.prog X.w) X.A (comprehension (.ListComp elt [⟨tg, iter, ifs, 0⟩] scope pos) scope X.env pos' (newList []) false (eval iter X.env) use) Qf X.xe s := by
  have hfree : ∀ y ∈ scope.names, y.2 = .free → ∃ c, X.env.cells.lookup y.1 = some c := fun y hy e => by
    rcases ok.free y hy e with k | k
    · exact I.ok.has _ (.inl k)
    · exact I.ok.has _ (.inr k)
  refine comprehension_at (use := use) rfl hs (closure_ok hfree) ok.kind (fun y hy e => by rw [ok.uniq y hy, e])
    (thn (hi.run pins s σ H _ I h) fun xv s1 hx => thn hx fun itv s2 h2 => ?_)
  obtain ⟨it, fp, tn, J, H2, e, I2, T, st2, f2, q⟩ := h2
  subst e
  refine wpAny_newObj_type (newEnv_comp ?_) (by show 0 ≤ sizeLine; decide)
  generalize hD : s2.heap.objs.size = D
  have hDn : H2 D = none := I2.hok.fresh (Nat.le_of_eq hD)
  obtain ⟨W, ⟨m0, w0⟩, turn⟩ := q D hDn
  -- the new list
  generalize hs3 : ({ s2 with heap := s2.heap.push { cls := .type "list", data := .seq ([] : List Value).toArray } } : Shared) = s3
  have I3 : Inv X pins σ (upd H2 D (.lst [])) s3 := by
    rw [← hs3]
    refine I2.laid (t' := s2.toks) (fun b o e => Heap.get?_push_of_some _ e) (Nat.le_of_eq hD) ⟨Nat.zero_le _, [], 0, .nil, ?_⟩
    rw [← hD]
    exact Heap.get?_push_size _ rfl
  have h3 : s3.heap = s2.heap.push { cls := .type "list", data := .seq ([] : List Value).toArray } := by rw [← hs3]
  have sz : ∀ b ∈ fp, b < s2.heap.objs.size := fun b hb => by
    obtain ⟨o, e, _⟩ := T.obj _ _ st2 b hb
    exact Heap.lt_size e
  have f3 : ∀ b ∈ fp, FpOk X pins (upd H2 D (.lst [])) b ∧ b < s3.heap.objs.size := fun b hb => by
    have hlt := sz b hb
    refine ⟨⟨?_, (f2 b hb).2⟩, by rw [h3, Heap.size_push]; exact Nat.lt_succ_of_lt hlt⟩
    rw [upd_ne (by rw [← hD]; exact Nat.ne_of_lt hlt)]
    exact (f2 b hb).1
  have st3 : tn 0 s3.heap := T.keep _ _ _ st2 fun b _ o e => by rw [h3]; exact Heap.get?_push_of_some _ e
  have I4 := block_start I3 ok hN f3
  have pg := hg s3 (upd H2 D (.lst [])) s3.heap.objs.size (cellsFrom (s3.heap.objs.size + 1) scope.names (cloFrom X.env.cells scope.names [])) fp
  have pt := ht s3 (upd H2 D (.lst [])) s3.heap.objs.size (cellsFrom (s3.heap.objs.size + 1) scope.names (cloFrom X.env.cells scope.names [])) fp
  have pe := he s3 (upd H2 D (.lst [])) s3.heap.objs.size (cellsFrom (s3.heap.objs.size + 1) scope.names (cloFrom X.env.cells scope.names [])) fp
  show codeAny _ _ (.compStart (.ListComp elt [⟨tg, iter, ifs, 0⟩] scope pos) 0 (.ref it) (.ref D) (compEnvC scope (cellsFrom (s3.heap.objs.size + 1) scope.names (cloFrom X.env.cells scope.names [])) s3.heap.objs.size X.env)) (compEnds (model X.prog X.w) X.A X.xe use Qf (.ref D) (compEnvC scope (cellsFrom (s3.heap.objs.size + 1) scope.names (cloFrom X.env.cells scope.names [])) s3.heap.objs.size X.env)) { s3 with heap := pushCells (s3.heap.push { cls := .type "dict", data := .dict #[] }) scope.names }
  have nfp : ∀ b ∈ fp, (upd H2 D (.lst [])) b = none := fun b hb => (f3 b hb).1.1
  generalize hce : compEnvC scope (cellsFrom (s3.heap.objs.size + 1) scope.names (cloFrom X.env.cells scope.names [])) s3.heap.objs.size X.env = ce at I4 pg pt pe ⊢
  have cL : ce.locals = s3.heap.objs.size := by subst hce; rfl
  have cF : ce.frame = X.env.frame := by subst hce; rfl
  generalize hH3 : upd H2 D (.lst []) = H3 at I3 I4 pg pt pe w0 nfp f3
  generalize hs4 : ({ s3 with heap := pushCells (s3.heap.push { cls := .type "dict", data := .dict #[] }) scope.names } : Shared) = s4 at I4 ⊢
  have st4 : tn 0 s4.heap := T.keep _ _ _ st3 fun b _ o e => by rw [← hs4]; exact pushCells_keeps _ _ _ _ (Heap.get?_push_of_some _ e)
  have stat : ∀ {σ' : L2.St} {H' : Hp} {s' : Shared}, Inv (X.blk s3 H3 scope ce fp) [] σ' H' s' → (∀ b ∈ fp, H' b = none) → ∀ b ∈ fp, FpOk (X.blk s3 H3 scope ce fp) [] H' b := fun {σ' H' s'} I' hn b hb =>
    ⟨hn b hb, (I'.ok.exf b hb).1, I'.ok.exfs b hb, .inl hb, fun x c e => (I'.ok.exf b hb).2 x c e, fun p hp => absurd (show p ∈ ([] : List (Addr × Obj)) ++ [] from hp) (by simp)⟩
  -- back in the def's context
  have back : ∀ {pins' : List (Addr × Obj)} {σ' : L2.St} {H' : Hp} {s' : Shared}, Inv (X.blk s3 H3 scope ce fp) pins' σ' H' s' → Inv X pins σ H' s' ∧ FpOk X pins H' s3.heap.objs.size ∧ ∃ m, s'.heap.Ns ce.locals m := fun {pins' σ' H' s'} I' => by
    have I7 : Inv X pins σ H' s' := I3.call' (ch := fp) I'.os I'.base I'.hok I'.bare fun b hb => ⟨(f3 b hb).1.2.2.2.1, (f3 b hb).1.2.1, (f3 b hb).1.2.2.2.2.1, (f3 b hb).1.2.2.2.2.2⟩
    have nC : H' s3.heap.objs.size = none := by
      have z : H' ce.locals = none := I'.free
      rw [cL] at z
      exact z
    obtain ⟨m, hn, _⟩ := I'.loc
    exact ⟨I7, I3.fpOk (Nat.le_refl _) nC, m, hn⟩
  have loop : codeAny (model X.prog X.w) X.A (.compLoop (.ListComp elt [⟨tg, iter, ifs, 0⟩] scope pos) 0 (.ref it) (.ref D) ce) (compEnds (model X.prog X.w) X.A X.xe use Qf (.ref D) ce) s4 := by
    refine compLoop_any (fun n s' => ∃ i H', Inv (X.blk s3 H3 scope ce fp) [] (wipe σ (own.map (·.2))) H' s' ∧ tn i s'.heap ∧ (∀ b ∈ fp, H' b = none) ∧ W i n H') ?_ m0 ⟨0, H3, I4, st4, nfp, w0⟩
    rintro n s5 ⟨i, H5, I5, st5, n5, w5⟩
    rcases turn i n H5 w5 with ⟨stop, qq⟩ | ⟨go, Nx, hNx, step⟩
    · have td := T.done (X.blk s3 H3 scope ce fp) rfl rfl rfl hc i [] s5 _ H5 (fun _ _ => False) I5 (stat I5 n5) st5 stop
      refine thnF td fun r s6 ⟨hr, I6⟩ => ?_
      subst hr
      obtain ⟨I7, f7, m, hn⟩ := back I6
      rw [cL] at hn
      exact hRR D s3.heap.objs.size s6 m H5 ce cL I7 qq hn f7
    · have ti := T.item (X.blk s3 H3 scope ce fp) rfl rfl rfl hc i [] s5 _ H5 (fun _ _ => False) I5 (stat I5 n5) st5 go
      refine thnF ti fun r s6 ⟨u, hr, h6⟩ => ?_
      subst hr
      refine thnF h6 fun _ s7 ⟨x, H7, I7, r7, y7, st7, n7⟩ => ?_
      have I7' := I7.pinned (stat I7 n7) (T.obj _ _ st7)
      refine thnF (pg.run _ s7 _ H7 x u _ I7' r7 (step x H7 y7)) fun _ s8 ⟨σ8, H8, I8, hw8, q8⟩ => ?_
      refine thnF (pt.run _ s8 σ8 H8 _ I8 q8) fun b s9 ⟨H9, I9, q9⟩ => ?_
      -- the turn's end
      have fin : ∀ {s' : Shared} {H' : Hp}, Inv (X.blk s3 H3 scope ce fp) ([] ++ pinsAt fp s7.heap) σ8 H' s' → Nx H' → ∃ m, m < n ∧ ∃ i H', Inv (X.blk s3 H3 scope ce fp) [] (wipe σ (own.map (·.2))) H' s' ∧ tn i s'.heap ∧ (∀ b ∈ fp, H' b = none) ∧ W i m H' := fun {s' H'} I' nx => by
        obtain ⟨m', hm, w'⟩ := hNx H' nx
        have pin' : ∀ b ∈ fp, ∀ o, s7.heap.get? b = some o → s'.heap.get? b = some o ∧ H' b = none := fun b hb o e =>
          let z := I'.pin (b, o) (List.mem_append_right _ (List.mem_append_right _ (mem_pinsAt hb e)))
          ⟨z.1, z.2.1⟩
        have hl : (wipe σ (own.map (·.2))).length = σ8.length := by rw [← hw8, wipe_length]
        refine ⟨m', hm, i + 1, H', (I'.unpinned (pins := [])).weak hl (fun j v e => ?_), T.keep _ _ _ st7 fun b hb o e => (pin' b hb o e).1, fun b hb => ?_, w'⟩
        · rw [← hw8] at e
          exact (wipe_some e).1
        · obtain ⟨o, e, _⟩ := T.obj _ _ st7 b hb
          exact (pin' b hb o e).2
      cases b with
      | false =>
        simp only [Bool.false_eq_true, if_false] at q9 ⊢
        exact fin I9 q9
      | true =>
        simp only [if_true] at q9 ⊢
        refine wpAny_mono (pe.run _ s9 σ8 H9 _ (I9.wish _) q9) (fun z s10 ⟨yv, H10, I10, r10, acc, hD10, hz10, nx⟩ => ?_) fun u s' xb => ?_
        · exact app_ok (X := X.blk s3 H3 scope ce fp) I10.unwish hD10 hz10 r10 fun s11 I11 => fin I11 nx
        · obtain ⟨a, B, sI, pins', σ', H', cls, d, rfl, Ib, nb, up, fl, na, os, ag, hE⟩ := xb
          have fl : HandSPX.FlyingZ B (X.env :: X.outer) a (Zc cls d) s'.heap := by rw [← hs0]; exact fl
          obtain ⟨J7, fC, m, hn⟩ := back Ib
          show wpAny _ _ (noteFrame (.ref a) ce) _ _ s'
          rw [noteFrame_of cF]
          refine HandSPX.looks_onZ Zc.steady (by rw [I.ok.frames, hs0]) hf0 fl fun h' held up' => ?_
          refine ⟨m, (up.trans up').ns hn, fun h2 m2 hn2 sb => ?_⟩
          rw [cL] at sb
          obtain ⟨k1, k2, k3, oe, vs, Tb, oT, ts, e1, hz, hd, e2, e3, e4, e5, hdT, e6⟩ := held
          generalize hC : s3.heap.objs.size = C at fC sb
          have fC' := fC
          obtain ⟨f0, f1, f2', f3', f4, f5⟩ := fC
          obtain ⟨om, hm, dm, _⟩ : ∃ om, h'.get? C = some om ∧ (∀ vs, om.data ≠ .fields vs) ∧ True := by
            have z := (up.trans up').ns hn
            rw [cL, hC] at z
            obtain ⟨o, es, ep, ho, r⟩ := z
            refine ⟨_, ho, fun vs z => ?_, trivial⟩
            rw [r.1] at z
            cases z
          have aC : a ≠ C := fun z => by
            rw [z, hm] at e1
            cases e1
            exact dm _ hd
          have tC : Tb ≠ C := fun z => by
            rw [z, hm] at e5
            cases e5
            exact dm _ hdT
          obtain ⟨B', hB'⟩ : ∃ B' : Heap, B' = PySem.W.hideAll B [C] := ⟨_, rfl⟩
          have b1 : ∀ b o, b ≠ C → B.get? b = some o → B'.get? b = some o := fun b o hb e => by rw [hB']; exact PySem.W.hideAll_get _ e (by simpa using hb)
          have b2 : ∀ b o, B'.get? b = some o → B.get? b = some o ∧ b ≠ C := fun b o e => by
            rw [hB'] at e
            refine ⟨PySem.W.of_hideAll _ e, fun z => ?_⟩
            rw [PySem.W.hideAll_none _ (by simp [z])] at e
            cases e
          have b3 : ∀ b, B.get? b = none → B'.get? b = none := fun b e => by
            cases q : B'.get? b with
            | none => rfl
            | some o => rw [(b2 b o q).1] at e; cases e
          have held2 : HandSPX.HeldZ B' (X.env :: X.outer) a (Zc cls d) X.env.locals h2 := by
            refine ⟨fun b o e => ?_, b3 a k2, ?_, oe, vs, Tb, oT, ts, ?_, hz, hd, e2, b3 Tb e3, e4, ?_, hdT, e6⟩
            · obtain ⟨g1, g2⟩ := b2 b o e
              rw [sb.2 b g2]
              exact k1 b o g1
            · refine funFrames_but b3 sb.2 (fun z => ?_) k3
              have ef : frs (X.env :: X.outer) = X.env.locals :: frs X.outer := by
                show (X.env :: X.outer).filterMap (·.frame) = _
                rw [List.filterMap_cons, hf0]
                rfl
              rw [ef] at z
              rcases List.mem_cons.mp z with z | z
              · exact f1 z
              · exact f2' z
            · rw [sb.2 a aC]; exact e1
            · rw [sb.2 Tb tC]; exact e5
          have e1' : h2.get? a = some oe := by rw [sb.2 a aC]; exact e1
          unfold PySem.passOn
          refine wpAny_bind (wpAny_field (s := { s' with heap := h2 }) e1' hd e2 ?_)
          rw [if_neg (show ¬ ((Value.ref Tb == Value.none) = true) from by simp)]
          -- what is told at the end
          obtain ⟨G, hG⟩ : ∃ G : Heap, G = PySem.W.hideAll sI.heap [C] := ⟨_, rfl⟩
          have q1 : ∀ b o, b ≠ C → sI.heap.get? b = some o → G.get? b = some o := fun b o hb e => by rw [hG]; exact PySem.W.hideAll_get _ e (by simpa using hb)
          have q2 : ∀ b o, G.get? b = some o → sI.heap.get? b = some o ∧ b ≠ C := fun b o e => by
            rw [hG] at e
            refine ⟨PySem.W.of_hideAll _ e, fun z => ?_⟩
            rw [PySem.W.hideAll_none _ (by simp [z])] at e
            cases e
          have J8 : Inv X pins σ H' { sI with heap := G, toks := sI.toks } := J7.turned (t' := sI.toks) q1 f0 f1 f3' f4 f5
          have fin2 : wpAny (model X.prog X.w) X.A (setFlight (.ref a) ce.frame) (fun _ s4 => wpAny (model X.prog X.w) X.A (throw (.ref a) : Sem Value) (fun _ _ => False) X.xe s4) X.xe { s' with heap := h2 } := by
            rw [cF, hf0]
            refine HandSPX.setFlight_onZ (s := { s' with heap := h2 }) held2 fun h4 hh4 up4 => wpAny_throw (tk _ _ ⟨a, B', { sI with heap := G, toks := sI.toks }, pins, σ, H', cls, d, rfl, J8, fun b o e hb => ?_, fun b o e hn => ?_, ?_, na, os, ag, hE⟩)
            · obtain ⟨z1, z2⟩ := q2 b o e
              exact b1 b o z2 (nb b o z1 hb)
            · obtain ⟨z1, z2⟩ := q2 b o e
              obtain ⟨sl, z3⟩ := (up.trans up') b o z1 hn
              have z4 : h2.get? b = some { o with slots := sl } := by rw [sb.2 b z2]; exact z3
              obtain ⟨sl2, z5⟩ := up4 b { o with slots := sl } z4 hn
              exact ⟨sl2, z5⟩
            · rw [hs0]
              exact .inr (.inr hh4)
          first
            | exact wpAny_bind (wpAny_pure (wpAny_bind fin2))
            | exact wpAny_bind fin2
  exact codeAny_compStart_list loop (T.self X.A 0 _ _ _ st4 loop)
theorem pe_lcX {elt tg iter : Expr} {ifs : List Expr} {scope : Scope} {own : List (Str × Nat)} {pos : Pos} {wi : L2.TI} {g : TG} {tt : TT} {te : TE} {E : XK} (hs0 : X.stack = X.env :: X.outer) (hf0 : X.env.frame = some X.env.locals) (tk : Takes X (fun cls d _ H => E cls d H)) (hc : X.calm = true) (hN : X.N.Nodup) (hi : PI X tg iter wi) (ok : BlkOk X.N X.env.scope scope own)
    (hg : ∀ (s : Shared) (H : Hp) (C : Addr) (cl : List (Str × Addr)) (fp : List Addr), PG (X.blk s H scope (compEnvC scope cl C X.env) fp) tg g) (ht : ∀ (s : Shared) (H : Hp) (C : Addr) (cl : List (Str × Addr)) (fp : List Addr), PTs (X.blk s H scope (compEnvC scope cl C X.env) fp) ifs tt)
    (he : ∀ (s : Shared) (H : Hp) (C : Addr) (cl : List (Str × Addr)) (fp : List Addr), PE ((X.blk s H scope (compEnvC scope cl C X.env) fp).wish (XB (X.blk s H scope (compEnvC scope cl C X.env) fp) E)) elt te) (hs : ∀ x, foldedSetIterable iter X.env x = pure x := by intro _; rfl) :
    PE X (.ListComp elt [⟨tg, iter, ifs, 0⟩] scope pos) (tLc wi g tt te (own.map (·.2))) := by
  refine ⟨fun pins s σ H Q I h => ?_⟩
  rw [eval_ListComp]
  refine lc_coreX hs0 hf0 tk hc hN I hi ok hg ht he hs h fun D C s' m H' ce ec I' q hn f => ?_
  refine ⟨m, by rw [ec]; exact hn, fun h'' sb => ?_⟩
  rw [ec] at sb
  obtain ⟨f0, f1, f2, f3, f4, f5⟩ := f
  exact ⟨.ref D, H', I'.turned (t' := s'.toks) (fun b o hb e => (sb.2 b hb).trans e) f0 f1 f3 f4 f5, rfl, q⟩
theorem ps_setLcX {i : Nat} {y : Str} {py : Pos} {elt tg iter : Expr} {ifs : List Expr} {scope : Scope} {own : List (Str × Nat)} {pos spos : Pos} {wi : L2.TI} {g : TG} {tt : TT} {te : TE} {E : XK} (hs0 : X.stack = X.env :: X.outer) (hf0 : X.env.frame = some X.env.locals) (tk : Takes X (fun cls d _ H => E cls d H)) (hc : X.calm = true) (hN : X.N.Nodup) (hy : X.N[i]? = some y) (hyl : X.env.scope.names.lookup y = some .local)
    (hsw : swapsWith (.ListComp elt [⟨tg, iter, ifs, 0⟩] scope pos) (some (.Name y py)) spos.line X.env = pure true) (hi : PI X tg iter wi) (ok : BlkOk X.N X.env.scope scope own)
    (hg : ∀ (s : Shared) (H : Hp) (C : Addr) (cl : List (Str × Addr)) (fp : List Addr), PG (X.blk s H scope (compEnvC scope cl C X.env) fp) tg g) (ht : ∀ (s : Shared) (H : Hp) (C : Addr) (cl : List (Str × Addr)) (fp : List Addr), PTs (X.blk s H scope (compEnvC scope cl C X.env) fp) ifs tt)
    (he : ∀ (s : Shared) (H : Hp) (C : Addr) (cl : List (Str × Addr)) (fp : List Addr), PE ((X.blk s H scope (compEnvC scope cl C X.env) fp).wish (XB (X.blk s H scope (compEnvC scope cl C X.env) fp) E)) elt te) (hs : ∀ x, foldedSetIterable iter X.env x = pure x := by intro _; rfl) :
    PS X (.Assign [.Name y py] (.ListComp elt [⟨tg, iter, ifs, 0⟩] scope pos) spos) (tAsg (tLc wi g tt te (own.map (·.2))) (gName i)) := by
  refine ⟨fun pins s σ H D I h => ?_⟩
  rw [exec_Assign_Name_used _ _ _ _ hsw]
  refine wpAny_bind (wpAny_standAt (wpAny_bind ?_))
  show wpAny _ X.A (do let _ ← comprehension (.ListComp elt [⟨tg, iter, ifs, 0⟩] scope pos) scope X.env (firstIterPos [⟨tg, iter, ifs, 0⟩] pos) (newList []) false (eval iter X.env) (some (assign (.Name y py) X.env))) _ _ s
  have h : tLc wi g tt te (own.map (·.2)) σ H (fun x H1 => gName i x σ H1 D.nx) := h
  refine wpAny_bind (thn (lc_coreX (Qf := fun _ s' => SP X pins D .next s') hs0 hf0 tk hc hN I hi ok hg ht he hs h fun L C s' m H' ce ec I' q hn f => ?_) fun _ s' hq => wpAny_pure (wpAny_pure hq))
  show wpAny _ _ (assign (.Name y py) X.env (.ref L)) _ _ _
  refine wpAny_assign_Name (store_ok2 (v := V.ref L) I' hN hy (.inl hyl) rfl (fun s2 I2 ⟨a, sb, ha⟩ => ?_) (.inr hyl))
  obtain ⟨f0, f1, f2, f3, f4, f5⟩ := f
  have haC : C ≠ a := by
    rcases ha with z | z
    · rw [z]; exact f1
    · exact fun e => f4 y a z e.symm
  rw [ec]
  refine ⟨m, hn.sameBut sb haC, fun h3 sb3 => ?_⟩
  exact ⟨_, H', I2.turned (t' := s2.toks) (fun b o hb e => (sb3.2 b hb).trans e) f0 f1 f3 f4 f5, q⟩
end
section
variable {X : Cx} {k j : Nat} {x m : Str} {C : Addr} {sp : Sp} {dvs : List V} {p pos apos : Pos} {e o : Expr} {es : List Expr} {ta : TE} {t : TA} {W : WX} {pl : Sem Bool}
theorem pe_cxp (c : CalX X.prog X.w X.K X.mg X.base k x sp dvs) (hr : Room j X.A) (hk : k ≤ j) (hg : Gl X x) (hx : ∀ σ, PassesAt (L2.CX X.prog X.w) X σ (WE W σ)) (ha : PA X (e :: es) t)
    (hdb : (x == ("__debug__" : Str)) = false := by decide) (he : starEach (e :: es) X.env = (false, eval e X.env) :: starEach es X.env := by rfl) (hpl : (backTo pos (starEach es X.env)).any (·.1) = false := by rfl) :
    PE X (.Call (.Name x p) (e :: es) [] pos) (tCallSD sp dvs (WE W) t) := by
  obtain ⟨f, fd, ps, ds, F, hm, kp, b, d⟩ := c.ex
  exact pe_callSD F (hr.mono hk) hg hm kp b d hx ha hdb he hpl
end
end
end Fg
namespace Fg
open PySem PySem.Spec PyProof.Rows L2
local macro_rules | `(tactic| walk_at "hp") => `(tactic| first
  | assumption
  | exact upd_same
  | (refine Chg.at (by assumption) ?_; walk_at "hp")
  | (refine Chg.at1 (by assumption) ?_ (by walk_at "ne"); walk_at "hp"))
local macro_rules | `(tactic| walk_at "ne") => `(tactic| first | assumption | (apply Ne.symm; assumption))
local macro_rules | `(tactic| walk_at "sq") => `(tactic| first | assumption | exact sqL (by walk_at "hp") | (refine Chg.seq (by assumption) ?_; walk_at "sq"))
local macro_rules | `(tactic| walk_at "sz") => `(tactic| first | assumption | exact Nat.zero_le _ | (simp only [List.length_cons, List.length_nil]; decide) | exact Nat.le_trans (by first | omega | (simp; done) | (simp; omega)) (show 100000 ≤ sizeLine by decide) | exact Nat.lt_of_lt_of_le (by first | omega | (simp; done) | (simp; omega)) (show 100000 ≤ sizeLine by decide))
local macro_rules | `(tactic| walk_at "ix") => `(tactic| first | exact at0 | exact at1 | exact at2 | exact at3 | assumption | exact rfl | walk_at "ix2")
local macro_rules | `(tactic| walk_at "ix2") => `(tactic| fail)
local macro_rules | `(tactic| walk_at "num") => `(tactic| first | assumption | omega | decide | walk_at "num2")
local macro_rules | `(tactic| walk_at "num2") => `(tactic| fail)
local macro_rules | `(tactic| walk_at "im") => `(tactic| first | assumption | exact R.non (S := fun _ => False) | exact R.bl (S := fun _ => False) _ | exact R.int (S := fun _ => False) _ | exact R.str (S := fun _ => False) _ | (refine R.im (by assumption) ?_; walk_at "im"))
local macro_rules | `(tactic| walk_at "r") => `(tactic| first | assumption | exact R.non (S := fun _ => False) | exact R.bl (S := fun _ => False) _ | exact R.int (S := fun _ => False) _ | exact R.str (S := fun _ => False) _ | (refine R.same (by assumption) ?_; walk_at "r") | exact R.any (by walk_at "im"))
local macro_rules | `(tactic| walk_at "chg") => `(tactic| first
  | exact Chg.refl
  | assumption
  | (refine Chg.same ?_ (by assumption); walk_at "chg")
  | (refine Chg.both ?_ (by assumption); walk_at "chg")
  | (refine Chg.pre (by assumption) ?_; walk_at "chg"))
local macro_rules | `(tactic| walk_at "w1") => `(tactic| first
  | with_reducible apply w_seq
  | with_reducible apply w_asg
  | ((with_reducible apply w_var); (focus (exact rfl)))
  | with_reducible apply w_c
  | with_reducible apply w_op
  | with_reducible apply w_cons
  | with_reducible apply w_nil
  | with_reducible apply w_gName
  | with_reducible apply w_if
  | with_reducible apply w_test
  | with_reducible apply w_B
  | with_reducible apply w_isbl
  | with_reducible apply w_retN
  | with_reducible apply w_next
  | with_reducible apply w_drop
  | with_reducible apply w_cb
  | with_reducible apply w_call
  | with_reducible apply w_callN
  | with_reducible apply w_bm
  | with_reducible apply w_bm0
  | ((with_reducible apply w_tyL); (focus (walk_at "hp"; done)))
  | with_reducible apply w_dput
  | with_reducible apply w_m1
  | with_reducible apply w_isstr
  | with_reducible apply w_and
  | with_reducible apply w_or
  | with_reducible apply w_not
  | with_reducible apply w_andV
  | with_reducible apply w_orV
  | with_reducible apply w_notV
  | with_reducible apply w_ifE
  | with_reducible apply w_chain
  | with_reducible apply w_un
  | with_reducible apply w_neg
  | with_reducible apply w_add
  | with_reducible apply w_sub
  | ((with_reducible apply w_mod); (focus (walk_at "num"; done)))
  | ((with_reducible apply w_mul); (focus (walk_at "num"; done)))
  | ((with_reducible apply w_fdiv); (focus (walk_at "num"; done)))
  | ((with_reducible apply w_pow); (focus (walk_at "num"; done)))
  | with_reducible apply w_lt
  | with_reducible apply w_le
  | with_reducible apply w_gt
  | with_reducible apply w_ge
  | with_reducible apply w_ltS
  | with_reducible apply w_geS
  | with_reducible apply w_inC
  | with_reducible apply w_notInC
  | with_reducible apply w_isN
  | with_reducible apply w_notN
  | with_reducible apply w_isB
  | with_reducible apply w_notB
  | ((with_reducible apply w_addS); (focus (walk_at "sz"; done)))
  | ((with_reducible apply w_ixL); (focus (walk_at "sq"; done)); (focus (walk_at "ix"; done)))
  | ((with_reducible apply w_ixT); (focus (walk_at "hp"; done)); (focus (walk_at "ix"; done)))
  | ((with_reducible apply w_ixS); (focus (walk_at "sz"; done)); (focus (walk_at "ix"; done)))
  | with_reducible apply w_gSub
  | ((with_reducible apply w_gTup); (focus (walk_at "hp"; done)); (focus (exact rfl)))
  | with_reducible apply w_gCons
  | with_reducible apply w_gNil
  | ((with_reducible apply w_aug); (focus (exact rfl)))
  | with_reducible apply w_ipI
  | ((with_reducible apply w_eq); (focus (exact rfl)))
  | ((with_reducible apply w_ne); (focus (exact rfl)))
  | with_reducible apply w_max
  | with_reducible apply w_min
  | with_reducible apply w_abs
  | with_reducible apply w_intB
  | with_reducible apply w_intI
  | with_reducible apply w_tup1
  | with_reducible apply w_lst1
  | with_reducible apply w_sl
  | with_reducible apply w_part
  | with_reducible apply w_noPart
  | with_reducible apply w_isint
  | ((with_reducible apply w_slS); (focus (walk_at "sz"; done)))
  | with_reducible apply w_iteT
  | with_reducible apply w_iteF
  | with_reducible apply w_iteN
  | ((with_reducible apply w_iteYes); (focus (exact rfl)))
  | ((with_reducible apply w_iteNo); (focus (exact rfl)))
  | ((with_reducible apply w_lenL); (focus (walk_at "sq"; done)))
  | ((with_reducible apply w_lenT); (focus (walk_at "hp"; done)))
  | ((with_reducible apply w_lenS); (focus (walk_at "sz"; done)))
  | with_reducible apply w_lc
  | with_reducible apply w_for
  | with_reducible apply w_yes
  | ((with_reducible apply w_wipe); (focus (exact rfl)))
  | with_reducible apply w_iList
  | with_reducible apply w_iTup
  | with_reducible apply w_iStr
  | with_reducible apply w_iRng1
  | with_reducible apply w_iRng2
  | with_reducible apply w_iZip
  | with_reducible apply w_iEnum
  | ((with_reducible apply d_iList); (focus (walk_at "sq"; done)))
  | ((with_reducible apply d_iTup); (focus (walk_at "hp"; done)))
  | with_reducible apply d_iStr
  | ((with_reducible apply d_iRng1); (focus (walk_at "num"; done)); (focus (walk_at "num"; done)))
  | ((with_reducible apply d_iRng2); (focus (walk_at "num"; done)); (focus (walk_at "num"; done)); (focus (walk_at "num"; done)); (focus (walk_at "num"; done)))
  | ((with_reducible apply d_iZip); (focus (walk_at "sq"; done)); (focus (walk_at "sq"; done)))
  | ((with_reducible apply d_iEnum); (focus (walk_at "sq"; done)))
  | walk_at "w2")
local macro_rules | `(tactic| walk_at "w2") => `(tactic| fail)
local macro_rules | `(tactic| walk_at "wn") => `(tactic| repeat walk_at "w1")
local macro_rules | `(tactic| walk_at "w") => `(tactic| repeat (first | walk_at "w1" | with_reducible apply w_ret))
local macro_rules | `(tactic| walk_at "w2") => `(tactic| first
  | ((with_reducible apply w_isInt); (focus (walk_at "r"; done)))
  | ((with_reducible apply w_isBool); (focus (walk_at "r"; done)))
  | ((with_reducible apply w_isStr); (focus (walk_at "r"; done)))
  | ((with_reducible apply w_isTup); (focus (walk_at "r"; done)))
  | ((with_reducible apply w_isLst); (focus (walk_at "r"; done)))
  | ((with_reducible apply w_notInP); (focus (assumption)))
  | ((with_reducible apply w_ixP); (focus (assumption)); (focus (assumption))))
section
theorem join_two (a b : Str) : Txt.join " " [a, b] = a ++ " " ++ b := by rw [TL.join_eq]; rfl
theorem join_one (a : Str) : Txt.join " " [a] = a := by rw [TL.join_eq]; rfl
theorem join_len {y : Str} : ∀ {ps : List Str}, ps ≠ [] → (Txt.join y ps).length + y.length = (ps.map (·.length)).sum + ps.length * y.length
  | [], h => absurd rfl h
  | [p], _ => by
    rw [TL.join_eq]
    show p.length + y.length = ([p].map (·.length)).sum + 1 * y.length
    simp
  | p :: q :: r, _ => by
    have ih := join_len (y := y) (ps := q :: r) (by simp)
    rw [TL.join_eq] at ih ⊢
    show (p ++ y ++ Str.join y (q :: r)).length + y.length = _
    rw [tl_len, tl_app, tl_app, List.length_append, List.length_append, ← tl_len, ← tl_len, ← tl_len]
    rw [List.map_cons, List.sum_cons, List.length_cons, Nat.succ_mul]
    omega
theorem ex_cases (e : Ex) : (∃ i, e = .num i) ∨ e = .arg ∨ ∃ (w : Str) (es : List Ex), e.data = .tuple (.str w :: es.map Ex.data) ∧ shE e = w ++ "[" ++ Txt.join " " (es.map shE) ++ "]" ∧ w.length ≤ 5 ∧ es ≠ [] ∧ es.length ≤ 2 ∧ ∀ a ∈ es, a.deep + 1 ≤ e.deep ∧ ∀ B, e.numsIn B → a.numsIn B := by
  cases e with
  | num i => exact .inl ⟨i, rfl⟩
  | arg => exact .inr (.inl rfl)
  | cell a =>
    refine .inr (.inr ⟨"cell", [a], rfl, by rw [List.map_cons, List.map_nil, join_one]; rfl, by decide +kernel, by simp, by simp, fun x hx => ?_⟩)
    cases List.mem_singleton.mp hx
    exact ⟨Nat.le_refl _, fun B h => h⟩
  | add a b =>
    refine .inr (.inr ⟨"add", [a, b], rfl, by rw [List.map_cons, List.map_cons, List.map_nil, join_two]; rfl, by decide +kernel, by simp, by simp, fun x hx => ?_⟩)
    simp only [List.mem_cons, List.not_mem_nil, or_false] at hx
    rcases hx with rfl | rfl
    · exact ⟨by simp only [Ex.deep]; omega, fun B h => h.1⟩
    · exact ⟨by simp only [Ex.deep]; omega, fun B h => h.2⟩
  | less a b =>
    refine .inr (.inr ⟨"less", [a, b], rfl, by rw [List.map_cons, List.map_cons, List.map_nil, join_two]; rfl, by decide +kernel, by simp, by simp, fun x hx => ?_⟩)
    simp only [List.mem_cons, List.not_mem_nil, or_false] at hx
    rcases hx with rfl | rfl
    · exact ⟨by simp only [Ex.deep]; omega, fun B h => h.1⟩
    · exact ⟨by simp only [Ex.deep]; omega, fun B h => h.2⟩
  | least a b =>
    refine .inr (.inr ⟨"least", [a, b], rfl, by rw [List.map_cons, List.map_cons, List.map_nil, join_two]; rfl, by decide +kernel, by simp, by simp, fun x hx => ?_⟩)
    simp only [List.mem_cons, List.not_mem_nil, or_false] at hx
    rcases hx with rfl | rfl
    · exact ⟨by simp only [Ex.deep]; omega, fun B h => h.1⟩
    · exact ⟨by simp only [Ex.deep]; omega, fun B h => h.2⟩
theorem all_str {bs : List Str} {acc : List V} {n : Nat} (hl : acc.length = n) (hb : bs.length = n) (h : ∀ (i : Nat) (y : V), acc[i]? = some y → ∃ b : Str, bs[i]? = some b ∧ y = .str b) : acc = bs.map V.str := by
  apply List.ext_getElem?
  intro i
  rw [List.getElem?_map]
  by_cases hi : i < n
  · obtain ⟨b, e1, e2⟩ := h i _ (List.getElem?_eq_getElem (by omega))
    rw [e1, List.getElem?_eq_getElem (by omega), e2]
    rfl
  · rw [List.getElem?_eq_none (by omega), List.getElem?_eq_none (by omega)]
    rfl
theorem len_app (a b : Str) : (a ++ b).length = a.length + b.length := by
  rw [tl_len, tl_app, List.length_append, ← tl_len, ← tl_len]
theorem len_lb : ("[" : Str).length = 1 := by decide +kernel
theorem len_rb : ("]" : Str).length = 1 := by decide +kernel
theorem len_bk : (" " : Str).length = 1 := by decide +kernel
theorem sum_mem {l : List Nat} {a : Nat} (h : a ∈ l) : a ≤ l.sum := by
  induction l with
  | nil => cases h
  | cons b r ih =>
    rw [List.sum_cons]
    rcases List.mem_cons.mp h with rfl | h
    · omega
    · have := ih h; omega
def sp_show_expression (K : PySem.W.Frag) (n : Nat) : Sp := fun vs H Q _ => ∃ (v : V) (e : Ex), vs = [v] ∧ Im H v e.data ∧ e.deep ≤ n ∧ e.numsIn shB ∧ (shE e).length ≤ 1000000 ∧ ∀ H', Chg [] H H' → Q (.str (shE e)) H'
theorem no_show_expression {K : PySem.W.Frag} (vs : List V) (H : Hp) (Q : VK) (E : XK) : ¬ sp_show_expression K 0 vs H Q E := by
  rintro ⟨v, e, _, _, h, _⟩
  have := e.deep_pos
  omega
def t_show_expression (K : PySem.W.Frag) (n : Nat) : TS :=
    tSeq (tIfS (tB (tCB (rIsi K) (tCons (tVar 0) (tCons (tC (.ty "int")) (tNil))))) (tRet (tCB cStrIB (tCons (tVar 0) (tNil)))) (tNext))
    (tSeq (tIfS (tTest (tOp rEq (tCB (cLenQ K) (tCons (tVar 0) (tNil))) (tC (.int 1)))) (tRet (tOp (rIxT K) (tVar 0) (tC (.int 0)))) (tNext))
    (tRet (tOp oAddS (tOp oAddS (tOp oAddS (tOp (rIxT K) (tVar 0) (tC (.int 0))) (tC (.str "["))) (tM1 (mJoin K) (tC (.str " ")) (tLc (iTup K (tSl (rSlA K) (tVar 0) (tPart (tC (.int 1))) (tNoPart))) (gName 1) (tYes) (tCall (sp_show_expression K n) [] E0 (tCons (tVar 1) (tNil))) [1]))) (tC (.str "]")))))
theorem pure_show_expression {K : PySem.W.Frag} (n : Nat) (vs : List V) (H : Hp) (Q : VK) (E : XK) (h : sp_show_expression K (n + 1) vs H Q E) : t_show_expression K n (fin Q) (start ["expression", "one"] vs) H := by
  obtain ⟨v, e, rfl, im, hd, hn, hl, q⟩ := h
  show t_show_expression K n _ [some v, none] H
  unfold t_show_expression
  rcases ex_cases e with ⟨i, rfl⟩ | rfl | ⟨w, es, ed, esh, lw, ne, l2, ea⟩
  · have im' : Im H v (.int i) := im
    cases im'
    walk_at "w"
    exact w_strIB (shB_log hn) (q H .refl)
  · have im' : Im H v (.tuple [.str "arg"]) := im
    have r := im'.any (S := fun _ => True)
    cases im' with
    | @tup a xs ds e ra =>
      cases ra with
      | @cons v0 vs0 d0 ds0 r0 rs =>
        cases r0
        cases rs
        walk_at "w"
        exact q H .refl
  · rw [ed] at im
    have r := im.any (S := fun _ => True)
    cases im with
    | @tup a xs ds e0 ra =>
      cases ra with
      | @cons v0 vs0 d0 ds0 r0 rs =>
        cases r0
        have ln := rs.length
        rw [List.length_map] at ln
        have jl := join_len (y := " ") (ps := es.map shE) (by simpa using ne)
        have hle : (shE e).length = w.length + 1 + (Txt.join " " (es.map shE)).length + 1 := by
          rw [esh, len_app, len_app, len_app, len_lb, len_rb]
        rw [List.length_map, len_bk] at jl
        walk_at "w"
        refine w_iteD (fun h => ?_) (fun _ => ?_)
        · have h := V.int.inj h
          rw [List.length_cons] at h
          have : es.length ≠ 0 := fun z => ne (List.length_eq_zero_iff.mp z)
          omega
        walk_at "w"
        refine w_slA e0 fun p' H2 c2 h2 => ?_
        rw [cut1] at h2
        have h2 : H2 p' = some (.tup vs0) := h2
        walk_at "w"
        have rs2 := rs.im c2
        refine w_lcP walk_tup [] (fun _ _ => True) (fun i y _ => ∃ s, (es.map shE)[i]? = some s ∧ y = .str s) trivial (fun _ _ _ _ _ _ _ => trivial) (fun H1 c => sqT (c.at h2)) (fun D i acc z H1 H3 hi nD hD el iv c _ y => ?_) (fun D acc H1 nD c _ el hD ys => ?_)
        · obtain ⟨rfl, ey⟩ := y
          obtain ⟨d1, ed1, r1⟩ := rs2.get (i := i) (v := z) ey
          rw [List.getElem?_map] at ed1
          have hi' : i < es.length := by have h6 : i < vs0.length := hi; omega
          rw [List.getElem?_eq_getElem hi'] at ed1
          cases ed1
          have hm := List.getElem_mem hi'
          obtain ⟨a1, a2⟩ := ea _ hm
          have a3 : (shE es[i]).length ≤ ((es.map shE).map (·.length)).sum := sum_mem (List.mem_map.mpr ⟨_, List.mem_map.mpr ⟨_, hm, rfl⟩, rfl⟩)
          walk_at "w"
          refine ⟨z, es[i], rfl, r1.im c, by omega, a2 _ hn, by omega, fun H4 c4 => ?_⟩
          exact lcp_end (fun _ _ _ _ _ _ _ => trivial) (fun _ _ _ _ _ _ _ h => h) nD (by simp) hD el (by omega) iv c4 trivial ⟨_, by rw [List.getElem?_map, List.getElem?_eq_getElem hi']; rfl, rfl⟩
        · have e3 : acc = (es.map shE).map V.str := all_str el (by rw [List.length_map]; exact ln.symm) ys
          subst e3
          walk_at "w"
          refine w_join (sqL hD) (by rw [List.length_map, len_bk]; omega) ?_
          refine w_addS (by rw [len_app, len_lb]; exact Nat.le_trans (show w.length + 1 + (Txt.join " " (es.map shE)).length ≤ 1000000 by omega) (by decide)) ?_
          walk_at "w"
          refine w_addS (by rw [len_app, len_app, len_lb, len_rb]; exact Nat.le_trans (show w.length + 1 + (Txt.join " " (es.map shE)).length + 1 ≤ 1000000 by omega) (by decide)) ?_
          walk_at "w"
          have qq := q H1 (c2.same c)
          rw [esh] at qq
          exact qq
end
section
local macro_rules | `(tactic| walk_at "ix2") => `(tactic| exact atN (by decide) rfl)
theorem lc_endM {D : Addr} {Iv : Addr → Nat → List V → Hp → Prop} {i : Nat} {y : V} {H4 : Hp} {acc : List V} (h : H4 D = some (.lst acc)) (hl : acc.length = i) (hz : i ≤ 10000000) (q : ∀ H5, Chg [D] H4 H5 → H5 D = some (.lst (acc ++ [y])) → Iv D (i + 1) (acc ++ [y]) H5) : LcK D Iv i y H4 := by
  subst hl
  exact ⟨acc, h, Nat.lt_of_le_of_lt hz (by decide), acc ++ [y], by simp, upd_same, q _ (.mut h fun _ e => nomatch e) upd_same⟩
theorem lcp_endM {H : Hp} {M : List Addr} {Jv : Nat → Hp → Prop} {Ys : Nat → V → Hp → Prop} {D : Addr} {i : Nat} {y : V} {acc : List V} {H1 H4 : Hp} (jst : ∀ i H1 H2 p, H p = none → Chg [p] H1 H2 → Jv i H1 → Jv i H2)
    (yst : ∀ i y H1 H2 p, H p = none → Chg (p :: M) H1 H2 → Ys i y H1 → Ys i y H2) (nD : H D = none) (hM : ∀ a ∈ M, H a ≠ none) (hD : H1 D = some (.lst acc)) (hl : acc.length = i) (hz : i ≤ 10000000) (iv : IvP H M Jv Ys D i acc H1)
    (c : Chg M H1 H4) (jq : Jv (i + 1) H4) (yq : Ys i y H4) : LcK D (IvP H M Jv Ys) i y H4 := by
  obtain ⟨c0, _, q⟩ := iv
  refine lc_endM (c.keep _ _ hD fun hm => hM D hm nD) hl hz fun H5 c5 h5 => ⟨?_, jst _ _ _ D nD c5 jq, fun j y' e => ?_⟩
  · exact (c0.both c).go c5 fun a ha => .inr (by rw [List.mem_singleton.mp ha]; exact nD)
  · by_cases hj : j < acc.length
    · rw [List.getElem?_append_left hj] at e
      exact yst j y' H4 H5 D nD (c5.wide (by simp)) (yst j y' H1 H4 D nD (c.wide (by intro a ha; exact List.mem_cons_of_mem _ ha)) (q j y' e))
    · have hj2 : j = acc.length := by
        have := (List.getElem?_eq_some_iff.mp e).1
        rw [List.length_append, List.length_singleton] at this
        omega
      subst hj2
      rw [List.getElem?_append_right (Nat.le_refl _), Nat.sub_self] at e
      cases (Option.some.inj (show some y = some y' from e))
      rw [hl]
      exact yst i y H4 H5 D nD (c5.wide (by simp)) yq
/-- no run of figures is too long -/
def FigL (l : Tx) : Prop := ∀ b, b <:+: l → (∀ d ∈ b, isFig d = true) → b.length + 1 ≤ rdL
theorem FigL.sub {a l : Tx} (h : FigL l) (s : a <:+: l) : FigL a := fun b hb => h b (List.IsInfix.trans hb s)
def ntE (K : PySem.W.Frag) (E : XK) (H : Hp) : Prop := ∀ H', Chg [] H H' → E (.ref (He.ga K "NoText")) none H'
theorem ntE.go {K : PySem.W.Frag} {E : XK} {H H' : Hp} (h : ntE K E H) (c : Chg [] H H') : ntE K E H' := fun H2 c2 => h H2 (c.same c2)
theorem take_infix {l : Tx} (k : Nat) : l.take k <:+: l := (List.take_prefix k l).isInfix
theorem drop_infix {l : Tx} (k : Nat) : l.drop k <:+: l := (List.drop_suffix k l).isInfix
theorem figsOf_infix (x : Str) : tlS (figsOf x) <:+: tlS x := by
  unfold figsOf
  split
  · rw [show (some (1 : Int)) = some ((1 : Nat) : Int) from rfl, cutS_drop, tl_stx]
    exact drop_infix 1
  · exact List.infix_refl _
theorem figsOf_len (x : Str) : x.length ≤ (figsOf x).length + 1 := by
  unfold figsOf
  split
  · rw [show (some (1 : Int)) = some ((1 : Nat) : Int) from rfl, cutS_drop, stx_len, List.length_drop, tl_len]
    omega
  · omega
theorem numOk_int {x : Str} (h : numOk x = true) (hl : x.length ≤ rdL) : ∃ n, PySem.intText? x = some n := by
  have hl : x.length ≤ 4300 := Nat.le_trans hl (by decide)
  unfold numOk at h
  rw [Bool.and_eq_true, Bool.and_eq_true] at h
  obtain ⟨⟨h1, h2⟩, _⟩ := h
  have h1 : figsOf x ≠ "" := by simpa using h1
  have h2 : ∀ c ∈ tlS (figsOf x), 48 ≤ c ∧ c ≤ 57 := fun c hc => by
    have := List.all_eq_true.mp h2 c hc
    have := fig_range (.inr this)
    unfold isFig at *
    rcases this with z | z
    · subst z; revert ‹_›; decide
    · exact z
  have ne : tlS (figsOf x) ≠ [] := fun z => h1 (by rw [empty_stx, ← z]; exact (stx_of _).symm)
  by_cases hx : (tlS x).head? = some 45
  · obtain ⟨r, hr⟩ : ∃ r, tlS x = 45 :: r := by
      cases e : tlS x with
      | nil => rw [e] at hx; cases hx
      | cons a r => rw [e] at hx; cases hx; exact ⟨r, rfl⟩
    have e := figsOf_neg hr
    rw [e, tl_stx] at h2 ne
    exact ⟨_, intText_neg hr h2 ne hl⟩
  · rw [figsOf_pos hx] at h2 ne
    exact ⟨_, intText_digits h2 ne hl⟩
theorem numOk_len {x : Str} (h : numOk x = true) (f : FigL (tlS x)) : x.length ≤ rdL := by
  unfold numOk at h
  rw [Bool.and_eq_true, Bool.and_eq_true] at h
  obtain ⟨⟨_, h2⟩, _⟩ := h
  have := f _ (figsOf_infix x) fun d hd => List.all_eq_true.mp h2 d hd
  have h3 := figsOf_len x
  have h4 := tl_len x
  have h5 := tl_len (figsOf x)
  omega
theorem rdN_none {x : Str} (h : numOk x = false) : rdN x = none := by
  unfold rdN
  rw [if_neg (by rw [h]; decide)]
def sp_read_number (K : PySem.W.Frag) : Sp := fun vs H Q E => ∃ x : Str, vs = [.str x] ∧ x.length ≤ 1000000 ∧ FigL (tlS x) ∧ (∀ n, rdN x = some n → ∀ H', Chg [] H H' → Q (.int n) H') ∧ (rdN x = none → ntE K E H)
def t_read_number (E : XK) (K : PySem.W.Frag) : TS :=
    tSeq (tAsg (tVar 0) (gName 1))
    (tSeq (tIfS (tTest (tOp rEq (tSl rSlS (tVar 0) (tNoPart) (tPart (tC (.int 1)))) (tC (.str "-")))) (tAsg (tSl rSlS (tVar 0) (tPart (tC (.int 1))) (tNoPart)) (gName 1)) (tNext))
    (tSeq (tIfS (tOr (tTest (tOp rEq (tVar 1) (tC (.str "")))) (tNot (tB (tCB (rAll K) (tCons (tLc (iStr (tVar 1)) (gName 2) (tYes) (tOp oInC (tVar 2) (tC (.str figs))) [2]) (tNil)))))) (tRaiseN (He.ga K "NoText") E) (tNext))
    (tSeq (tIfS (tAnd (tTest (tOp rEq (tOp rIxS (tVar 1) (tC (.int 0))) (tC (.str "0")))) (tTest (tOp rNe (tVar 0) (tC (.str "0"))))) (tRaiseN (He.ga K "NoText") E) (tNext))
    (tRet (tCB cIntS (tCons (tVar 0) (tNil)))))))
def t_number_in (E : XK) (K : PySem.W.Frag) : TS :=
    tSeq (tIfS (tOr (tTest (tOp rEq (tVar 1) (tC (.str "")))) (tNot (tB (tCB (rAll K) (tCons (tLc (iStr (tVar 1)) (gName 2) (tYes) (tOp oInC (tVar 2) (tC (.str figs))) [2]) (tNil)))))) (tRaiseN (He.ga K "NoText") E) (tNext))
    (tSeq (tIfS (tAnd (tTest (tOp rEq (tOp rIxS (tVar 1) (tC (.int 0))) (tC (.str "0")))) (tTest (tOp rNe (tVar 0) (tC (.str "0"))))) (tRaiseN (He.ga K "NoText") E) (tNext))
    (tRet (tCB cIntS (tCons (tVar 0) (tNil)))))
theorem number_in {E : XK} {K : PySem.W.Frag} {Q : VK} {H : Hp} {x f : Str} (ef : figsOf x = f) (hl : x.length ≤ 1000000) (fl : FigL (tlS x)) (qn : ∀ n, rdN x = some n → ∀ H', Chg [] H H' → Q (.int n) H') (qe : rdN x = none → ntE K E H) : t_number_in E K (fin Q) [some (.str x), some (.str f), none] H := by
  unfold t_number_in
  have lf : f.length ≤ 1000000 := by
    rw [← ef]
    refine Nat.le_trans ?_ hl
    rw [tl_len, tl_len]
    exact (figsOf_infix x).length_le
  have key : ∀ b, numOk x = b → (!decide (f = "") && f.cps.toList.all isFig && !(decide (f.cps.toList.head? = some 48) && !decide (x = "0"))) = b := fun b h => by
    unfold numOk at h
    rw [ef] at h
    exact h
  have bad : (!decide (f = "") && f.cps.toList.all isFig && !(decide (f.cps.toList.head? = some 48) && !decide (x = "0"))) = false → ntE K E H := fun h => qe (rdN_none (by
    unfold numOk
    rw [ef]
    exact h))
  walk_at "w"
  refine w_iteD (fun h => ?_) (fun h => ?_)
  · have h := V.str.inj h
    walk_at "w"
    exact w_raiseN (bad (by rw [decide_eq_true h]; rfl) H .refl)
  have h : f ≠ "" := fun z => h (by rw [z])
  walk_at "w"
  refine w_lcP walk_str [] (fun _ _ => True) (fun i y _ => ∃ c, f.cps[i]? = some c ∧ y = .bl (isFig c)) trivial (fun _ _ _ _ _ _ _ => trivial) (fun _ _ => trivial) (fun D i acc z H1 H2 hi nD hD el iv c _ y => ?_) (fun D acc H1 nD c _ el hD ys => ?_)
  · obtain ⟨rfl, ch, ech, rfl⟩ := y
    walk_at "w"
    have e : decide (ch ∈ figs.cps.toList) = isFig ch := by
      by_cases z : isFig ch = true
      · rw [z, decide_eq_true ((fig_iff ch).mpr z)]
      · have z2 : isFig ch = false := by simpa using z
        rw [z2, decide_eq_false fun w => z ((fig_iff ch).mp w)]
    rw [e]
    exact lcp_endM (fun _ _ _ _ _ _ _ => trivial) (fun _ _ _ _ _ _ _ h => h) nD (by simp) hD el (by
      have h6 : i < f.length := hi
      omega) iv .refl trivial ⟨ch, ech, rfl⟩
  · have e : acc = (f.cps.toList.map isFig).map V.bl := by
      refine all_bl el (by rw [List.length_map]; rfl) fun i y hy => ?_
      obtain ⟨ch, ec, rfl⟩ := ys i y hy
      exact ⟨isFig ch, by rw [List.getElem?_map, Array.getElem?_toList, ec]; rfl, rfl⟩
    subst e
    walk_at "w"
    refine w_all hD ?_
    rw [List.all_map]
    have ea : f.cps.toList.all (id ∘ isFig) = f.cps.toList.all isFig := rfl
    rw [ea]
    walk_at "w"
    refine w_iteB (fun h2 => ?_) (fun h2 => ?_)
    · walk_at "w"
      cases ehd : f.cps.toList with
      | nil => exact absurd (by rw [empty_stx, ← ehd]; exact (stx_of f).symm) h
      | cons ch r =>
        have lf2 : f.length ≤ sizeLine := Nat.le_trans lf (by decide)
        refine w_ixS lf2 (c := ch) (by rw [ehd]; exact at0) ?_
        walk_at "w"
        have e48 : decide (V.str (⟨#[ch]⟩ : Str) = V.str "0") = decide (ch = 48) := by
          by_cases z : ch = 48
          · subst z; rw [decide_eq_true rfl, decide_eq_true (by decide +kernel)]
          · rw [decide_eq_false z, decide_eq_false fun w => z (by
              have := V.str.inj w
              rw [zero_stx] at this
              have := stx_inj (show stx [ch] = stx [48] from this)
              exact (List.cons.inj this).1)]
        have e0 : decide (V.str x = V.str "0") = decide (x = "0") := by
          by_cases z : x = "0"
          · rw [z, decide_eq_true rfl, decide_eq_true rfl]
          · rw [decide_eq_false z, decide_eq_false fun w => z (V.str.inj w)]
        have ehd2 : f.cps.toList.head? = some ch := by rw [ehd]; rfl
        have eok : (!decide (f = "") && f.cps.toList.all isFig && !(decide (f.cps.toList.head? = some 48) && !decide (x = "0"))) = !(decide (ch = 48) && !decide (x = "0")) := by
          rw [decide_eq_false h, h2, ehd2, show decide (some ch = some 48) = decide (ch = 48) from by
            by_cases z : ch = 48
            · subst z; rfl
            · rw [decide_eq_false z, decide_eq_false fun w => z (Option.some.inj w)]]
          rfl
        have fin_ : numOk x = true → cIntS [.str x] H1 (fin Q).rt := fun ok => by
          have lx := numOk_len ok fl
          obtain ⟨n, en⟩ := numOk_int ok lx
          refine w_intS en lx (qn n ?_ H1 c)
          unfold rdN
          rw [if_pos ok, en]
        have okT : (decide (ch = 48) && !decide (x = "0")) = false → numOk x = true := fun z => by
          cases hb : numOk x with
          | true => rfl
          | false =>
            have := key _ hb
            rw [eok, z] at this
            cases this
        have okF : (decide (ch = 48) && !decide (x = "0")) = true → ntE K E H := fun z => bad (by rw [eok, z]; rfl)
        rw [e48]
        refine w_iteD (fun h3 => ?_) (fun h3 => ?_)
        · walk_at "w"
          refine w_iteD (fun h4 => ?_) (fun h4 => ?_)
          · have h4 := V.str.inj h4
            walk_at "w"
            exact fin_ (okT (by rw [decide_eq_true h4, Bool.not_true, Bool.and_false]))
          · have h4 : x ≠ "0" := fun z => h4 (by rw [z])
            walk_at "w"
            exact w_raiseN (okF (by rw [decide_eq_true h3, decide_eq_false h4]; rfl) H1 c)
        · walk_at "w"
          exact fin_ (okT (by rw [decide_eq_false h3]; rfl))
    · walk_at "w"
      exact w_raiseN (bad (by rw [h2, Bool.and_false]; rfl) H1 c)
theorem pure_read_number {K : PySem.W.Frag} (vs : List V) (H : Hp) (Q : VK) (E : XK) (h : sp_read_number K vs H Q E) : t_read_number E K (fin Q) (start ["text", "figures", "sign"] vs) H := by
  obtain ⟨x, rfl, hl, fl, qn, qe⟩ := h
  show t_read_number E K _ [some (.str x), none, none] H
  show tSeq _ (tSeq _ (t_number_in E K)) (fin Q) _ H
  have lx : x.length ≤ sizeLine := Nat.le_trans hl (by decide)
  walk_at "w"
  refine w_iteD (fun h => ?_) (fun h => ?_)
  · have h := V.str.inj h
    walk_at "w"
    refine number_in ?_ hl fl qn qe
    unfold figsOf
    rw [if_pos h]
  · have h : cutS x none (some 1) ≠ "-" := fun z => h (by rw [z])
    walk_at "w"
    refine number_in ?_ hl fl qn qe
    unfold figsOf
    rw [if_neg h]
end
section
theorem one_eq (c d : Nat) (z : Str) (hz : z = stx [d]) : decide (V.str (⟨#[c]⟩ : Str) = V.str z) = decide (c = d) := by
  subst hz
  by_cases h : c = d
  · subst h; rw [decide_eq_true (show V.str (⟨#[c]⟩ : Str) = V.str (stx [c]) from rfl), decide_eq_true rfl]
  · rw [decide_eq_false h, decide_eq_false fun w => h (by
      have := stx_inj (show stx [c] = stx [d] from V.str.inj w)
      exact (List.cons.inj this).1)]
theorem lb_stx : ("[" : Str) = stx [91] := by decide +kernel
theorem rb_stx : ("]" : Str) = stx [93] := by decide +kernel
theorem bk_stx : (" " : Str) = stx [32] := by decide +kernel
theorem ptd_cons (lv : Int) (c : Nat) (r : Tx) : ptd lv (c :: r) = if (if c = 91 then lv + 1 else if c = 93 then lv - 1 else lv) < 0 then none
    else if c = 32 ∧ (if c = 91 then lv + 1 else if c = 93 then lv - 1 else lv) = 0 then (ptd (if c = 91 then lv + 1 else if c = 93 then lv - 1 else lv) r).map fun ps => [] :: ps
    else (ptd (if c = 91 then lv + 1 else if c = 93 then lv - 1 else lv) r).map (cons1 c) := by rw [ptd]
def nlv (lv : Int) (c : Nat) : Int := if c = 91 then lv + 1 else if c = 93 then lv - 1 else lv
theorem ptd_step (lv : Int) (c : Nat) (r : Tx) : ptd lv (c :: r) = if nlv lv c < 0 then none else if c = 32 ∧ nlv lv c = 0 then (ptd (nlv lv c) r).map fun ps => [] :: ps else (ptd (nlv lv c) r).map (cons1 c) := ptd_cons lv c r
/-- the parts of a text are within it -/
theorem ptd_infix : ∀ {lv : Int} {l : Tx} {ps : List Tx}, ptd lv l = some ps → ∀ q ∈ ps, q <:+: l
  | lv, [], ps, h, q, hq => by
    cases h
    cases List.mem_singleton.mp hq
    exact List.infix_refl _
  | lv, c :: r, ps, h, q, hq => by
    suffices hs : ∀ {lv : Int} {l : Tx} {ps : List Tx}, ptd lv l = some ps → ∃ p qs, ps = p :: qs ∧ p <+: l ∧ ∀ q ∈ qs, q <:+: l by
      obtain ⟨p, qs, rfl, h1, h2⟩ := hs h
      rcases List.mem_cons.mp hq with rfl | hq
      · exact h1.isInfix
      · exact h2 q hq
    intro lv l
    induction l generalizing lv with
    | nil => intro ps h; cases h; exact ⟨[], [], rfl, List.prefix_refl _, fun q hq => by cases hq⟩
    | cons c r ih =>
      intro ps h
      rw [ptd_step] at h
      split at h
      · cases h
      · split at h
        · obtain ⟨qs, h1, rfl⟩ := Option.map_eq_some_iff.mp h
          obtain ⟨p, qs, rfl, h2, h3⟩ := ih h1
          refine ⟨[], p :: qs, rfl, List.nil_prefix, fun q hq => ?_⟩
          rcases List.mem_cons.mp hq with rfl | hq
          · exact h2.isInfix.trans (List.suffix_cons c r).isInfix
          · exact (h3 q hq).trans (List.suffix_cons c r).isInfix
        · obtain ⟨qs, h1, rfl⟩ := Option.map_eq_some_iff.mp h
          obtain ⟨p, qs, rfl, h2, h3⟩ := ih h1
          exact ⟨c :: p, qs, rfl, (List.prefix_cons_inj c).mpr h2, fun q hq => (h3 q hq).trans (List.suffix_cons c r).isInfix⟩
theorem ix_last (xs : List V) (y : V) : ixN (xs ++ [y]).length (-1) = some xs.length := by
  unfold ixN
  rw [List.length_append]
  simp
  omega
theorem map_f {o : Option (List Tx)} {f g : List Tx → List Tx} (h : ∀ ps, o = some ps → f ps = g ps) : o.map f = o.map g := by
  cases o with
  | none => rfl
  | some ps => show some (f ps) = some (g ps); rw [h ps rfl]
theorem map_map_f {o : Option (List Tx)} {f g k : List Tx → List Tx} (h : ∀ ps, o = some ps → f (g ps) = k ps) : (o.map g).map f = o.map k := by
  rw [Option.map_map]
  exact map_f h
theorem map_stx (l : List Str) : (l.map tlS).map stx = l := by
  rw [List.map_map]
  conv => rhs; rw [← List.map_id l]
  exact List.map_congr_left fun a _ => stx_of a
def sp_parted (K : PySem.W.Frag) : Sp := fun vs H Q E => ∃ x : Str, vs = [.str x] ∧ x.length ≤ 1000000 ∧ (∀ ps, ptdS x = some ps → ∀ F H', H F = none → Chg [] H H' → H' F = some (.lst (ps.map V.str)) → Q (.ref F) H') ∧ (ptdS x = none → ntE K E H)
def t_parted (E : XK) (K : PySem.W.Frag) : TS :=
    tSeq (tAsg (tLst (tCons (tC (.str "")) (tNil))) (gName 1))
    (tSeq (tAsg (tC (.int 0)) (gName 2))
    (tSeq (tFor (iStr (tVar 0)) (gName 3) (tSeq (tIfS (tTest (tOp rEq (tVar 3) (tC (.str "[")))) (tAug 2 (tC (.int 1)) (ipI fun i j => i + j)) (tIfS (tTest (tOp rEq (tVar 3) (tC (.str "]")))) (tAug 2 (tC (.int 1)) (ipI fun i j => i - j)) (tNext)))
    (tSeq (tIfS (tTest (tOp oLt (tVar 2) (tC (.int 0)))) (tRaiseN (He.ga K "NoText") E) (tNext))
    (tIfS (tAnd (tTest (tOp rEq (tVar 3) (tC (.str " ")))) (tTest (tOp rEq (tVar 2) (tC (.int 0))))) (tDrop (tBM K "list" rAppend (tVar 1) (tCons (tC (.str "")) (tNil)))) (tAsg (tOp oAddS (tOp (rIxL K) (tVar 1) (tUn (rU fun i => .int (-i)) (tC (.int 1)))) (tVar 3)) (gSub (tVar 1) (tUn (rU fun i => .int (-i)) (tC (.int 1))) rSetL))))))
    (tRet (tVar 1))))
def t_parted_in (E : XK) (K : PySem.W.Frag) : TS :=
    tSeq (tIfS (tTest (tOp oLt (tVar 2) (tC (.int 0)))) (tRaiseN (He.ga K "NoText") E) (tNext))
    (tIfS (tAnd (tTest (tOp rEq (tVar 3) (tC (.str " ")))) (tTest (tOp rEq (tVar 2) (tC (.int 0))))) (tDrop (tBM K "list" rAppend (tVar 1) (tCons (tC (.str "")) (tNil)))) (tAsg (tOp oAddS (tOp (rIxL K) (tVar 1) (tUn (rU fun i => .int (-i)) (tC (.int 1)))) (tVar 3)) (gSub (tVar 1) (tUn (rU fun i => .int (-i)) (tC (.int 1))) rSetL)))
theorem pure_parted {K : PySem.W.Frag} (vs : List V) (H : Hp) (Q : VK) (E : XK) (h : sp_parted K vs H Q E) : t_parted E K (fin Q) (start ["text", "found", "level", "sign"] vs) H := by
  obtain ⟨x, rfl, hl, qs, qe⟩ := h
  show t_parted E K _ [some (.str x), none, none, none] H
  unfold t_parted
  have lx := tl_len x
  walk_at "w"
  refine k_lst (by walk_at "sz") fun F H0 nF c0 hF => ?_
  walk_at "w"
  refine for_it walk_str (fun i σ H1 => Chg [] H H1 ∧ ∃ (acc : List Str) (cur : Str) (lv : Int) (y3 : Option V), σ = [some (.str x), some (.ref F), some (.int lv), y3] ∧ H1 F = some (.lst ((acc ++ [cur]).map V.str)) ∧ 0 ≤ lv ∧ acc.length + cur.length ≤ i ∧
      ptd 0 (tlS x) = (ptd lv ((tlS x).drop i)).map fun ps => acc.map tlS ++ consL (tlS cur) ps)
    ⟨c0, [], "", 0, none, rfl, hF, Int.le_refl _, Nat.le_refl _, by
      rw [List.drop_zero]
      show _ = (ptd 0 (tlS x)).map fun ps => consL [] ps
      exact (map_consL_nil _ ptd_nn).symm⟩ (fun _ _ _ _ _ => trivial) (fun i y σ H1 H2 hi z yy => ?_) (fun σ H1 z => ?_)
  · obtain ⟨c1, acc, cur, lv, y3, rfl, hF1, lv0, lac, inv⟩ := z
    obtain ⟨rfl, ch, ech, rfl⟩ := yy
    have hi' : i < (tlS x).length := by show i < x.cps.toList.length; rw [Array.length_toList]; exact hi
    have ech2 : (tlS x)[i]? = some ch := by show x.cps.toList[i]? = some ch; rw [Array.getElem?_toList]; exact ech
    have edr : (tlS x).drop i = ch :: (tlS x).drop (i + 1) := by
      rw [List.drop_eq_getElem_cons hi']
      rw [List.getElem?_eq_getElem hi'] at ech2
      rw [Option.some.inj ech2]
    rw [edr, ptd_step] at inv
    have lvl : ∀ (v : Int), v = nlv lv ch → ∀ De : Ends, De.nx = (fun σ H1 => Chg [] H H1 ∧ ∃ (acc : List Str) (cur : Str) (lv : Int) (y3 : Option V), σ = [some (.str x), some (.ref F), some (.int lv), y3] ∧ H1 F = some (.lst ((acc ++ [cur]).map V.str)) ∧ 0 ≤ lv ∧ acc.length + cur.length ≤ i + 1 ∧
        ptd 0 (tlS x) = (ptd lv ((tlS x).drop (i + 1))).map fun ps => acc.map tlS ++ consL (tlS cur) ps) → t_parted_in E K De [some (.str x), some (.ref F), some (.int v), some (.str ⟨#[ch]⟩)] H2 := by
      intro v ev De hn
      subst ev
      unfold t_parted_in
      walk_at "w"
      refine w_iteD (fun h => ?_) (fun h => ?_)
      · walk_at "w"
        refine w_raiseN (qe ?_ H2 c1)
        show (ptd 0 (tlS x)).map _ = none
        rw [inv, if_pos h]
        rfl
      rw [if_neg h] at inv
      walk_at "w"
      rw [one_eq ch 32 _ bk_stx]
      have fin1 : ¬ (ch = 32 ∧ nlv lv ch = 0) → tAsg (tOp oAddS (tOp (rIxL K) (tVar 1) (tUn (rU fun i => .int (-i)) (tC (.int 1)))) (tVar 3)) (gSub (tVar 1) (tUn (rU fun i => .int (-i)) (tC (.int 1))) rSetL) De [some (.str x), some (.ref F), some (.int (nlv lv ch)), some (.str ⟨#[ch]⟩)] H2 := fun hn1 => by
        rw [if_neg hn1] at inv
        rw [List.map_append] at hF1
        have hF1 : H2 F = some (.lst (acc.map V.str ++ [V.str cur])) := hF1
        walk_at "w"
        refine w_ixL (sqL hF1) (v := .str cur) (atI_last _ _) ?_
        walk_at "w"
        have l1 : (⟨#[ch]⟩ : Str).length = 1 := rfl
        refine w_addS (by rw [l1]; exact Nat.le_trans (show cur.length + 1 ≤ 3000000 by omega) (by decide)) ?_
        walk_at "w"
        refine w_setL hF1 (ix_last _ _) fun H3 c3 hF3 => ?_
        rw [hn]
        refine ⟨c1.one c3 nF, acc, cur ++ ⟨#[ch]⟩, nlv lv ch, some (.str ⟨#[ch]⟩), rfl, ?_, by omega, by rw [len_app, l1]; omega, ?_⟩
        · rw [hF3, List.set_append_right _ _ (Nat.le_refl _), Nat.sub_self, List.map_append]
          rfl
        · rw [inv]
          refine map_map_f fun ps hp => ?_
          have nn := ptd_nn ps hp
          rw [cons1_L nn, ← consL_app nn, tl_app]
      refine w_iteD (fun h3 => ?_) (fun h3 => ?_)
      · walk_at "w"
        refine w_iteD (fun h4 => ?_) (fun h4 => ?_)
        · have h4 := V.int.inj h4
          rw [if_pos ⟨h3, h4⟩] at inv
          walk_at "w"
          refine w_append hF1 (by rw [List.length_map, List.length_append]; exact Nat.lt_of_le_of_lt (show acc.length + 1 ≤ 3000000 by omega) (by decide)) fun H3 c3 hF3 => ?_
          rw [hn]
          refine ⟨c1.one c3 nF, acc ++ [cur], "", nlv lv ch, some (.str ⟨#[ch]⟩), rfl, ?_, by omega, ?_, ?_⟩
          · rw [hF3, List.map_append, List.map_append, List.map_append]
            rfl
          · rw [List.length_append]
            show acc.length + 1 + 0 ≤ _
            omega
          · rw [inv]
            refine map_map_f fun ps hp => ?_
            have nn := ptd_nn ps hp
            rw [List.map_append, List.append_assoc]
            cases ps with
            | nil => exact absurd rfl nn
            | cons p ps =>
              show acc.map tlS ++ ((tlS cur ++ []) :: p :: ps) = acc.map tlS ++ ([tlS cur] ++ ([] ++ p) :: ps)
              rw [List.append_nil]
              rfl
        · exact fin1 fun z => h4 (by rw [z.2])
      · exact fin1 fun z => h3 z.1
    unfold t_parted_in at lvl
    refine w_gName (w_seq (w_if (w_test (w_op (w_var rfl (w_c (w_eq rfl ⟨_, rfl, ?_⟩)))))))
    rw [one_eq ch 91 _ lb_stx]
    refine w_iteD (fun h => ?_) (fun h => ?_)
    · refine w_aug rfl (w_c (w_ipI ?_))
      exact lvl _ (by unfold nlv; rw [if_pos h]) _ rfl
    · refine w_if (w_test (w_op (w_var rfl (w_c (w_eq rfl ⟨_, rfl, ?_⟩)))))
      rw [one_eq ch 93 _ rb_stx]
      refine w_iteD (fun h2 => ?_) (fun h2 => ?_)
      · refine w_aug rfl (w_c (w_ipI ?_))
        exact lvl _ (by unfold nlv; rw [if_neg h, if_pos h2]) _ rfl
      · refine w_next ?_
        exact lvl _ (by unfold nlv; rw [if_neg h, if_neg h2]) _ rfl
  · obtain ⟨c1, acc, cur, lv, y3, rfl, hF1, lv0, lac, inv⟩ := z
    walk_at "w"
    rw [List.drop_of_length_le (by rw [← lx]; exact Nat.le_refl _)] at inv
    refine qs (acc ++ [cur]) ?_ F H1 nF c1 hF1
    show (ptd 0 (tlS x)).map (fun ps => ps.map stx) = _
    rw [inv]
    show some ((acc.map tlS ++ [tlS cur ++ []]).map stx) = _
    rw [List.append_nil, ← List.map_singleton (f := tlS), ← List.map_append, map_stx]
end
section
theorem w_cat {l b : Addr} {xs zs : List V} {H : Hp} {Q : VK} (h1 : H l = some (.lst xs)) (h2 : H b = some (.lst zs)) (hz : xs.length + zs.length ≤ 100000) (q : ∀ p H2, H p = none → Chg [] H H2 → H2 p = some (.lst (xs ++ zs)) → Q (.ref p) H2) : rCat (.ref l) (.ref b) H Q :=
  ⟨l, b, xs, zs, rfl, rfl, h1, h2, Nat.le_trans hz (by decide), fun p np => q p _ np (.new np) upd_same⟩
end
section
local macro_rules | `(tactic| walk_at "w2") => `(tactic| with_reducible apply w_callX)
theorem ptd_len : ∀ {l : Tx} {lv : Int} {ps : List Tx}, ptd lv l = some ps → ps.length ≤ l.length + 1
  | [], lv, ps, h => by cases h; simp
  | c :: r, lv, ps, h => by
    rw [ptd_step] at h
    split at h
    · cases h
    · split at h
      · obtain ⟨qs, h1, rfl⟩ := Option.map_eq_some_iff.mp h
        have := ptd_len h1
        simp only [List.length_cons]
        omega
      · obtain ⟨qs, h1, rfl⟩ := Option.map_eq_some_iff.mp h
        have := ptd_len h1
        cases qs with
        | nil => simp [cons1]
        | cons q qs =>
          simp only [cons1, List.length_cons] at this ⊢
          omega
theorem ptdS_facts {x : Str} {ps : List Str} (h : ptdS x = some ps) : ps.length ≤ x.length + 1 ∧ ps ≠ [] ∧ ∀ q ∈ ps, tlS q <:+: tlS x := by
  obtain ⟨qs, h1, rfl⟩ := Option.map_eq_some_iff.mp (show (ptd 0 (tlS x)).map (fun ps => ps.map stx) = some ps from h)
  refine ⟨?_, ?_, fun q hq => ?_⟩
  · have := ptd_len h1
    rw [List.length_map, tl_len]
    omega
  · have := ptd_nn _ h1
    simpa using this
  · obtain ⟨r, hr, rfl⟩ := List.mem_map.mp hq
    rw [tl_stx]
    exact ptd_infix h1 r hr
theorem infix_len {x y : Str} (h : tlS x <:+: tlS y) : x.length ≤ y.length := by
  rw [tl_len, tl_len]
  exact h.length_le
theorem mapO_none {α β : Type} {f : α → Option β} {a : α} (h : f a = none) : ∀ {l : List α} {i : Nat}, l[i]? = some a → mapO f l = none
  | [], i, e => by simp at e
  | b :: r, 0, e => by
    cases (show some b = some a from e)
    show (f a).bind _ = none
    rw [h]
    rfl
  | b :: r, i + 1, e => by
    show (f b).bind _ = none
    have ih := mapO_none (l := r) (i := i) h (by simpa using e)
    cases f b with
    | none => rfl
    | some c =>
      show (mapO f r).bind _ = none
      rw [ih]
      rfl
theorem mapO_get {α β : Type} {f : α → Option β} : ∀ {l : List α} {bs : List β}, bs.length = l.length → (∀ (i : Nat) (a : α) (b : β), l[i]? = some a → bs[i]? = some b → f a = some b) → mapO f l = some bs
  | [], [], _, _ => rfl
  | [], b :: bs, h, _ => by simp at h
  | a :: l, [], h, _ => by simp at h
  | a :: l, b :: bs, h, g => by
    show (f a).bind _ = _
    rw [g 0 a b rfl rfl]
    show (mapO f l).bind _ = _
    rw [mapO_get (l := l) (bs := bs) (by simpa using h) fun i a' b' h1 h2 => g (i + 1) a' b' (by simpa using h1) (by simpa using h2)]
    rfl
theorem pick_data {P : Nat → V → PyData → Prop} {acc : List V} (h : ∀ i y, acc[i]? = some y → ∃ d, P i y d) : ∃ ds : List PyData, ds.length = acc.length ∧ ∀ i y d, acc[i]? = some y → ds[i]? = some d → P i y d := by
  induction acc generalizing P with
  | nil => exact ⟨[], rfl, fun i y d h => by simp at h⟩
  | cons v r ih =>
    obtain ⟨s, hs⟩ := h 0 v rfl
    obtain ⟨ss, hl, hss⟩ := ih (P := fun i y s => P (i + 1) y s) fun i y hy => h (i + 1) y hy
    refine ⟨s :: ss, by rw [List.length_cons, List.length_cons, hl], fun i y t hy ht => ?_⟩
    cases i with
    | zero =>
      cases (Option.some.inj (show some v = some y from hy))
      cases (Option.some.inj (show some s = some t from ht))
      exact hs
    | succ i => exact hss i y t hy ht
theorem imA_d {H : Hp} : ∀ {acc : List V} {ds : List PyData}, ds.length = acc.length → (∀ (i : Nat) (y : V) (d : PyData), acc[i]? = some y → ds[i]? = some d → Im H y d) → ImA H acc ds
  | [], [], _, _ => .nil
  | [], _ :: _, h, _ => by simp at h
  | _ :: _, [], h, _ => by simp at h
  | v :: r, s :: ss, h, hi => .cons (hi 0 v s rfl rfl) (imA_d (by simpa using h) fun i y t hy ht => hi (i + 1) y t hy ht)
theorem w_catM {l b : Addr} {xs zs : List V} {H : Hp} {Q : VK} (h1 : H l = some (.lst xs)) (h2 : H b = some (.lst zs)) (hz : xs.length + zs.length ≤ 10000000) (q : ∀ p H2, H p = none → Chg [] H H2 → H2 p = some (.lst (xs ++ zs)) → Q (.ref p) H2) : rCat (.ref l) (.ref b) H Q :=
  ⟨l, b, xs, zs, rfl, rfl, h1, h2, Nat.le_trans hz (by decide), fun p np => q p _ np (.new np) upd_same⟩
theorem w_tupL {K : PySem.W.Frag} {p : Addr} {xs : List V} {H : Hp} {Q : VK} (h : H p = some (.lst xs)) (q : ∀ p' H2, H p' = none → Chg [] H H2 → H2 p' = some (.tup xs) → Q (.ref p') H2) : cTupQ K [.ref p] H Q := ⟨p, xs, rfl, .inl ⟨sqL h, d_new q⟩⟩
/-- the text ahead of the first bracket -/
theorem part_word (x : Str) : tlS (Txt.partition x "[").1 <:+: tlS x := by
  rw [lb_one]
  by_cases h : 91 ∈ x.cps.toList
  · rw [partition_at h]
    show tlS (stx _) <:+: _
    rw [tl_stx]
    exact (List.takeWhile_prefix _).isInfix
  · rw [partition_no h]
    exact List.infix_refl _
theorem cut_in (x : Str) (k : Nat) : tlS (cutS x (some (k : Int)) (some (-1))) <:+: tlS x := by
  rw [cutS_mid, tl_stx]
  exact (drop_infix k).trans (take_infix _)
def sp_read_expression (K : PySem.W.Frag) (n : Nat) : Sp := fun vs H Q E => ∃ (x : Str) (m : Nat), vs = [.str x, .int (m : Nat)] ∧ m + 1 ≤ n ∧ x.length ≤ 1000000 ∧ FigL (tlS x) ∧ (∀ d, rdE m x = some d → ∀ v H', Chg [] H H' → Im H' v d → Q v H') ∧ (rdE m x = none → ntE K E H)
theorem no_read_expression {K : PySem.W.Frag} (vs : List V) (H : Hp) (Q : VK) (E : XK) : ¬ sp_read_expression K 0 vs H Q E := by
  rintro ⟨x, m, _, h, _⟩
  omega
def t_read_expression (E : XK) (K : PySem.W.Frag) (dP : Addr) (n : Nat) : TS :=
    tSeq (tIfS (tTest (tOp oLt (tVar 1) (tC (.int 1)))) (tRaiseN (He.ga K "NoText") E) (tNext))
    (tSeq (tIfS (tTest (tOp rEq (tVar 0) (tC (.str "arg")))) (tRet (tTup (tCons (tC (.str "arg")) (tNil)))) (tNext))
    (tSeq (tIfS (tTest (tOp rNe (tSl rSlS (tVar 0) (tPart (tUn (rU fun i => .int (-i)) (tC (.int 1)))) (tNoPart)) (tC (.str "]")))) (tRet (tCallSD (sp_read_number K) [] (WE (fun cls d _ H => E cls d H)) (tCons (tVar 0) (tNil)))) (tNext))
    (tSeq (tAsg (tOp (rIxT K) (tM1 mPartition (tVar 0) (tC (.str "["))) (tC (.int 0))) (gName 2))
    (tSeq (tIfS (tOr (tTest (tOp (oNotInKd K dP) (tVar 2) (tC (.ref dP)))) (tTest (tOp rEq (tVar 2) (tC (.str "arg"))))) (tRaiseN (He.ga K "NoText") E) (tNext))
    (tSeq (tAsg (tCallSD (sp_parted K) [] (WE (fun cls d _ H => E cls d H)) (tCons (tSl rSlS (tVar 0) (tPart (tOp oAdd (tCB cLenS (tCons (tVar 2) (tNil))) (tC (.int 1)))) (tPart (tUn (rU fun i => .int (-i)) (tC (.int 1))))) (tNil))) (gName 3))
    (tRet (tCB (cTupQ K) (tCons (tOp rCat (tLst (tCons (tVar 2) (tNil))) (tLc (iList K (tVar 3)) (gName 4) (tYes) (tCallSD (sp_read_expression K n) [] (WE (fun cls d _ H => E cls d H)) (tCons (tVar 4) (tCons (tOp oSub (tVar 1) (tC (.int 1))) (tNil)))) [4])) (tNil)))))))))
theorem pure_read_expression {K : PySem.W.Frag} {w : World} {dP : Addr} (T : Parts K w dP) (n : Nat) (vs : List V) (H : Hp) (Q : VK) (E : XK) (h : sp_read_expression K (n + 1) vs H Q E) : t_read_expression E K dP n (fin Q) (start ["text", "most", "word", "inner", "one"] vs) H := by
  obtain ⟨x, m, rfl, hm, hl, fl, qd, qe⟩ := h
  show t_read_expression E K dP n _ [some (.str x), some (.int (m : Nat)), none, none, none] H
  unfold t_read_expression
  have lx : x.length ≤ sizeLine := Nat.le_trans hl (by decide)
  walk_at "w"
  refine w_iteD (fun h => ?_) (fun h => ?_)
  · walk_at "w"
    have e : m = 0 := by omega
    subst e
    exact w_raiseN (qe rfl H .refl)
  obtain ⟨k, rfl⟩ : ∃ k, m = k + 1 := ⟨m - 1, by omega⟩
  walk_at "w"
  refine w_iteD (fun h1 => ?_) (fun h1 => ?_)
  · have h1 := V.str.inj h1
    walk_at "w"
    refine k_tup (by walk_at "sz") fun p H1 np c1 hp => ?_
    exact qd _ (by rw [rdE, if_pos h1]) _ H1 c1 (.tup hp (.cons (.str _) .nil))
  have h1 : x ≠ "arg" := fun z => h1 (by rw [z])
  walk_at "w"
  refine w_iteD (fun h2 => ?_) (fun h2 => ?_)
  · have h2 := V.str.inj h2
    walk_at "w"
    refine w_partition (by decide +kernel) lx fun tp H1 ntp c1 htp => ?_
    walk_at "w"
    have iw := part_word x
    have ew : (Txt.partition x "[").1 = (Txt.partition x "[").1 := rfl
    have rdq : rdE (k + 1) x = if partsOf (Txt.partition x "[").1 = none ∨ (Txt.partition x "[").1 = "arg" then none
        else (ptdS (cutS x (some ((Txt.partition x "[").1.length + 1)) (some (-1)))).bind fun ps => (mapO (rdE k) ps).map fun ds => .tuple (.str (Txt.partition x "[").1 :: ds) := by
      rw [rdE, if_neg h1, if_neg (fun z => z h2)]
    generalize (Txt.partition x "[").1 = w at iw rdq htp
    have lw := infix_len iw
    cases ep : partsOf w with
    | none =>
      walk_at "w"
      exact w_raiseN (qe (by rw [rdq, if_pos (.inl ep)]) H1 c1)
    | some pk =>
      walk_at "w"
      refine w_iteD (fun h3 => ?_) (fun h3 => ?_)
      · have h3 := V.str.inj h3
        walk_at "w"
        exact w_raiseN (qe (by rw [rdq, if_pos (.inr h3)]) H1 c1)
      have h3 : w ≠ "arg" := fun z => h3 (by rw [z])
      rw [if_neg (fun z => z.elim (fun z => by rw [ep] at z; cases z) h3)] at rdq
      have lw2 : w.length ≤ sizeLine := Nat.le_trans (Nat.le_trans lw hl) (by decide)
      walk_at "w"
      have ein : (some ((w.length : Int) + 1) : Option Int) = some ((w.length + 1 : Nat) : Int) := rfl
      have ii := cut_in x (w.length + 1)
      rw [← ein] at ii
      generalize cutS x (some ((w.length : Int) + 1)) (some (-1)) = inn at ii rdq
      have li := infix_len ii
      refine ⟨inn, rfl, by omega, fun ps ePs F H2 nF c2 hF => ?_, fun eN => (show ntE K E H1 from (fun H' c' => qe (by rw [rdq, eN]; rfl) H' (c1.same c')))⟩
      rw [ePs] at rdq
      have rdq : rdE (k + 1) x = (mapO (rdE k) ps).map fun ds => PyData.tuple (.str w :: ds) := rdq
      obtain ⟨pl, _, pin⟩ := ptdS_facts ePs
      have c12 := c1.same c2
      walk_at "w"
      refine k_lst (by walk_at "sz") fun L H3 nL c3 hL => ?_
      walk_at "w"
      have hF3 := c3.at hF
      refine w_lcP (walk_list (K := K) (a := F) (xs := ps.map V.str)) [] (fun _ _ => True) (fun i y H => ∃ s d, ps[i]? = some s ∧ rdE k s = some d ∧ Im H y d) trivial (fun _ _ _ _ _ _ _ => trivial) (fun H1 c => sqL (c.at hF3)) (fun D i acc z H4 H5 hi nD hD el iv c _ y => ?_) (fun D acc H4 nD c _ el hD ys => ?_)
      · obtain ⟨rfl, ey⟩ := y
        rw [List.length_map] at hi
        rw [List.getElem?_map, List.getElem?_eq_getElem hi] at ey
        cases ey
        have gi : ps[i]? = some ps[i] := List.getElem?_eq_getElem hi
        have pi := pin _ (List.getElem_mem hi)
        have lp := infix_len pi
        walk_at "w"
        have e5 : (((k + 1 : Nat) : Int)) - 1 = (k : Nat) := by omega
        rw [e5]
        refine ⟨ps[i], k, rfl, by omega, by omega, fl.sub (pi.trans ii), fun d ed v H6 c6 im => ?_, fun eN => (show ntE K E H5 from (fun H' c' => qe (by rw [rdq, mapO_none eN gi]; rfl) H' (((c12.same c3).same c).same c')))⟩
        exact lcp_endM (fun _ _ _ _ _ _ _ => trivial) (fun _ _ _ _ _ _ c h => by obtain ⟨s, d, h1, h2, h3⟩ := h; exact ⟨s, d, h1, h2, h3.im c⟩) nD (by simp) hD el (by omega) iv c6 trivial ⟨_, d, gi, ed, im⟩
      · rw [List.length_map] at el
        obtain ⟨ds, lds, hds⟩ := pick_data (P := fun i y d => ∃ s, ps[i]? = some s ∧ rdE k s = some d ∧ Im H4 y d) fun i y hy => by
          obtain ⟨s, d, h⟩ := ys i y hy
          exact ⟨d, s, h⟩
        have em : mapO (rdE k) ps = some ds := mapO_get (by omega) fun i a b h1 h2 => by
          have hi : i < acc.length := by rw [← lds]; exact (List.getElem?_eq_some_iff.mp h2).1
          obtain ⟨s, z1, z2, _⟩ := hds i _ b (List.getElem?_eq_getElem hi) h2
          rw [h1] at z1
          cases z1
          exact z2
        have ia : ImA H4 acc ds := imA_d lds fun i y d h1 h2 => by
          obtain ⟨s, _, _, z⟩ := hds i y d h1 h2
          exact z
        refine w_catM (c.at hL) hD (by rw [el]; simp; omega) fun C H5 nC c5 hC => ?_
        walk_at "w"
        refine w_tupL hC fun Tp H6 nT c6 hT => ?_
        refine qd _ (by rw [rdq, em]; rfl) _ H6 ((((c12.same c3).same c).same c5).same c6) (.tup hT ?_)
        exact .cons (.str w) (ia.im (c5.same c6))
  · have h2 : cutS x (some (-1)) none ≠ "]" := fun z => h2 (by rw [z])
    have rdq : rdE (k + 1) x = (rdN x).map PyData.int := by rw [rdE, if_neg h1, if_pos h2]
    walk_at "w"
    exact ⟨x, rfl, hl, fl, fun i ei H' c => qd _ (by rw [rdq, ei]; rfl) _ H' c (.int i), fun eN H' c' => qe (by rw [rdq, eN]; rfl) H' c'⟩
end
end Fg
namespace Fg
open PySem PySem.Spec PyProof.Rows L2
local macro_rules | `(tactic| walk_at "hp") => `(tactic| first
  | assumption
  | exact upd_same
  | (refine Chg.at (by assumption) ?_; walk_at "hp")
  | (refine Chg.at1 (by assumption) ?_ (by walk_at "ne"); walk_at "hp"))
local macro_rules | `(tactic| walk_at "ne") => `(tactic| first | assumption | (apply Ne.symm; assumption))
local macro_rules | `(tactic| walk_at "sq") => `(tactic| first | assumption | exact sqL (by walk_at "hp") | (refine Chg.seq (by assumption) ?_; walk_at "sq"))
local macro_rules | `(tactic| walk_at "sz") => `(tactic| first | assumption | exact Nat.zero_le _ | (simp only [List.length_cons, List.length_nil]; decide) | exact Nat.le_trans (by first | omega | (simp; done) | (simp; omega)) (show 100000 ≤ sizeLine by decide) | exact Nat.lt_of_lt_of_le (by first | omega | (simp; done) | (simp; omega)) (show 100000 ≤ sizeLine by decide))
local macro_rules | `(tactic| walk_at "ix") => `(tactic| first | exact at0 | exact at1 | exact at2 | exact at3 | assumption | exact rfl | walk_at "ix2")
local macro_rules | `(tactic| walk_at "ix2") => `(tactic| fail)
local macro_rules | `(tactic| walk_at "num") => `(tactic| first | assumption | omega | decide | walk_at "num2")
local macro_rules | `(tactic| walk_at "num2") => `(tactic| fail)
local macro_rules | `(tactic| walk_at "im") => `(tactic| first | assumption | exact R.non (S := fun _ => False) | exact R.bl (S := fun _ => False) _ | exact R.int (S := fun _ => False) _ | exact R.str (S := fun _ => False) _ | (refine R.im (by assumption) ?_; walk_at "im"))
local macro_rules | `(tactic| walk_at "r") => `(tactic| first | assumption | exact R.non (S := fun _ => False) | exact R.bl (S := fun _ => False) _ | exact R.int (S := fun _ => False) _ | exact R.str (S := fun _ => False) _ | (refine R.same (by assumption) ?_; walk_at "r") | exact R.any (by walk_at "im"))
local macro_rules | `(tactic| walk_at "chg") => `(tactic| first
  | exact Chg.refl
  | assumption
  | (refine Chg.same ?_ (by assumption); walk_at "chg")
  | (refine Chg.both ?_ (by assumption); walk_at "chg")
  | (refine Chg.pre (by assumption) ?_; walk_at "chg"))
local macro_rules | `(tactic| walk_at "w1") => `(tactic| first
  | with_reducible apply w_seq
  | with_reducible apply w_asg
  | ((with_reducible apply w_var); (focus (exact rfl)))
  | with_reducible apply w_c
  | with_reducible apply w_op
  | with_reducible apply w_cons
  | with_reducible apply w_nil
  | with_reducible apply w_gName
  | with_reducible apply w_if
  | with_reducible apply w_test
  | with_reducible apply w_B
  | with_reducible apply w_isbl
  | with_reducible apply w_retN
  | with_reducible apply w_next
  | with_reducible apply w_drop
  | with_reducible apply w_cb
  | with_reducible apply w_call
  | with_reducible apply w_callN
  | with_reducible apply w_bm
  | with_reducible apply w_bm0
  | ((with_reducible apply w_tyL); (focus (walk_at "hp"; done)))
  | with_reducible apply w_dput
  | with_reducible apply w_m1
  | with_reducible apply w_isstr
  | with_reducible apply w_and
  | with_reducible apply w_or
  | with_reducible apply w_not
  | with_reducible apply w_andV
  | with_reducible apply w_orV
  | with_reducible apply w_notV
  | with_reducible apply w_ifE
  | with_reducible apply w_chain
  | with_reducible apply w_un
  | with_reducible apply w_neg
  | with_reducible apply w_add
  | with_reducible apply w_sub
  | ((with_reducible apply w_mod); (focus (walk_at "num"; done)))
  | ((with_reducible apply w_mul); (focus (walk_at "num"; done)))
  | ((with_reducible apply w_fdiv); (focus (walk_at "num"; done)))
  | ((with_reducible apply w_pow); (focus (walk_at "num"; done)))
  | with_reducible apply w_lt
  | with_reducible apply w_le
  | with_reducible apply w_gt
  | with_reducible apply w_ge
  | with_reducible apply w_ltS
  | with_reducible apply w_geS
  | with_reducible apply w_inC
  | with_reducible apply w_notInC
  | with_reducible apply w_isN
  | with_reducible apply w_notN
  | with_reducible apply w_isB
  | with_reducible apply w_notB
  | ((with_reducible apply w_addS); (focus (walk_at "sz"; done)))
  | ((with_reducible apply w_ixL); (focus (walk_at "sq"; done)); (focus (walk_at "ix"; done)))
  | ((with_reducible apply w_ixT); (focus (walk_at "hp"; done)); (focus (walk_at "ix"; done)))
  | ((with_reducible apply w_ixS); (focus (walk_at "sz"; done)); (focus (walk_at "ix"; done)))
  | with_reducible apply w_gSub
  | ((with_reducible apply w_gTup); (focus (walk_at "hp"; done)); (focus (exact rfl)))
  | with_reducible apply w_gCons
  | with_reducible apply w_gNil
  | ((with_reducible apply w_aug); (focus (exact rfl)))
  | with_reducible apply w_ipI
  | ((with_reducible apply w_eq); (focus (exact rfl)))
  | ((with_reducible apply w_ne); (focus (exact rfl)))
  | with_reducible apply w_max
  | with_reducible apply w_min
  | with_reducible apply w_abs
  | with_reducible apply w_intB
  | with_reducible apply w_intI
  | with_reducible apply w_tup1
  | with_reducible apply w_lst1
  | with_reducible apply w_sl
  | with_reducible apply w_part
  | with_reducible apply w_noPart
  | with_reducible apply w_isint
  | ((with_reducible apply w_slS); (focus (walk_at "sz"; done)))
  | with_reducible apply w_iteT
  | with_reducible apply w_iteF
  | with_reducible apply w_iteN
  | ((with_reducible apply w_iteYes); (focus (exact rfl)))
  | ((with_reducible apply w_iteNo); (focus (exact rfl)))
  | ((with_reducible apply w_lenL); (focus (walk_at "sq"; done)))
  | ((with_reducible apply w_lenT); (focus (walk_at "hp"; done)))
  | ((with_reducible apply w_lenS); (focus (walk_at "sz"; done)))
  | with_reducible apply w_lc
  | with_reducible apply w_for
  | with_reducible apply w_yes
  | ((with_reducible apply w_wipe); (focus (exact rfl)))
  | with_reducible apply w_iList
  | with_reducible apply w_iTup
  | with_reducible apply w_iStr
  | with_reducible apply w_iRng1
  | with_reducible apply w_iRng2
  | with_reducible apply w_iZip
  | with_reducible apply w_iEnum
  | ((with_reducible apply d_iList); (focus (walk_at "sq"; done)))
  | ((with_reducible apply d_iTup); (focus (walk_at "hp"; done)))
  | with_reducible apply d_iStr
  | ((with_reducible apply d_iRng1); (focus (walk_at "num"; done)); (focus (walk_at "num"; done)))
  | ((with_reducible apply d_iRng2); (focus (walk_at "num"; done)); (focus (walk_at "num"; done)); (focus (walk_at "num"; done)); (focus (walk_at "num"; done)))
  | ((with_reducible apply d_iZip); (focus (walk_at "sq"; done)); (focus (walk_at "sq"; done)))
  | ((with_reducible apply d_iEnum); (focus (walk_at "sq"; done)))
  | walk_at "w2")
local macro_rules | `(tactic| walk_at "w2") => `(tactic| fail)
local macro_rules | `(tactic| walk_at "wn") => `(tactic| repeat walk_at "w1")
local macro_rules | `(tactic| walk_at "w") => `(tactic| repeat (first | walk_at "w1" | with_reducible apply w_ret))
section
/-- a program whose steps' lists stand apart -/
abbrev RowP := Str × List PyData
def rowP (r : Str × List Stp) : RowP := (r.1, r.2.map Stp.data)
structure PR (Hx : Hp) (ts ds : List Addr) (rs : List RowP) : Prop where
  lt : ts.length = rs.length
  ld : ds.length = rs.length
  nd : ds.Nodup
  at_ : ∀ (i : Nat) t d r, ts[i]? = some t → ds[i]? = some d → rs[i]? = some r → Hx t = some (.tup [.str r.1, .ref d]) ∧ ∃ us, Hx d = some (.lst us) ∧ ImA Hx us r.2
def PRows (H Hx : Hp) (F : Addr) (rows : List V) (rs : List RowP) : Prop := ∃ ts ds : List Addr, rows = ts.map V.ref ∧ (∀ d ∈ ds, H d = none ∧ d ≠ F) ∧ PR Hx ts ds rs
theorem PRows.nil {H Hx : Hp} {F : Addr} : PRows H Hx F [] [] := ⟨[], [], rfl, fun d h => (by cases h), rfl, rfl, List.nodup_nil, fun i t d r h => by simp at h⟩
theorem PRows.len {H Hx : Hp} {F : Addr} {rows : List V} {rs : List RowP} (h : PRows H Hx F rows rs) : rows.length = rs.length := by
  obtain ⟨ts, ds, rfl, _, p⟩ := h
  rw [List.length_map, p.lt]
theorem PR.there {Hx : Hp} {ts ds : List Addr} {rs : List RowP} (p : PR Hx ts ds rs) {d : Addr} (hm : d ∈ ds) : ∃ us, Hx d = some us := by
  obtain ⟨i, hi⟩ := List.mem_iff_getElem?.mp hm
  have hl := (List.getElem?_eq_some_iff.mp hi).1
  have h1 := p.lt
  have h2 := p.ld
  obtain ⟨_, us, hu, _⟩ := p.at_ i _ d _ (List.getElem?_eq_getElem (by omega)) hi (List.getElem?_eq_getElem (by omega))
  exact ⟨_, hu⟩
theorem PR.keep {M : List Addr} {Hx Hy : Hp} {ts ds : List Addr} {rs : List RowP} (c : Chg M Hx Hy) (hM : ∀ d ∈ ds, d ∉ M) (h : PR Hx ts ds rs) : PR Hy ts ds rs :=
  ⟨h.lt, h.ld, h.nd, fun i t d r h1 h2 h3 => by
    obtain ⟨a, us, b, e⟩ := h.at_ i t d r h1 h2 h3
    exact ⟨c.tup _ _ a, us, c.keep _ _ b (hM d (List.mem_of_getElem? h2)), RA.im c e⟩⟩
theorem PRows.keep {M : List Addr} {H Hx Hy : Hp} {F : Addr} {rows : List V} {rs : List RowP} (c : Chg M Hx Hy) (hM : ∀ a ∈ M, ∀ d : Addr, (H d = none ∧ d ≠ F) → d ≠ a) (h : PRows H Hx F rows rs) : PRows H Hy F rows rs := by
  obtain ⟨ts, ds, rfl, h1, p⟩ := h
  exact ⟨ts, ds, rfl, h1, p.keep c fun d hd hm => hM d hm d (h1 d hd) rfl⟩
theorem PRows.snoc {H H8 Hx : Hp} {F T D : Addr} {rows us : List V} {rs : List RowP} {r : RowP} (h : PRows H H8 F rows rs) (k : ∀ ts ds : List Addr, (∀ d ∈ ds, H d = none ∧ d ≠ F) → PR H8 ts ds rs → PR Hx ts ds rs) (n8 : H8 D = none) (hT : Hx T = some (.tup [.str r.1, .ref D])) (hD : H D = none ∧ D ≠ F) (hu : Hx D = some (.lst us)) (im : ImA Hx us r.2) : PRows H Hx F (rows ++ [.ref T]) (rs ++ [r]) := by
  obtain ⟨ts, ds, rfl, h1, p8⟩ := h
  have nm : D ∉ ds := fun hm => by obtain ⟨us, e⟩ := p8.there hm; rw [n8] at e; cases e
  have p := k ts ds h1 p8
  refine ⟨ts ++ [T], ds ++ [D], by rw [List.map_append]; rfl, fun d hd => ?_, by simp [p.lt], by simp [p.ld], ?_, fun i t d r' e1 e2 e3 => ?_⟩
  · rcases List.mem_append.mp hd with hd | hd
    · exact h1 d hd
    · rw [List.mem_singleton.mp hd]; exact hD
  · rw [List.nodup_append]
    exact ⟨p.nd, by simp, fun x hx y hy e => nm (by rw [← List.mem_singleton.mp hy, ← e]; exact hx)⟩
  · have l1 := p.lt
    have l2 := p.ld
    by_cases hi : i < rs.length
    · rw [List.getElem?_append_left (by omega)] at e1 e2 e3
      exact p.at_ i t d r' e1 e2 e3
    · have : i = rs.length := by
        have := (List.getElem?_eq_some_iff.mp e3).1
        rw [List.length_append, List.length_singleton] at this
        omega
      subst this
      rw [List.getElem?_append_right (by omega), l1, Nat.sub_self] at e1
      rw [List.getElem?_append_right (by omega), l2, Nat.sub_self] at e2
      rw [List.getElem?_append_right (Nat.le_refl _), Nat.sub_self] at e3
      cases (Option.some.inj (show some T = some t from e1))
      cases (Option.some.inj (show some D = some d from e2))
      cases (Option.some.inj (show some r = some r' from e3))
      exact ⟨hT, us, hu, im⟩
end
section
abbrev Cells := List (Int × Int)
def cAt (cs : Cells) (i : Int) : Option Int := (cs.find? fun c => decide (c.1 = i)).map (·.2)
def cGet (cs : Cells) (i : Int) : Int := (cAt cs i).getD 0
def cPut (cs : Cells) (i v : Int) : Cells := if (cs.any fun c => decide (c.1 = i)) = true then cs.map (fun c => if c.1 = i then (c.1, v) else c) else cs ++ [(i, v)]
def Ex.worth (g : Int) (cs : Cells) : Ex → Int
  | .num i => i
  | .arg => g
  | .cell a => cGet cs (a.worth g cs)
  | .add a b => a.worth g cs + b.worth g cs
  | .less a b => a.worth g cs - b.worth g cs
  | .least a b => if b.worth g cs < a.worth g cs then b.worth g cs else a.worth g cs
def Ex.asked (g : Int) (cs : Cells) : Ex → List Int
  | .num _ => []
  | .arg => []
  | .cell a => a.asked g cs ++ [a.worth g cs]
  | .add a b => a.asked g cs ++ b.asked g cs
  | .less a b => a.asked g cs ++ b.asked g cs
  | .least a b => a.asked g cs ++ b.asked g cs
end
section
def leI (a b : Int) : Bool := decide (a ≤ b)
def srt (ks : List Int) : List Int := ks.mergeSort leI
/-- each once -/
def once : List Int → List Int
  | [] => []
  | x :: r => if x ∈ once r then once r else x :: once r
/-- sorted(set(xs)) -/
def srtD (xs : List Int) : List Int := srt (once xs)
abbrev Given := List (Str × List Int)
def gAdd (gv : Given) (x : Str) (n : Int) : Given := if (gv.any fun g => decide (g.1 = x)) = true then gv.map (fun g => if g.1 = x then (g.1, g.2 ++ [n]) else g) else gv ++ [(x, [n])]
structure Frm where
  num : Nat
  path : List Nat
  rows : List Stp
  arg : Int
  at_ : Nat
  past : Nat
  born : Nat
structure Rcd where
  path : List Nat
  past : Nat
  word : Str
  doer : Nat
  child : Option Nat
  reads : List Int
  writes : List Int
def Stp.word : Stp → Str
  | .cell _ _ => "cell"
  | .give _ _ => "give"
  | .fork _ _ => "fork"
  | .call _ _ => "call"
  | .wait => "wait"
  | .skip _ _ => "skip"
/-- the cells that a step asks -/
def Stp.asks (g : Int) (cs : Cells) : Stp → List Int
  | .cell a b => a.asked g cs ++ b.asked g cs
  | .give _ a => a.asked g cs
  | .fork _ a => a.asked g cs
  | .call _ a => a.asked g cs
  | .wait => []
  | .skip a _ => a.asked g cs
def Stp.puts (g : Int) (cs : Cells) : Stp → Cells
  | .cell a b => cPut cs (a.worth g cs) (b.worth g cs)
  | _ => cs
def Stp.writes (g : Int) (cs : Cells) : Stp → List Int
  | .cell a _ => [a.worth g cs]
  | _ => []
def Stp.gives (g : Int) (cs : Cells) (gv : Given) : Stp → Given
  | .give x a => gAdd gv x (a.worth g cs)
  | _ => gv
def Stp.jump (g : Int) (cs : Cells) : Stp → Nat
  | .skip a k => if a.worth g cs = 0 then k.toNat else 0
  | _ => 0
def Stp.makes (g : Int) (cs : Cells) : Stp → Option (Str × Int)
  | .fork x a => some (x, a.worth g cs)
  | .call x a => some (x, a.worth g cs)
  | _ => none
structure Mc where
  stack : List Frm
  cells : Cells
  given : Given
  recs : List Rcd
  deep : Nat
  many : Nat
def Prg.rows (p : Prg) (x : Str) : List Stp := ((p.find? fun r => decide (r.1 = x)).map (·.2)).getD []
/-- the next step of the topmost doing f, r below it -/
def Mc.did (p : Prg) (m : Mc) (f : Frm) (r : List Frm) (s : Stp) : Mc :=
  let f' : Frm := { f with at_ := f.at_ + 1 + s.jump f.arg m.cells, past := f.past + 1 }
  let c : Rcd := ⟨f.path, f.past, s.word, f.num, none, srtD (s.asks f.arg m.cells), s.writes f.arg m.cells⟩
  match s.makes f.arg m.cells with
  | none => { stack := f' :: r, cells := s.puts f.arg m.cells, given := s.gives f.arg m.cells m.given, recs := m.recs ++ [c], deep := m.deep, many := m.many }
  | some (x, w) => { stack := ⟨m.many, f.path ++ [f.born], p.rows x, w, 0, 0, 0⟩ :: { f' with born := f.born + 1 } :: r, cells := m.cells, given := m.given, recs := m.recs ++ [{ c with child := some m.many }], deep := max m.deep (r.length + 2), many := m.many + 1 }
/-- till all is done, or none where more steps than most would be done -/
def Mc.go (p : Prg) (most : Int) : Nat → Mc → Option Mc
  | 0, m => some m
  | n + 1, m => match m.stack with
    | [] => some m
    | f :: r => match f.rows[f.at_]? with
      | none => Mc.go p most n { m with stack := r }
      | some s => if most ≤ (m.recs.length : Int) then none else Mc.go p most n (m.did p f r s)
def Mc.size (most : Int) (m : Mc) : Nat := 2 * (most - (m.recs.length : Int)).toNat + m.stack.length
end
end Fg
namespace Fg
open PySem PySem.Spec PyProof.Rows L2
/-- a tuple of a text and one thing more -/
def IsRow (h : Heap) (v : Value) (x : Str) : Prop := ∃ (a : Addr) (o : Obj) (t : Tok) (u : Value) (n : Nat), v = .ref a ∧ h.get? a = some o ∧ o.cls = .type "tuple" ∧ o.data = .seq #[.str x t, u] n
theorem IsRow.keeps {h h' : Heap} {v : Value} {x : Str} (r : IsRow h v x) (k : ∀ b o, h.get? b = some o → o.cls = .type "tuple" → h'.get? b = some o) : IsRow h' v x := by
  obtain ⟨a, o, t, u, n, e, ho, hc, hd⟩ := r
  exact ⟨a, o, t, u, n, e, k a o ho hc, hc, hd⟩
end Fg
namespace Fg
open PySem PySem.Spec PyProof.Rows L2
abbrev I3 := Int × Int × Int
/-- a tuple of three ints -/
def IsTri (h : Heap) (v : Value) (x : I3) : Prop := ∃ (a : Addr) (o : Obj) (t1 t2 t3 : Tok) (n : Nat), v = .ref a ∧ h.get? a = some o ∧ o.cls = .type "tuple" ∧ o.data = .seq #[.int x.1 t1, .int x.2.1 t2, .int x.2.2 t3] n
theorem IsTri.keeps {h h' : Heap} {v : Value} {x : I3} (r : IsTri h v x) (k : ∀ b o, h.get? b = some o → o.cls = .type "tuple" → h'.get? b = some o) : IsTri h' v x := by
  obtain ⟨a, o, t1, t2, t3, n, e, ho, hc, hd⟩ := r
  exact ⟨a, o, t1, t2, t3, n, e, k a o ho hc, hc, hd⟩
def dlK (ks : List Int) (ls : List Addr) : List (Key × V) := (ks.zip ls).map fun x => (Sum.inl x.1, V.ref x.2)
structure DlAt (H : Hp) (a : Addr) (ks : List Int) (ls : List Addr) (f : Int → List PyData) : Prop where
  dict : H a = some (.dK (dlK ks ls))
  len : ls.length = ks.length
  nd : ks.Nodup
  ndl : (a :: ls).Nodup
  at_ : ∀ (i : Nat) (l : Addr) (c : Int), ls[i]? = some l → ks[i]? = some c → ∃ xs, H l = some (.lst xs) ∧ ImA H xs (f c)
theorem DlAt.keep {M : List Addr} {H H' : Hp} {a : Addr} {ks : List Int} {ls : List Addr} {f : Int → List PyData} (h : DlAt H a ks ls f) (c : Chg M H H') (ha : a ∉ M) (hl : ∀ l ∈ ls, l ∉ M) : DlAt H' a ks ls f :=
  ⟨c.keep _ _ h.dict ha, h.len, h.nd, h.ndl, fun i l k e1 e2 => by
    obtain ⟨xs, h1, h2⟩ := h.at_ i l k e1 e2
    exact ⟨xs, c.keep _ _ h1 (hl l (List.mem_of_getElem? e1)), h2.im c⟩⟩
theorem DlAt.same {H H' : Hp} {a : Addr} {ks : List Int} {ls : List Addr} {f : Int → List PyData} (h : DlAt H a ks ls f) (c : Chg [] H H') : DlAt H' a ks ls f := h.keep c (by simp) fun _ _ => by simp
end Fg
namespace Fg
open PySem PySem.Spec PyProof.Rows L2
/-- a tuple of ints -/
def IsPth (h : Heap) (v : Value) (x : List Int) : Prop := ∃ (a : Addr) (o : Obj) (its : List Value) (n : Nat), v = .ref a ∧ h.get? a = some o ∧ o.cls = .type "tuple" ∧ o.data = .seq its.toArray n ∧ IntsAre its x
theorem IsPth.keeps {h h' : Heap} {v : Value} {x : List Int} (r : IsPth h v x) (k : ∀ b o, h.get? b = some o → o.cls = .type "tuple" → h'.get? b = some o) : IsPth h' v x := by
  obtain ⟨a, o, its, n, e, ho, hc, hd, hi⟩ := r
  exact ⟨a, o, its, n, e, k a o ho hc, hc, hd, hi⟩
theorem ints_at' {its : List Value} {x : List Int} (h : IntsAre its x) (j : Nat) (hj : j < its.length) : ∃ t, its[j] = .int (x.getD j 0) t := by
  obtain ⟨t, e⟩ := PyProof.Rows.IntsAre.int_at h j its[j] (List.getElem?_eq_getElem hj)
  exact ⟨t, e⟩
theorem ints_uniq {its : List Value} {x y : List Int} (h : IntsAre its x) (k : IntsAre its y) : x = y := by
  have l1 := PyProof.Rows.IntsAre.length h
  have l2 := PyProof.Rows.IntsAre.length k
  refine List.ext_getElem (by omega) fun j h1 h2 => ?_
  obtain ⟨t, e⟩ := ints_at' h j (by omega)
  obtain ⟨u, e2⟩ := ints_at' k j (by omega)
  rw [e] at e2
  have e3 := (Value.int.inj e2).1
  rw [List.getD_eq_getElem?_getD, List.getD_eq_getElem?_getD, List.getElem?_eq_getElem h1, List.getElem?_eq_getElem h2] at e3
  exact e3
theorem IsPth.uniq {h : Heap} {v : Value} {x y : List Int} (a : IsPth h v x) (b : IsPth h v y) : x = y := by
  obtain ⟨a1, o, its, n, rfl, ho, hc, hd, hi⟩ := a
  obtain ⟨a2, o2, its2, n2, e, ho2, hc2, hd2, hi2⟩ := b
  cases e
  rw [ho] at ho2
  cases (Option.some.inj ho2)
  rw [hd] at hd2
  have e : its.toArray = its2.toArray := by injection hd2
  have e2 : its = its2 := by simpa using e
  subst e2
  exact ints_uniq hi hi2
end Fg
namespace Fg
open PySem PySem.Spec PyProof.Rows L2
abbrev SI := Str × Int
def IsSI (h : Heap) (v : Value) (x : SI) : Prop := ∃ (a : Addr) (o : Obj) (t u : Tok) (n : Nat), v = .ref a ∧ h.get? a = some o ∧ o.cls = .type "tuple" ∧ o.data = .seq #[.str x.1 t, .int x.2 u] n
theorem IsSI.keeps {h h' : Heap} {v : Value} {x : SI} (r : IsSI h v x) (k : ∀ b o, h.get? b = some o → o.cls = .type "tuple" → h'.get? b = some o) : IsSI h' v x := by
  obtain ⟨a, o, t, u, n, e, ho, hc, hd⟩ := r
  exact ⟨a, o, t, u, n, e, k a o ho hc, hc, hd⟩
theorem IsSI.uniq {h : Heap} {v : Value} {x y : SI} (a : IsSI h v x) (b : IsSI h v y) : x = y := by
  obtain ⟨a1, o, t, u, n, rfl, ho, hc, hd⟩ := a
  obtain ⟨a2, o2, t2, u2, n2, e, ho2, hc2, hd2⟩ := b
  cases e
  rw [ho] at ho2
  cases (Option.some.inj ho2)
  rw [hd] at hd2
  have e : (#[.str x.1 t, .int x.2 u] : Array Value) = #[.str y.1 t2, .int y.2 u2] := by injection hd2
  have e2 : ([.str x.1 t, .int x.2 u] : List Value) = [.str y.1 t2, .int y.2 u2] := by simpa using e
  injection e2 with e3 e4
  injection e4 with e5 _
  injection e3 with e6 _
  injection e5 with e7 _
  exact Prod.ext e6 e7
end Fg
namespace Fg
open PySem PySem.Spec PyProof.Rows L2
section
def rowDP (r : RowP) : PyData := .tuple [.str r.1, .list r.2]
def prgDP (rs : List RowP) : PyData := .list (rs.map rowDP)
theorem prgDP_of (p : Prg) : prgDP (p.map rowP) = prgD p := by
  unfold prgDP prgD
  rw [List.map_map]
  rfl
structure Mix (ns : List Str) (rs0 rs : List RowP) (P : Nat → Nat → Prop) : Prop where
  len : rs.length = rs0.length
  row : ∀ a r0 r, rs0[a]? = some r0 → rs[a]? = some r → r.1 = r0.1 ∧ r.2.length = r0.2.length ∧ ∀ (c : Nat) d0 d, r0.2[c]? = some d0 → r.2[c]? = some d → (¬ P a c → d = d0) ∧ (P a c → isStep ns ((r.2.length : Int) - 1 - c) d = false ∧ smallD d = true)
theorem Mix.refl {ns : List Str} {rs : List RowP} {P : Nat → Nat → Prop} (h : ∀ a c, ¬ P a c) : Mix ns rs rs P :=
  ⟨rfl, fun a r0 r e1 e2 => by
    rw [e1] at e2
    cases e2
    exact ⟨rfl, rfl, fun c d0 d f1 f2 => by rw [f1] at f2; cases f2; exact ⟨fun _ => rfl, fun z => absurd z (h a c)⟩⟩⟩
theorem Mix.imp {ns : List Str} {rs0 rs : List RowP} {P P' : Nat → Nat → Prop} (m : Mix ns rs0 rs P) (h : ∀ a c, (∃ r0, rs0[a]? = some r0 ∧ c < r0.2.length) → (P a c ↔ P' a c)) : Mix ns rs0 rs P' :=
  ⟨m.len, fun a r0 r e1 e2 => by
    obtain ⟨h1, h2, h3⟩ := m.row a r0 r e1 e2
    refine ⟨h1, h2, fun c d0 d f1 f2 => ?_⟩
    have hc := h a c ⟨r0, e1, (List.getElem?_eq_some_iff.mp f1).1⟩
    obtain ⟨g1, g2⟩ := h3 c d0 d f1 f2
    exact ⟨fun z => g1 fun w => z (hc.mp w), fun z => g2 (hc.mpr z)⟩⟩
theorem Mix.names {ns : List Str} {rs0 rs : List RowP} {P : Nat → Nat → Prop} (m : Mix ns rs0 rs P) : rs.map (·.1) = rs0.map (·.1) := by
  apply List.ext_getElem?
  intro i
  rw [List.getElem?_map, List.getElem?_map]
  by_cases h : i < rs0.length
  · have e1 := List.getElem?_eq_getElem h
    have e2 := List.getElem?_eq_getElem (l := rs) (i := i) (by rw [m.len]; exact h)
    rw [e1, e2]
    exact congrArg some (m.row i _ _ e1 e2).1
  · rw [List.getElem?_eq_none (by rw [m.len]; omega), List.getElem?_eq_none (by omega)]
end
end Fg
namespace Fg
open PySem PySem.Spec PyProof.Rows L2
local macro_rules | `(tactic| walk_at "hp") => `(tactic| first
  | assumption
  | exact upd_same
  | (refine Chg.at (by assumption) ?_; walk_at "hp")
  | (refine Chg.at1 (by assumption) ?_ (by walk_at "ne"); walk_at "hp"))
local macro_rules | `(tactic| walk_at "ne") => `(tactic| first | assumption | (apply Ne.symm; assumption))
local macro_rules | `(tactic| walk_at "sq") => `(tactic| first | assumption | exact sqL (by walk_at "hp") | (refine Chg.seq (by assumption) ?_; walk_at "sq"))
local macro_rules | `(tactic| walk_at "sz") => `(tactic| first | assumption | exact Nat.zero_le _ | (simp only [List.length_cons, List.length_nil]; decide) | exact Nat.le_trans (by first | omega | (simp; done) | (simp; omega)) (show 100000 ≤ sizeLine by decide) | exact Nat.lt_of_lt_of_le (by first | omega | (simp; done) | (simp; omega)) (show 100000 ≤ sizeLine by decide))
local macro_rules | `(tactic| walk_at "ix") => `(tactic| first | exact at0 | exact at1 | exact at2 | exact at3 | assumption | exact rfl | walk_at "ix2")
local macro_rules | `(tactic| walk_at "ix2") => `(tactic| fail)
local macro_rules | `(tactic| walk_at "num") => `(tactic| first | assumption | omega | decide | walk_at "num2")
local macro_rules | `(tactic| walk_at "num2") => `(tactic| fail)
local macro_rules | `(tactic| walk_at "im") => `(tactic| first | assumption | exact R.non (S := fun _ => False) | exact R.bl (S := fun _ => False) _ | exact R.int (S := fun _ => False) _ | exact R.str (S := fun _ => False) _ | (refine R.im (by assumption) ?_; walk_at "im"))
local macro_rules | `(tactic| walk_at "r") => `(tactic| first | assumption | exact R.non (S := fun _ => False) | exact R.bl (S := fun _ => False) _ | exact R.int (S := fun _ => False) _ | exact R.str (S := fun _ => False) _ | (refine R.same (by assumption) ?_; walk_at "r") | exact R.any (by walk_at "im"))
local macro_rules | `(tactic| walk_at "chg") => `(tactic| first
  | exact Chg.refl
  | assumption
  | (refine Chg.same ?_ (by assumption); walk_at "chg")
  | (refine Chg.both ?_ (by assumption); walk_at "chg")
  | (refine Chg.pre (by assumption) ?_; walk_at "chg"))
local macro_rules | `(tactic| walk_at "w1") => `(tactic| first
  | with_reducible apply w_seq
  | with_reducible apply w_asg
  | ((with_reducible apply w_var); (focus (exact rfl)))
  | with_reducible apply w_c
  | with_reducible apply w_op
  | with_reducible apply w_cons
  | with_reducible apply w_nil
  | with_reducible apply w_gName
  | with_reducible apply w_if
  | with_reducible apply w_test
  | with_reducible apply w_B
  | with_reducible apply w_isbl
  | with_reducible apply w_retN
  | with_reducible apply w_next
  | with_reducible apply w_drop
  | with_reducible apply w_cb
  | with_reducible apply w_call
  | with_reducible apply w_callN
  | with_reducible apply w_bm
  | with_reducible apply w_bm0
  | ((with_reducible apply w_tyL); (focus (walk_at "hp"; done)))
  | with_reducible apply w_dput
  | with_reducible apply w_m1
  | with_reducible apply w_isstr
  | with_reducible apply w_and
  | with_reducible apply w_or
  | with_reducible apply w_not
  | with_reducible apply w_andV
  | with_reducible apply w_orV
  | with_reducible apply w_notV
  | with_reducible apply w_ifE
  | with_reducible apply w_chain
  | with_reducible apply w_un
  | with_reducible apply w_neg
  | with_reducible apply w_add
  | with_reducible apply w_sub
  | ((with_reducible apply w_mod); (focus (walk_at "num"; done)))
  | ((with_reducible apply w_mul); (focus (walk_at "num"; done)))
  | ((with_reducible apply w_fdiv); (focus (walk_at "num"; done)))
  | ((with_reducible apply w_pow); (focus (walk_at "num"; done)))
  | with_reducible apply w_lt
  | with_reducible apply w_le
  | with_reducible apply w_gt
  | with_reducible apply w_ge
  | with_reducible apply w_ltS
  | with_reducible apply w_geS
  | with_reducible apply w_inC
  | with_reducible apply w_notInC
  | with_reducible apply w_isN
  | with_reducible apply w_notN
  | with_reducible apply w_isB
  | with_reducible apply w_notB
  | ((with_reducible apply w_addS); (focus (walk_at "sz"; done)))
  | ((with_reducible apply w_ixL); (focus (walk_at "sq"; done)); (focus (walk_at "ix"; done)))
  | ((with_reducible apply w_ixT); (focus (walk_at "hp"; done)); (focus (walk_at "ix"; done)))
  | ((with_reducible apply w_ixS); (focus (walk_at "sz"; done)); (focus (walk_at "ix"; done)))
  | with_reducible apply w_gSub
  | ((with_reducible apply w_gTup); (focus (walk_at "hp"; done)); (focus (exact rfl)))
  | with_reducible apply w_gCons
  | with_reducible apply w_gNil
  | ((with_reducible apply w_aug); (focus (exact rfl)))
  | with_reducible apply w_ipI
  | ((with_reducible apply w_eq); (focus (exact rfl)))
  | ((with_reducible apply w_ne); (focus (exact rfl)))
  | with_reducible apply w_max
  | with_reducible apply w_min
  | with_reducible apply w_abs
  | with_reducible apply w_intB
  | with_reducible apply w_intI
  | with_reducible apply w_tup1
  | with_reducible apply w_lst1
  | with_reducible apply w_sl
  | with_reducible apply w_part
  | with_reducible apply w_noPart
  | with_reducible apply w_isint
  | ((with_reducible apply w_slS); (focus (walk_at "sz"; done)))
  | with_reducible apply w_iteT
  | with_reducible apply w_iteF
  | with_reducible apply w_iteN
  | ((with_reducible apply w_iteYes); (focus (exact rfl)))
  | ((with_reducible apply w_iteNo); (focus (exact rfl)))
  | ((with_reducible apply w_lenL); (focus (walk_at "sq"; done)))
  | ((with_reducible apply w_lenT); (focus (walk_at "hp"; done)))
  | ((with_reducible apply w_lenS); (focus (walk_at "sz"; done)))
  | with_reducible apply w_lc
  | with_reducible apply w_for
  | with_reducible apply w_yes
  | ((with_reducible apply w_wipe); (focus (exact rfl)))
  | with_reducible apply w_iList
  | with_reducible apply w_iTup
  | with_reducible apply w_iStr
  | with_reducible apply w_iRng1
  | with_reducible apply w_iRng2
  | with_reducible apply w_iZip
  | with_reducible apply w_iEnum
  | ((with_reducible apply d_iList); (focus (walk_at "sq"; done)))
  | ((with_reducible apply d_iTup); (focus (walk_at "hp"; done)))
  | with_reducible apply d_iStr
  | ((with_reducible apply d_iRng1); (focus (walk_at "num"; done)); (focus (walk_at "num"; done)))
  | ((with_reducible apply d_iRng2); (focus (walk_at "num"; done)); (focus (walk_at "num"; done)); (focus (walk_at "num"; done)); (focus (walk_at "num"; done)))
  | ((with_reducible apply d_iZip); (focus (walk_at "sq"; done)); (focus (walk_at "sq"; done)))
  | ((with_reducible apply d_iEnum); (focus (walk_at "sq"; done)))
  | walk_at "w2")
local macro_rules | `(tactic| walk_at "w2") => `(tactic| fail)
local macro_rules | `(tactic| walk_at "wn") => `(tactic| repeat walk_at "w1")
local macro_rules | `(tactic| walk_at "w") => `(tactic| repeat (first | walk_at "w1" | with_reducible apply w_ret))
local macro_rules | `(tactic| walk_at "w2") => `(tactic| first
  | ((with_reducible apply w_isInt); (focus (walk_at "r"; done)))
  | ((with_reducible apply w_isBool); (focus (walk_at "r"; done)))
  | ((with_reducible apply w_isStr); (focus (walk_at "r"; done)))
  | ((with_reducible apply w_isTup); (focus (walk_at "r"; done)))
  | ((with_reducible apply w_isLst); (focus (walk_at "r"; done)))
  | ((with_reducible apply w_notInP); (focus (assumption)))
  | ((with_reducible apply w_ixP); (focus (assumption)); (focus (assumption))))
section
local macro_rules | `(tactic| walk_at "w2") => `(tactic| with_reducible apply w_callX)
theorem u_rdE {K : PySem.W.Frag} {H : Hp} {Q : VK} {E : XK} {x : Str} (hl : x.length ≤ 1000000) (fl : FigL (tlS x)) (qd : ∀ d, rdE 5 x = some d → ∀ v H', Chg [] H H' → Im H' v d → Q v H') (qe : rdE 5 x = none → ntE K E H) : sp_read_expression K 6 ([.str x] ++ [.int 5]) H Q E := ⟨x, 5, rfl, by omega, hl, fl, qd, qe⟩
theorem u_rdN {K : PySem.W.Frag} {H : Hp} {Q : VK} {E : XK} {x : Str} (hl : x.length ≤ 1000000) (fl : FigL (tlS x)) (qd : ∀ n, rdN x = some n → ∀ H', Chg [] H H' → Q (.int n) H') (qe : rdN x = none → ntE K E H) : sp_read_number K ([.str x] ++ []) H Q E := ⟨x, rfl, hl, fl, qd, qe⟩
def sp_read_step (K : PySem.W.Frag) : Sp := fun vs H Q E => ∃ x : Str, vs = [.str x] ∧ x.length ≤ 1000000 ∧ FigL (tlS x) ∧ (∀ d, rdS x = some d → ∀ v H', Chg [] H H' → Im H' v d → Q v H') ∧ (rdS x = none → ntE K E H)
def t_read_step (E : XK) (K : PySem.W.Frag) : TS :=
    tSeq (tAsg (tCallSD (sp_parted K) [] (WE (fun cls d _ H => E cls d H)) (tCons (tVar 0) (tNil))) (gName 1))
    (tSeq (tIfS (tAnd (tTest (tOp rEq (tOp (rIxL K) (tVar 1) (tC (.int 0))) (tC (.str "wait")))) (tTest (tOp rEq (tCB (cLenQ K) (tCons (tVar 1) (tNil))) (tC (.int 1))))) (tRet (tTup (tCons (tC (.str "wait")) (tNil)))) (tNext))
    (tSeq (tIfS (tTest (tOp rNe (tCB (cLenQ K) (tCons (tVar 1) (tNil))) (tC (.int 3)))) (tRaiseN (He.ga K "NoText") E) (tNext))
    (tSeq (tIfS (tTest (tOp rEq (tOp (rIxL K) (tVar 1) (tC (.int 0))) (tC (.str "cell")))) (tRet (tTup (tCons (tC (.str "cell")) (tCons (tCallSD (sp_read_expression K 6) [.int 5] (WE (fun cls d _ H => E cls d H)) (tCons (tOp (rIxL K) (tVar 1) (tC (.int 1))) (tNil))) (tCons (tCallSD (sp_read_expression K 6) [.int 5] (WE (fun cls d _ H => E cls d H)) (tCons (tOp (rIxL K) (tVar 1) (tC (.int 2))) (tNil))) (tNil)))))) (tNext))
    (tSeq (tIfS (tTest (tOp rEq (tOp (rIxL K) (tVar 1) (tC (.int 0))) (tC (.str "skip")))) (tRet (tTup (tCons (tC (.str "skip")) (tCons (tCallSD (sp_read_expression K 6) [.int 5] (WE (fun cls d _ H => E cls d H)) (tCons (tOp (rIxL K) (tVar 1) (tC (.int 1))) (tNil))) (tCons (tCallSD (sp_read_number K) [] (WE (fun cls d _ H => E cls d H)) (tCons (tOp (rIxL K) (tVar 1) (tC (.int 2))) (tNil))) (tNil)))))) (tNext))
    (tRet (tTup (tCons (tOp (rIxL K) (tVar 1) (tC (.int 0))) (tCons (tOp (rIxL K) (tVar 1) (tC (.int 1))) (tCons (tCallSD (sp_read_expression K 6) [.int 5] (WE (fun cls d _ H => E cls d H)) (tCons (tOp (rIxL K) (tVar 1) (tC (.int 2))) (tNil))) (tNil))))))))))
def t_step_in (E : XK) (K : PySem.W.Frag) : TS :=
    tSeq (tIfS (tTest (tOp rNe (tCB (cLenQ K) (tCons (tVar 1) (tNil))) (tC (.int 3)))) (tRaiseN (He.ga K "NoText") E) (tNext))
    (tSeq (tIfS (tTest (tOp rEq (tOp (rIxL K) (tVar 1) (tC (.int 0))) (tC (.str "cell")))) (tRet (tTup (tCons (tC (.str "cell")) (tCons (tCallSD (sp_read_expression K 6) [.int 5] (WE (fun cls d _ H => E cls d H)) (tCons (tOp (rIxL K) (tVar 1) (tC (.int 1))) (tNil))) (tCons (tCallSD (sp_read_expression K 6) [.int 5] (WE (fun cls d _ H => E cls d H)) (tCons (tOp (rIxL K) (tVar 1) (tC (.int 2))) (tNil))) (tNil)))))) (tNext))
    (tSeq (tIfS (tTest (tOp rEq (tOp (rIxL K) (tVar 1) (tC (.int 0))) (tC (.str "skip")))) (tRet (tTup (tCons (tC (.str "skip")) (tCons (tCallSD (sp_read_expression K 6) [.int 5] (WE (fun cls d _ H => E cls d H)) (tCons (tOp (rIxL K) (tVar 1) (tC (.int 1))) (tNil))) (tCons (tCallSD (sp_read_number K) [] (WE (fun cls d _ H => E cls d H)) (tCons (tOp (rIxL K) (tVar 1) (tC (.int 2))) (tNil))) (tNil)))))) (tNext))
    (tRet (tTup (tCons (tOp (rIxL K) (tVar 1) (tC (.int 0))) (tCons (tOp (rIxL K) (tVar 1) (tC (.int 1))) (tCons (tCallSD (sp_read_expression K 6) [.int 5] (WE (fun cls d _ H => E cls d H)) (tCons (tOp (rIxL K) (tVar 1) (tC (.int 2))) (tNil))) (tNil))))))))
theorem rdSw_none {w : Str} {r : List Str} (h : r.length ≠ 2) (h2 : ¬ (w = "wait" ∧ r = [])) : rdSw (w :: r) = none := by
  match r with
  | [] => exact if_neg fun z => h2 ⟨z, rfl⟩
  | [_] => rfl
  | [_, _] => exact absurd rfl h
  | _ :: _ :: _ :: _ => rfl
theorem step_in {E : XK} {K : PySem.W.Frag} {Q : VK} {H : Hp} {x w : Str} {r : List Str} {F : Addr} (hF : H F = some (.lst (V.str w :: r.map V.str))) (h2 : ¬ (w = "wait" ∧ r = [])) (hl : ∀ q ∈ w :: r, q.length ≤ 1000000 ∧ FigL (tlS q)) (qd : ∀ d, rdSw (w :: r) = some d → ∀ v H', Chg [] H H' → Im H' v d → Q v H') (qe : rdSw (w :: r) = none → ntE K E H) : t_step_in E K (fin Q) [some (.str x), some (.ref F)] H := by
  unfold t_step_in
  walk_at "w"
  by_cases h3 : r.length = 2
  · match r, h3 with
    | [a, b], _ =>
      obtain ⟨la, fa⟩ := hl a (by simp)
      obtain ⟨lb, fb⟩ := hl b (by simp)
      have hF : H F = some (.lst [V.str w, V.str a, V.str b]) := hF
      refine w_iteYes (decide_eq_true rfl) ?_
      walk_at "w"
      refine w_iteD (fun h4 => ?_) (fun h4 => ?_)
      · have h4 := V.str.inj h4
        subst h4
        have er : rdSw ["cell", a, b] = (rdE 5 a).bind fun d => (rdE 5 b).map fun e => PyData.tuple [.str "cell", d, e] := by
          show rdS3 "cell" a b = _
          unfold rdS3
          exact if_pos rfl
        rw [er] at qd qe
        walk_at "w"
        refine u_rdE la fa (fun d ed v H1 c1 im => ?_) (fun eN => show ntE K E H from qe (by rw [eN]; rfl))
        have hF1 := c1.at hF
        walk_at "w"
        refine u_rdE lb fb (fun d2 ed2 v2 H2 c2 im2 => ?_) (fun eN => show ntE K E H1 from (qe (by rw [ed, eN]; rfl)).go c1)
        refine k_tup (by walk_at "sz") fun p H3 np c3 hp => ?_
        refine qd _ (by rw [ed, ed2]; rfl) _ H3 ((c1.same c2).same c3) (.tup hp ?_)
        exact .cons (.str _) (.cons (im.im (c2.same c3)) (.cons (im2.im c3) .nil))
      · have h4 : w ≠ "cell" := fun z => h4 (by rw [z])
        walk_at "w"
        refine w_iteD (fun h5 => ?_) (fun h5 => ?_)
        · have h5 := V.str.inj h5
          subst h5
          have er : rdSw ["skip", a, b] = (rdE 5 a).bind fun d => (rdN b).map fun k => PyData.tuple [.str "skip", d, .int k] := by
            show rdS3 "skip" a b = _
            unfold rdS3
            rw [if_neg h4, if_pos rfl]
          rw [er] at qd qe
          walk_at "w"
          refine u_rdE la fa (fun d ed v H1 c1 im => ?_) (fun eN => show ntE K E H from qe (by rw [eN]; rfl))
          have hF1 := c1.at hF
          walk_at "w"
          refine u_rdN lb fb (fun n2 ed2 H2 c2 => ?_) (fun eN => show ntE K E H1 from (qe (by rw [ed, eN]; rfl)).go c1)
          refine k_tup (by walk_at "sz") fun p H3 np c3 hp => ?_
          refine qd _ (by rw [ed, ed2]; rfl) _ H3 ((c1.same c2).same c3) (.tup hp ?_)
          exact .cons (.str _) (.cons (im.im (c2.same c3)) (.cons (.int _) .nil))
        · have h5 : w ≠ "skip" := fun z => h5 (by rw [z])
          have er : rdSw [w, a, b] = (rdE 5 b).map fun e => PyData.tuple [.str w, .str a, e] := by
            show rdS3 w a b = _
            unfold rdS3
            rw [if_neg h4, if_neg h5]
          rw [er] at qd qe
          walk_at "w"
          refine u_rdE lb fb (fun d2 ed2 v2 H2 c2 im2 => ?_) (fun eN => show ntE K E H from qe (by rw [eN]; rfl))
          refine k_tup (by walk_at "sz") fun p H3 np c3 hp => ?_
          refine qd _ (by rw [ed2]; rfl) _ H3 (c2.same c3) (.tup hp ?_)
          exact .cons (.str _) (.cons (.str _) (.cons (im2.im c3) .nil))
  · refine w_iteNo ?_ ?_
    · exact decide_eq_false fun z => h3 (by
        have := V.int.inj z
        simp only [List.length_cons, List.length_map] at this
        omega)
    walk_at "w"
    exact w_raiseN (qe (rdSw_none h3 h2) H .refl)
theorem pure_read_step {K : PySem.W.Frag} (vs : List V) (H : Hp) (Q : VK) (E : XK) (h : sp_read_step K vs H Q E) : t_read_step E K (fin Q) (start ["text", "words"] vs) H := by
  obtain ⟨x, rfl, hl, fl, qd, qe⟩ := h
  show t_read_step E K _ [some (.str x), none] H
  show tSeq _ (tSeq _ (t_step_in E K)) (fin Q) _ H
  walk_at "w"
  refine ⟨x, rfl, hl, fun ps ePs F H1 nF c1 hF => ?_, fun eN => show ntE K E H from qe (by unfold rdS; rw [eN]; rfl)⟩
  obtain ⟨pl, pne, pin⟩ := ptdS_facts ePs
  cases ps with
  | nil => exact absurd rfl pne
  | cons w r =>
    have hq : ∀ q ∈ w :: r, q.length ≤ 1000000 ∧ FigL (tlS q) := fun q hq => ⟨Nat.le_trans (infix_len (pin q hq)) hl, fl.sub (pin q hq)⟩
    have er : rdS x = rdSw (w :: r) := by unfold rdS; rw [ePs]; rfl
    rw [er] at qd qe
    have hF : H1 F = some (.lst (V.str w :: r.map V.str)) := hF
    have go : ¬ (w = "wait" ∧ r = []) → t_step_in E K (fin Q) [some (.str x), some (.ref F)] H1 := fun h2 => step_in hF h2 hq (fun d ed v H2 c2 im => qd d ed v H2 (c1.same c2) im) (fun eN => (qe eN).go c1)
    walk_at "w"
    refine w_iteD (fun h4 => ?_) (fun h4 => ?_)
    · have h4 := V.str.inj h4
      walk_at "w"
      refine w_iteD (fun h5 => ?_) (fun h5 => ?_)
      · have h6 : r = [] := List.length_eq_zero_iff.mp (by
          have := V.int.inj h5
          simp only [List.length_cons, List.length_map] at this
          omega)
        subst h6
        walk_at "w"
        refine k_tup (by walk_at "sz") fun p H3 np c3 hp => ?_
        exact qd _ (if_pos h4) _ H3 (c1.same c3) (.tup hp (.cons (.str _) .nil))
      · refine w_next ?_
        exact go fun z => h5 (by rw [z.2]; rfl)
    · refine w_next ?_
      exact go fun z => h4 (by rw [z.1])
end
section
local macro_rules | `(tactic| walk_at "w2") => `(tactic| with_reducible apply w_callX)
theorem split_infix {c d : Nat} : ∀ {l : Tx}, ∀ q ∈ spl2 c d l, q <:+: l := by
  suffices hs : ∀ l : Tx, ∃ p qs, spl2 c d l = p :: qs ∧ p <+: l ∧ ∀ q ∈ qs, q <:+: l by
    intro l q hq
    obtain ⟨p, qs, e, h1, h2⟩ := hs l
    rw [e] at hq
    rcases List.mem_cons.mp hq with rfl | hq
    · exact h1.isInfix
    · exact h2 q hq
  intro l
  induction l using spl2.induct (c := c) (d := d) with
  | case1 => exact ⟨[], [], rfl, List.prefix_refl _, fun q hq => by cases hq⟩
  | case2 a => exact ⟨[a], [], rfl, List.prefix_refl _, fun q hq => by cases hq⟩
  | case3 a b r h ih =>
    obtain ⟨p, qs, e, h1, h2⟩ := ih
    rw [spl2_cons, if_pos h]
    refine ⟨[], _, rfl, List.nil_prefix, fun q hq => ?_⟩
    rw [e] at hq
    have sf : r <:+: a :: b :: r := ((List.suffix_cons b r).trans (List.suffix_cons a (b :: r))).isInfix
    rcases List.mem_cons.mp hq with rfl | hq
    · exact h1.isInfix.trans sf
    · exact (h2 q hq).trans sf
  | case4 a b r h ih =>
    obtain ⟨p, qs, e, h1, h2⟩ := ih
    rw [spl2_cons, if_neg h, e]
    exact ⟨a :: p, qs, rfl, (List.prefix_cons_inj a).mpr h1, fun q hq => (h2 q hq).trans (List.suffix_cons a (b :: r)).isInfix⟩
theorem split_len {c d : Nat} : ∀ (l : Tx), (spl2 c d l).length ≤ l.length + 1 := by
  intro l
  induction l using spl2.induct (c := c) (d := d) with
  | case1 => exact Nat.le_refl _
  | case2 a => simp [spl2]
  | case3 a b r h ih =>
    rw [spl2_cons, if_pos h]
    simp only [List.length_cons]
    omega
  | case4 a b r h ih =>
    rw [spl2_cons, if_neg h]
    obtain ⟨p, ps, e⟩ := spl2_ne c d (b :: r)
    rw [e] at ih ⊢
    simp only [cons1, List.length_cons] at ih ⊢
    omega
theorem com_two : (", " : Str) = ⟨#[44, 32]⟩ := by decide +kernel
theorem sem_two : ("; " : Str) = ⟨#[59, 32]⟩ := by decide +kernel
theorem split_facts {x y : Str} {c d : Nat} (hy : y = ⟨#[c, d]⟩) (hc : c < 256) (hd : d < 256) : (Txt.split x y).length ≤ x.length + 1 ∧ ∀ q ∈ Txt.split x y, tlS q <:+: tlS x := by
  subst hy
  have e := split_spl (x := x) hc hd
  refine ⟨?_, fun q hq => ?_⟩
  · have := congrArg List.length e
    rw [List.length_map] at this
    rw [this, tl_len]
    exact split_len _
  · have : tlS q ∈ (Txt.split x ⟨#[c, d]⟩).map (·.cps.toList) := List.mem_map.mpr ⟨q, hq, rfl⟩
    rw [e] at this
    exact split_infix _ this
theorem part_three (x : Str) : tlS (Txt.partition x ":").1 <:+: tlS x ∧ tlS (Txt.partition x ":").2.2 <:+: tlS x := by
  rw [col_one]
  by_cases h : 58 ∈ x.cps.toList
  · rw [partition_at h]
    refine ⟨?_, ?_⟩
    · show tlS (stx _) <:+: _
      rw [tl_stx]
      exact (List.takeWhile_prefix _).isInfix
    · show tlS (stx _) <:+: _
      rw [tl_stx]
      exact drop_infix _
  · rw [partition_no h]
    exact ⟨List.infix_refl _, by exact List.nil_infix⟩
def sp_read_helper (K : PySem.W.Frag) : Sp := fun vs H Q E => ∃ x : Str, vs = [.str x] ∧ x.length ≤ 1000000 ∧ FigL (tlS x) ∧
  (∀ nm ds, rdH x = some (.tuple [.str nm, .list ds]) → ∀ (T D : Addr) (us : List V) (H' : Hp), H D = none → Chg [] H H' → H' T = some (.tup [.str nm, .ref D]) → H' D = some (.lst us) → ImA H' us ds → Q (.ref T) H') ∧ (rdH x = none → ntE K E H)
def t_read_helper (E : XK) (K : PySem.W.Frag) : TS :=
    tSeq (tAsg (tM1 mPartition (tVar 0) (tC (.str ":"))) (gTup K 3 (gCons (gName 1) (gCons (gName 2) (gCons (gName 3) (gNil))))))
    (tSeq (tIfS (tOr (tTest (tOp rEq (tVar 2) (tC (.str "")))) (tAnd (tTest (tOp rNe (tVar 3) (tC (.str "")))) (tTest (tOp rNe (tOp rIxS (tVar 3) (tC (.int 0))) (tC (.str " ")))))) (tRaiseN (He.ga K "NoText") E) (tNext))
    (tSeq (tIfS (tTest (tOp rEq (tVar 3) (tC (.str "")))) (tRet (tTup (tCons (tVar 1) (tCons (tLst (tNil)) (tNil))))) (tNext))
    (tRet (tTup (tCons (tVar 1) (tCons (tLc (iList K (tM1 mSplit (tSl rSlS (tVar 3) (tPart (tC (.int 1))) (tNoPart)) (tC (.str ", ")))) (gName 4) (tYes) (tCallSD (sp_read_step K) [] (WE (fun cls d _ H => E cls d H)) (tCons (tVar 4) (tNil))) [4]) (tNil)))))))
theorem head32 (ch : Nat) : decide (V.str (⟨#[ch]⟩ : Str) = V.str " ") = decide (ch = 32) := one_eq ch 32 _ bk_stx
theorem pure_read_helper {K : PySem.W.Frag} (vs : List V) (H : Hp) (Q : VK) (E : XK) (h : sp_read_helper K vs H Q E) : t_read_helper E K (fin Q) (start ["text", "name", "between", "further", "one"] vs) H := by
  obtain ⟨x, rfl, hl, fl, qd, qe⟩ := h
  show t_read_helper E K _ [some (.str x), none, none, none, none] H
  unfold t_read_helper
  have lx : x.length ≤ sizeLine := Nat.le_trans hl (by decide)
  obtain ⟨i1, i2⟩ := part_three x
  have er : rdH x = if (Txt.partition x ":").2.1 = "" ∨ ((Txt.partition x ":").2.2 ≠ "" ∧ (Txt.partition x ":").2.2.cps.toList.head? ≠ some 32) then none
    else if (Txt.partition x ":").2.2 = "" then some (.tuple [.str (Txt.partition x ":").1, .list []])
    else (mapO rdS (Txt.split (cutS (Txt.partition x ":").2.2 (some 1) none) ", ")).map fun ds => PyData.tuple [.str (Txt.partition x ":").1, .list ds] := rfl
  walk_at "w"
  refine w_partition (by decide +kernel) lx fun tp H1 ntp c1 htp => ?_
  generalize (Txt.partition x ":").1 = nm at i1 er htp
  generalize (Txt.partition x ":").2.1 = bt at er htp
  generalize (Txt.partition x ":").2.2 = fu at i2 er htp
  have l2 := infix_len i2
  have lf : fu.length ≤ sizeLine := Nat.le_trans (Nat.le_trans l2 hl) (by decide)
  walk_at "w"
  refine w_iteD (fun h => ?_) (fun h => ?_)
  · have h := V.str.inj h
    walk_at "w"
    exact w_raiseN (qe (by rw [er, if_pos (.inl h)]) H1 c1)
  have hb : bt ≠ "" := fun z => h (by rw [z])
  walk_at "w"
  refine w_iteD (fun h => ?_) (fun h => ?_)
  · have h := V.str.inj h
    walk_at "w"
    refine w_iteD (fun h' => ?_) (fun h' => absurd (by rw [h]) h')
    walk_at "w"
    refine k_lst (by walk_at "sz") fun D H2 nD c2 hD => ?_
    walk_at "w"
    refine k_tup (by walk_at "sz") fun T H3 nT c3 hT => ?_
    exact qd nm [] (by rw [er, if_neg (fun z => z.elim hb fun z => z.1 h), if_pos h]) T D [] H3 (c1.dom _ nD) ((c1.same c2).same c3) hT (c3.at hD) .nil
  have hf : fu ≠ "" := fun z => h (by rw [z])
  walk_at "w"
  cases ehd : fu.cps.toList with
  | nil => exact absurd (by rw [empty_stx, ← ehd]; exact (stx_of fu).symm) hf
  | cons ch r =>
    refine w_ixS lf (c := ch) (by rw [ehd]; exact at0) ?_
    walk_at "w"
    rw [head32]
    rw [show fu.cps.toList.head? = some ch by rw [ehd]; rfl] at er
    refine w_iteD (fun h3 => ?_) (fun h3 => ?_)
    · walk_at "w"
      refine w_iteD (fun h' => absurd (V.str.inj h') hf) (fun h' => ?_)
      walk_at "w"
      rw [if_neg (fun z => z.elim hb fun z => z.2 (by rw [h3])), if_neg hf] at er
      have ic : tlS (cutS fu (some 1) none) <:+: tlS x := by
        rw [show (some (1 : Int)) = some ((1 : Nat) : Int) from rfl, cutS_drop, tl_stx]
        exact (drop_infix 1).trans i2
      generalize cutS fu (some 1) none = z1 at ic er
      have lz := infix_len ic
      obtain ⟨sl, si⟩ := split_facts (x := z1) com_two (by decide) (by decide)
      refine w_split (by decide +kernel) (Nat.le_trans (show z1.length + 2 ≤ 3000000 by omega) (by decide)) fun L H2 nL c2 hL => ?_
      generalize Txt.split z1 ", " = ps at sl si er hL
      have c12 := c1.same c2
      walk_at "w"
      refine w_lcP (walk_list (K := K) (a := L) (xs := ps.map V.str)) [] (fun _ _ => True) (fun i y H => ∃ s d, ps[i]? = some s ∧ rdS s = some d ∧ Im H y d) trivial (fun _ _ _ _ _ _ _ => trivial) (fun H1 c => sqL (c.at hL)) (fun D i acc z H4 H5 hi nD hD el iv c _ y => ?_) (fun D acc H4 nD c _ el hD ys => ?_)
      · obtain ⟨rfl, ey⟩ := y
        rw [List.length_map] at hi
        rw [List.getElem?_map, List.getElem?_eq_getElem hi] at ey
        cases ey
        have gi : ps[i]? = some ps[i] := List.getElem?_eq_getElem hi
        have pi := (si _ (List.getElem_mem hi)).trans ic
        have lp := infix_len pi
        walk_at "w"
        refine ⟨ps[i], rfl, by omega, fl.sub pi, fun d ed v H6 c6 im => ?_, fun eN => (show ntE K E H5 from (fun H' c' => qe (by rw [er, mapO_none eN gi]; rfl) H' ((c12.same c).same c')))⟩
        exact lcp_endM (fun _ _ _ _ _ _ _ => trivial) (fun _ _ _ _ _ _ c h => by obtain ⟨s, d, h1, h2, h3⟩ := h; exact ⟨s, d, h1, h2, h3.im c⟩) nD (by simp) hD el (by omega) iv c6 trivial ⟨_, d, gi, ed, im⟩
      · rw [List.length_map] at el
        obtain ⟨ds, lds, hds⟩ := pick_data (P := fun i y d => ∃ s, ps[i]? = some s ∧ rdS s = some d ∧ Im H4 y d) fun i y hy => by
          obtain ⟨s, d, h⟩ := ys i y hy
          exact ⟨d, s, h⟩
        have em : mapO rdS ps = some ds := mapO_get (by omega) fun i a b h1 h2 => by
          have hi : i < acc.length := by rw [← lds]; exact (List.getElem?_eq_some_iff.mp h2).1
          obtain ⟨s, z1, z2, _⟩ := hds i _ b (List.getElem?_eq_getElem hi) h2
          rw [h1] at z1
          cases z1
          exact z2
        have ia : ImA H4 acc ds := imA_d lds fun i y d h1 h2 => by
          obtain ⟨s, _, _, z⟩ := hds i y d h1 h2
          exact z
        walk_at "w"
        refine k_tup (by walk_at "sz") fun T H6 nT c6 hT => ?_
        exact qd nm ds (by rw [er, em]; rfl) T D acc H6 (c12.dom _ nD) ((c12.same c).same c6) hT (c6.at hD) (ia.im c6)
    · walk_at "w"
      exact w_raiseN (qe (by rw [er, if_pos (.inr ⟨hf, fun z => h3 (Option.some.inj z)⟩)]) H1 c1)
end
end Fg
namespace Fg
open PySem PySem.Spec PyProof.Rows L2 PySem.NumText
theorem back_digit {c : Nat} (h1 : 48 ≤ c) (h2 : c ≤ 57) : (Char.ofNat c).toNat = c := by
  have : c = 48 ∨ c = 49 ∨ c = 50 ∨ c = 51 ∨ c = 52 ∨ c = 53 ∨ c = 54 ∨ c = 55 ∨ c = 56 ∨ c = 57 := by omega
  rcases this with rfl | rfl | rfl | rfl | rfl | rfl | rfl | rfl | rfl | rfl <;> rfl
theorem numL_back {cs : Tx} (h : AllDigits cs) (ne : cs ≠ []) (c : cs.length = 1 ∨ ∃ a r, cs = a :: r ∧ 49 ≤ a) : TL.numL (digitsVal cs) = cs := by
  rw [← TL.tl_num]
  show (Str.ofString (toString ((digitsVal cs : Nat) : Int))).cps.toList = cs
  rw [PySem.W.KIN.signs_num]
  have hl : 1 ≤ cs.length := by cases cs with
    | nil => exact absurd rfl ne
    | cons a b => simp
  rw [toDigits_digitsVal (cs.length - 1) cs (by omega) h (c.imp (fun z => by omega) id), List.map_map]
  have : ∀ l : Tx, AllDigits l → l.map (Char.toNat ∘ Char.ofNat) = l := fun l hl => by
    conv => rhs; rw [← List.map_id l]
    exact List.map_congr_left fun a ha => back_digit (hl a ha).1 (hl a ha).2
  exact this cs h
theorem rdN_sound {x : Str} {i : Int} (h : rdN x = some i) (hl : x.length ≤ 4300) : x = Str.ofString (toString i) := by
  unfold rdN at h
  split at h
  · next ok =>
    unfold numOk at ok
    rw [Bool.and_eq_true, Bool.and_eq_true] at ok
    obtain ⟨⟨h1, h2⟩, h3⟩ := ok
    have h1 : figsOf x ≠ "" := by simpa using h1
    have h2 : AllDigits (tlS (figsOf x)) := fun c hc => by
      have := fig_range (.inr (List.all_eq_true.mp h2 c hc))
      have h4 := List.all_eq_true.mp h2 c hc
      unfold isFig at h4
      rw [Bool.and_eq_true, decide_eq_true_eq, decide_eq_true_eq] at h4
      exact h4
    have ne : tlS (figsOf x) ≠ [] := fun z => h1 (by rw [empty_stx, ← z]; exact (stx_of _).symm)
    have h3 : ¬ ((tlS (figsOf x)).head? = some 48 ∧ x ≠ "0") := fun z => by
      rw [decide_eq_true (show (figsOf x).cps.toList.head? = some 48 from z.1), decide_eq_false z.2] at h3
      cases h3
    by_cases hx : (tlS x).head? = some 45
    · obtain ⟨r, hr⟩ : ∃ r, tlS x = 45 :: r := by
        cases e : tlS x with
        | nil => rw [e] at hx; cases hx
        | cons a r => rw [e] at hx; cases hx; exact ⟨r, rfl⟩
      have e := figsOf_neg hr
      rw [e, tl_stx] at h2 ne h3
      rw [intText_neg hr h2 ne hl] at h
      have h := Option.some.inj h
      cases r with
      | nil => exact absurd rfl ne
      | cons a r =>
        have h0 : x ≠ "0" := fun z => by
          rw [z, show tlS "0" = [48] by decide +kernel] at hr
          cases hr
        have a48 : a ≠ 48 := fun z => h3 ⟨by rw [z]; rfl, h0⟩
        have a49 : 49 ≤ a := by have := (h2 a (by simp)).1; omega
        have pos := digitsVal_pos (cs := r) a49
        obtain ⟨n, hn⟩ : ∃ n, digitsVal (a :: r) = n + 1 := ⟨digitsVal (a :: r) - 1, by omega⟩
        rw [hn] at h
        rw [← h]
        apply tl_inj
        rw [sh_neg, ← hn, numL_back h2 ne (.inr ⟨a, r, rfl, a49⟩), hr]
    · have e := figsOf_pos hx
      rw [e] at h2 ne h3
      rw [intText_digits h2 ne hl] at h
      have h := Option.some.inj h
      rw [← h]
      apply tl_inj
      rw [sh_nat, numL_back h2 ne ?_]
      by_cases h0 : x = "0"
      · exact .inl (by rw [h0]; decide +kernel)
      · cases e2 : tlS x with
        | nil => exact absurd e2 ne
        | cons a r =>
          refine .inr ⟨a, r, rfl, ?_⟩
          have a48 : a ≠ 48 := fun z => h3 ⟨by rw [e2, z]; rfl, h0⟩
          have := (h2 a (by show a ∈ tlS x; rw [e2]; simp)).1
          omega
  · cases h
theorem joinL_cons1 {c : Nat} : ∀ {ps : List Tx}, ps ≠ [] → TL.joinL [32] (cons1 c ps) = c :: TL.joinL [32] ps
  | [], h => absurd rfl h
  | [p], _ => rfl
  | p :: q :: r, _ => rfl
theorem ptd_inv : ∀ {l : Tx} {lv : Int} {ps : List Tx}, ptd lv l = some ps → TL.joinL [32] ps = l
  | [], lv, ps, h => by cases h; rfl
  | c :: r, lv, ps, h => by
    rw [ptd_step] at h
    split at h
    · cases h
    · split at h
      · next hc =>
        obtain ⟨qs, h1, rfl⟩ := Option.map_eq_some_iff.mp h
        have ih := ptd_inv h1
        have nn := ptd_nn qs h1
        cases qs with
        | nil => exact absurd rfl nn
        | cons q qs =>
          show [] ++ ([32] ++ TL.joinL [32] (q :: qs)) = _
          rw [ih, hc.1]
          rfl
      · obtain ⟨qs, h1, rfl⟩ := Option.map_eq_some_iff.mp h
        rw [joinL_cons1 (ptd_nn qs h1), ptd_inv h1]
theorem tl_joinS (y : Str) (ps : List Str) : tlS (Txt.join y ps) = TL.joinL (tlS y) (ps.map tlS) := by
  rw [TL.join_eq]
  exact TL.tl_join y ps
theorem ptdS_inv {x : Str} {ps : List Str} (h : ptdS x = some ps) : x = Txt.join " " ps := by
  obtain ⟨qs, h1, rfl⟩ := Option.map_eq_some_iff.mp (show (ptd 0 (tlS x)).map (fun ps => ps.map stx) = some ps from h)
  apply tl_inj
  rw [tl_joinS, List.map_map, tl_blk]
  have : qs.map (tlS ∘ stx) = qs := by
    conv => rhs; rw [← List.map_id qs]
    exact List.map_congr_left fun a _ => tl_stx a
  rw [this, ptd_inv h1]
theorem spl2_inv {c d : Nat} : ∀ l : Tx, TL.joinL [c, d] (spl2 c d l) = l := by
  intro l
  induction l using spl2.induct (c := c) (d := d) with
  | case1 => rfl
  | case2 a => rfl
  | case3 a b r h ih =>
    rw [spl2_cons, if_pos h]
    obtain ⟨p, ps, e⟩ := spl2_ne c d r
    rw [e] at ih ⊢
    show [] ++ ([c, d] ++ TL.joinL [c, d] (p :: ps)) = _
    rw [ih, h.1, h.2]
    rfl
  | case4 a b r h ih =>
    rw [spl2_cons, if_neg h]
    obtain ⟨p, ps, e⟩ := spl2_ne c d (b :: r)
    rw [e] at ih ⊢
    cases ps with
    | nil => show a :: p = _; rw [show p = b :: r from ih]
    | cons q qs =>
      show (a :: p) ++ ([c, d] ++ TL.joinL [c, d] (q :: qs)) = _
      rw [← ih]
      rfl
theorem split_inv {x y : Str} {c d : Nat} (hy : y = ⟨#[c, d]⟩) (hc : c < 256) (hd : d < 256) : Txt.join y (Txt.split x y) = x := by
  apply tl_inj
  rw [tl_joinS]
  have e : (Txt.split x y).map tlS = spl2 c d (tlS x) := by subst hy; exact split_spl hc hd
  have e2 : tlS y = [c, d] := by subst hy; rfl
  rw [e, e2, spl2_inv]
theorem mapO_len {α β : Type} {f : α → Option β} : ∀ {l : List α} {bs : List β}, mapO f l = some bs → l.length = bs.length
  | [], bs, h => by cases h; rfl
  | a :: l, bs, h => by
    have h : (f a).bind (fun b => (mapO f l).bind fun bs => some (b :: bs)) = some bs := h
    obtain ⟨b, _, h2⟩ := Option.bind_eq_some_iff.mp h
    obtain ⟨bs2, h3, h4⟩ := Option.bind_eq_some_iff.mp h2
    cases h4
    rw [List.length_cons, List.length_cons, mapO_len h3]
/-- typed items of a list that is read -/
theorem mapO_typed {γ : Type} {f : Str → Option PyData} {dt : γ → PyData} {sh : γ → Str} {P : γ → Prop} : ∀ {l : List Str} {ds : List PyData}, mapO f l = some ds → (∀ x ∈ l, ∀ d ∈ ds, f x = some d → ∃ g, d = dt g ∧ x = sh g ∧ P g) → ∃ gs : List γ, ds = gs.map dt ∧ l = gs.map sh ∧ ∀ g ∈ gs, P g
  | [], ds, h, _ => by cases h; exact ⟨[], rfl, rfl, fun g hg => by cases hg⟩
  | a :: l, ds, h, k => by
    have h : (f a).bind (fun b => (mapO f l).bind fun bs => some (b :: bs)) = some ds := h
    obtain ⟨b, h1, h2⟩ := Option.bind_eq_some_iff.mp h
    obtain ⟨bs2, h3, h4⟩ := Option.bind_eq_some_iff.mp h2
    cases h4
    obtain ⟨g, e1, e2, e3⟩ := k a (by simp) b (by simp) h1
    obtain ⟨gs, e4, e5, e6⟩ := mapO_typed h3 fun x hx d hd => k x (List.mem_cons_of_mem _ hx) d (List.mem_cons_of_mem _ hd)
    refine ⟨g :: gs, by rw [List.map_cons, e1, e4], by rw [List.map_cons, e2, e5], fun g' hg' => ?_⟩
    rcases List.mem_cons.mp hg' with rfl | hg'
    · exact e3
    · exact e6 g' hg'
theorem last_rb {x : Str} (h : cutS x (some (-1)) none = "]") : ∃ l, tlS x = l ++ [93] := by
  rw [cutS_last, rb_stx] at h
  have h := stx_inj h
  exact ⟨(tlS x).take ((tlS x).length - 1), by
    conv => lhs; rw [← List.take_append_drop ((tlS x).length - 1) (tlS x), h]⟩
theorem takeWhile_split {c : Nat} : ∀ {l : Tx}, c ∈ l → ∃ r, l = l.takeWhile (· != c) ++ c :: r
  | [], h => by cases h
  | a :: l, h => by
    by_cases e : a = c
    · subst e
      exact ⟨l, by rw [List.takeWhile_cons_of_neg (by simp)]; rfl⟩
    · rcases List.mem_cons.mp h with z | h
      · exact absurd z.symm e
      · obtain ⟨r, hr⟩ := takeWhile_split h
        exact ⟨r, by rw [List.takeWhile_cons_of_pos (by simp [e]), List.cons_append, ← hr]⟩
theorem word_split {x : Str} (h : cutS x (some (-1)) none = "]") (hp : partsOf (Txt.partition x "[").1 ≠ none) : x = (Txt.partition x "[").1 ++ "[" ++ cutS x (some ((Txt.partition x "[").1.length + 1)) (some (-1)) ++ "]" := by
  obtain ⟨l, el⟩ := last_rb h
  rw [lb_one] at hp ⊢
  by_cases h91 : 91 ∈ x.cps.toList
  · rw [partition_at h91]
    obtain ⟨r, er⟩ := takeWhile_split h91
    have er : tlS x = (tlS x).takeWhile (· != 91) ++ 91 :: r := er
    show x = stx ((tlS x).takeWhile (· != 91)) ++ "[" ++ cutS x (some (((stx ((tlS x).takeWhile (· != 91))).length : Int) + 1)) (some (-1)) ++ "]"
    generalize (tlS x).takeWhile (· != 91) = w at er
    rw [stx_len]
    obtain ⟨r', er'⟩ : ∃ r', r = r' ++ [93] := by
      rw [el] at er
      rcases List.eq_nil_or_concat r with rfl | ⟨r', b, rfl⟩
      · have := congrArg List.getLast? er
        rw [List.getLast?_append, List.getLast?_append] at this
        cases this
      · rw [List.concat_eq_append]
        have : l ++ [93] = (w ++ 91 :: r') ++ [b] := by rw [er, List.concat_eq_append]; simp
        have h2 := (List.append_inj' this rfl).2
        cases h2
        exact ⟨r', rfl⟩
    subst er'
    have ec : cutS x (some ((w.length : Int) + 1)) (some (-1)) = stx r' := by
      rw [show (some ((w.length : Int) + 1) : Option Int) = some ((w.length + 1 : Nat) : Int) from rfl, cutS_mid, er]
      have e1 : w ++ 91 :: (r' ++ [93]) = (w ++ 91 :: r') ++ [93] := by simp
      rw [e1, List.length_append]
      show stx (List.drop (w.length + 1) (List.take ((w ++ 91 :: r').length + 1 - 1) ((w ++ 91 :: r') ++ [93]))) = _
      rw [Nat.add_sub_cancel, List.take_left, ← List.drop_drop, List.drop_left]
      rfl
    rw [ec]
    apply tl_inj
    rw [tl_br, tl_stx, tl_stx, er]
  · rw [partition_no h91] at hp
    exfalso
    have m93 : 93 ∈ tlS x := by rw [el]; simp
    apply hp
    show partsOf x = none
    unfold partsOf
    rw [if_neg (fun z => by rw [z] at m93; revert m93; decide +kernel), if_neg (fun z => by rw [z] at m93; revert m93; decide +kernel), if_neg (fun z => by rw [z] at m93; revert m93; decide +kernel), if_neg (fun z => by rw [z] at m93; revert m93; decide +kernel), if_neg (fun z => by rw [z] at m93; revert m93; decide +kernel)]
theorem partsOf_cases {w : Str} {k : Nat} (h : partsOf w = some k) (ha : w ≠ "arg") : (w = "cell" ∧ k = 1) ∨ (w = "add" ∧ k = 2) ∨ (w = "less" ∧ k = 2) ∨ (w = "least" ∧ k = 2) := by
  unfold partsOf at h
  rw [if_neg ha] at h
  split at h
  · exact .inl ⟨‹_›, (Option.some.inj h).symm⟩
  · split at h
    · exact .inr (.inl ⟨‹_›, (Option.some.inj h).symm⟩)
    · split at h
      · exact .inr (.inr (.inl ⟨‹_›, (Option.some.inj h).symm⟩))
      · split at h
        · exact .inr (.inr (.inr ⟨‹_›, (Option.some.inj h).symm⟩))
        · cases h
theorem rdE_sound : ∀ {n : Nat} {x : Str} {d : PyData}, rdE n x = some d → isExpr n d = true → x.length ≤ 4300 → ∃ e : Ex, d = e.data ∧ x = shE e ∧ e.deep ≤ n
  | 0, x, d, h, _, _ => by cases h
  | n + 1, x, d, h, he, hl => by
    rw [rdE] at h
    split at h
    · next h1 => cases h; exact ⟨.arg, rfl, h1, by show 1 ≤ n + 1; omega⟩
    · split at h
      · obtain ⟨i, h1, rfl⟩ := Option.map_eq_some_iff.mp h
        exact ⟨.num i, rfl, rdN_sound h1 hl, by show 1 ≤ n + 1; omega⟩
      · next h1 h2 =>
        have h2 : cutS x (some (-1)) none = "]" := Decidable.byContradiction h2
        split at h
        · cases h
        · next h3 =>
          have hp : partsOf (Txt.partition x "[").1 ≠ none := fun z => h3 (.inl z)
          have ha : (Txt.partition x "[").1 ≠ "arg" := fun z => h3 (.inr z)
          have ex := word_split h2 hp
          have ii : tlS (cutS x (some ((Txt.partition x "[").1.length + 1)) (some (-1))) <:+: tlS x := cut_in x ((Txt.partition x "[").1.length + 1)
          generalize (Txt.partition x "[").1 = w at h hp ha ex ii
          generalize cutS x (some ((w.length : Int) + 1)) (some (-1)) = inn at h ex ii
          obtain ⟨ps, h4, h5⟩ := Option.bind_eq_some_iff.mp h
          obtain ⟨ds, h6, rfl⟩ := Option.map_eq_some_iff.mp h5
          cases ep : partsOf w with
          | none => exact absurd ep hp
          | some k =>
            have he : (decide (ds.length = k) && ds.all (isExpr n)) = true := by
              rw [isExpr, ep] at he
              exact he
            rw [Bool.and_eq_true, decide_eq_true_eq, List.all_eq_true] at he
            obtain ⟨lk, ok⟩ := he
            have pin := (ptdS_facts h4).2.2
            obtain ⟨es, e1, e2, e3⟩ := mapO_typed (γ := Ex) (dt := Ex.data) (sh := shE) (P := fun e => e.deep ≤ n) h6 fun y hy d hd hf => by
              have := infix_len ((pin y hy).trans ii)
              obtain ⟨e, z1, z2, z3⟩ := rdE_sound hf (ok d hd) (by omega)
              exact ⟨e, z1, z2, z3⟩
            have ej := ptdS_inv h4
            subst e1 e2
            rw [List.length_map] at lk
            rcases partsOf_cases ep ha with ⟨rfl, rfl⟩ | ⟨rfl, rfl⟩ | ⟨rfl, rfl⟩ | ⟨rfl, rfl⟩
            · match es, lk with
              | [a], _ =>
                refine ⟨.cell a, rfl, ?_, ?_⟩
                · rw [ex, ej, List.map_cons, List.map_nil, join_one]; rfl
                · have := e3 a (by simp); show a.deep + 1 ≤ n + 1; omega
            · match es, lk with
              | [a, b], _ =>
                refine ⟨.add a b, rfl, ?_, ?_⟩
                · rw [ex, ej, List.map_cons, List.map_cons, List.map_nil, join_two]; rfl
                · have := e3 a (by simp); have := e3 b (by simp); show max a.deep b.deep + 1 ≤ n + 1; omega
            · match es, lk with
              | [a, b], _ =>
                refine ⟨.less a b, rfl, ?_, ?_⟩
                · rw [ex, ej, List.map_cons, List.map_cons, List.map_nil, join_two]; rfl
                · have := e3 a (by simp); have := e3 b (by simp); show max a.deep b.deep + 1 ≤ n + 1; omega
            · match es, lk with
              | [a, b], _ =>
                refine ⟨.least a b, rfl, ?_, ?_⟩
                · rw [ex, ej, List.map_cons, List.map_cons, List.map_nil, join_two]; rfl
                · have := e3 a (by simp); have := e3 b (by simp); show max a.deep b.deep + 1 ≤ n + 1; omega
end Fg
namespace Fg
open PySem PySem.Spec PyProof.Rows L2
local macro_rules | `(tactic| walk_at "hp") => `(tactic| first
  | assumption
  | exact upd_same
  | (refine Chg.at (by assumption) ?_; walk_at "hp")
  | (refine Chg.at1 (by assumption) ?_ (by walk_at "ne"); walk_at "hp"))
local macro_rules | `(tactic| walk_at "ne") => `(tactic| first | assumption | (apply Ne.symm; assumption))
local macro_rules | `(tactic| walk_at "sq") => `(tactic| first | assumption | exact sqL (by walk_at "hp") | (refine Chg.seq (by assumption) ?_; walk_at "sq"))
local macro_rules | `(tactic| walk_at "sz") => `(tactic| first | assumption | exact Nat.zero_le _ | (simp only [List.length_cons, List.length_nil]; decide) | exact Nat.le_trans (by first | omega | (simp; done) | (simp; omega)) (show 100000 ≤ sizeLine by decide) | exact Nat.lt_of_lt_of_le (by first | omega | (simp; done) | (simp; omega)) (show 100000 ≤ sizeLine by decide))
local macro_rules | `(tactic| walk_at "ix") => `(tactic| first | exact at0 | exact at1 | exact at2 | exact at3 | assumption | exact rfl | walk_at "ix2")
local macro_rules | `(tactic| walk_at "ix2") => `(tactic| fail)
local macro_rules | `(tactic| walk_at "num") => `(tactic| first | assumption | omega | decide | walk_at "num2")
local macro_rules | `(tactic| walk_at "num2") => `(tactic| fail)
local macro_rules | `(tactic| walk_at "im") => `(tactic| first | assumption | exact R.non (S := fun _ => False) | exact R.bl (S := fun _ => False) _ | exact R.int (S := fun _ => False) _ | exact R.str (S := fun _ => False) _ | (refine R.im (by assumption) ?_; walk_at "im"))
local macro_rules | `(tactic| walk_at "r") => `(tactic| first | assumption | exact R.non (S := fun _ => False) | exact R.bl (S := fun _ => False) _ | exact R.int (S := fun _ => False) _ | exact R.str (S := fun _ => False) _ | (refine R.same (by assumption) ?_; walk_at "r") | exact R.any (by walk_at "im"))
local macro_rules | `(tactic| walk_at "chg") => `(tactic| first
  | exact Chg.refl
  | assumption
  | (refine Chg.same ?_ (by assumption); walk_at "chg")
  | (refine Chg.both ?_ (by assumption); walk_at "chg")
  | (refine Chg.pre (by assumption) ?_; walk_at "chg"))
local macro_rules | `(tactic| walk_at "w1") => `(tactic| first
  | with_reducible apply w_seq
  | with_reducible apply w_asg
  | ((with_reducible apply w_var); (focus (exact rfl)))
  | with_reducible apply w_c
  | with_reducible apply w_op
  | with_reducible apply w_cons
  | with_reducible apply w_nil
  | with_reducible apply w_gName
  | with_reducible apply w_if
  | with_reducible apply w_test
  | with_reducible apply w_B
  | with_reducible apply w_isbl
  | with_reducible apply w_retN
  | with_reducible apply w_next
  | with_reducible apply w_drop
  | with_reducible apply w_cb
  | with_reducible apply w_call
  | with_reducible apply w_callN
  | with_reducible apply w_bm
  | with_reducible apply w_bm0
  | ((with_reducible apply w_tyL); (focus (walk_at "hp"; done)))
  | with_reducible apply w_dput
  | with_reducible apply w_m1
  | with_reducible apply w_isstr
  | with_reducible apply w_and
  | with_reducible apply w_or
  | with_reducible apply w_not
  | with_reducible apply w_andV
  | with_reducible apply w_orV
  | with_reducible apply w_notV
  | with_reducible apply w_ifE
  | with_reducible apply w_chain
  | with_reducible apply w_un
  | with_reducible apply w_neg
  | with_reducible apply w_add
  | with_reducible apply w_sub
  | ((with_reducible apply w_mod); (focus (walk_at "num"; done)))
  | ((with_reducible apply w_mul); (focus (walk_at "num"; done)))
  | ((with_reducible apply w_fdiv); (focus (walk_at "num"; done)))
  | ((with_reducible apply w_pow); (focus (walk_at "num"; done)))
  | with_reducible apply w_lt
  | with_reducible apply w_le
  | with_reducible apply w_gt
  | with_reducible apply w_ge
  | with_reducible apply w_ltS
  | with_reducible apply w_geS
  | with_reducible apply w_inC
  | with_reducible apply w_notInC
  | with_reducible apply w_isN
  | with_reducible apply w_notN
  | with_reducible apply w_isB
  | with_reducible apply w_notB
  | ((with_reducible apply w_addS); (focus (walk_at "sz"; done)))
  | ((with_reducible apply w_ixL); (focus (walk_at "sq"; done)); (focus (walk_at "ix"; done)))
  | ((with_reducible apply w_ixT); (focus (walk_at "hp"; done)); (focus (walk_at "ix"; done)))
  | ((with_reducible apply w_ixS); (focus (walk_at "sz"; done)); (focus (walk_at "ix"; done)))
  | with_reducible apply w_gSub
  | ((with_reducible apply w_gTup); (focus (walk_at "hp"; done)); (focus (exact rfl)))
  | with_reducible apply w_gCons
  | with_reducible apply w_gNil
  | ((with_reducible apply w_aug); (focus (exact rfl)))
  | with_reducible apply w_ipI
  | ((with_reducible apply w_eq); (focus (exact rfl)))
  | ((with_reducible apply w_ne); (focus (exact rfl)))
  | with_reducible apply w_max
  | with_reducible apply w_min
  | with_reducible apply w_abs
  | with_reducible apply w_intB
  | with_reducible apply w_intI
  | with_reducible apply w_tup1
  | with_reducible apply w_lst1
  | with_reducible apply w_sl
  | with_reducible apply w_part
  | with_reducible apply w_noPart
  | with_reducible apply w_isint
  | ((with_reducible apply w_slS); (focus (walk_at "sz"; done)))
  | with_reducible apply w_iteT
  | with_reducible apply w_iteF
  | with_reducible apply w_iteN
  | ((with_reducible apply w_iteYes); (focus (exact rfl)))
  | ((with_reducible apply w_iteNo); (focus (exact rfl)))
  | ((with_reducible apply w_lenL); (focus (walk_at "sq"; done)))
  | ((with_reducible apply w_lenT); (focus (walk_at "hp"; done)))
  | ((with_reducible apply w_lenS); (focus (walk_at "sz"; done)))
  | with_reducible apply w_lc
  | with_reducible apply w_for
  | with_reducible apply w_yes
  | ((with_reducible apply w_wipe); (focus (exact rfl)))
  | with_reducible apply w_iList
  | with_reducible apply w_iTup
  | with_reducible apply w_iStr
  | with_reducible apply w_iRng1
  | with_reducible apply w_iRng2
  | with_reducible apply w_iZip
  | with_reducible apply w_iEnum
  | ((with_reducible apply d_iList); (focus (walk_at "sq"; done)))
  | ((with_reducible apply d_iTup); (focus (walk_at "hp"; done)))
  | with_reducible apply d_iStr
  | ((with_reducible apply d_iRng1); (focus (walk_at "num"; done)); (focus (walk_at "num"; done)))
  | ((with_reducible apply d_iRng2); (focus (walk_at "num"; done)); (focus (walk_at "num"; done)); (focus (walk_at "num"; done)); (focus (walk_at "num"; done)))
  | ((with_reducible apply d_iZip); (focus (walk_at "sq"; done)); (focus (walk_at "sq"; done)))
  | ((with_reducible apply d_iEnum); (focus (walk_at "sq"; done)))
  | walk_at "w2")
local macro_rules | `(tactic| walk_at "w2") => `(tactic| fail)
local macro_rules | `(tactic| walk_at "wn") => `(tactic| repeat walk_at "w1")
local macro_rules | `(tactic| walk_at "w") => `(tactic| repeat (first | walk_at "w1" | with_reducible apply w_ret))
local macro_rules | `(tactic| walk_at "w2") => `(tactic| first
  | ((with_reducible apply w_isInt); (focus (walk_at "r"; done)))
  | ((with_reducible apply w_isBool); (focus (walk_at "r"; done)))
  | ((with_reducible apply w_isStr); (focus (walk_at "r"; done)))
  | ((with_reducible apply w_isTup); (focus (walk_at "r"; done)))
  | ((with_reducible apply w_isLst); (focus (walk_at "r"; done)))
  | ((with_reducible apply w_notInP); (focus (assumption)))
  | ((with_reducible apply w_ixP); (focus (assumption)); (focus (assumption))))
section
local macro_rules | `(tactic| walk_at "w2") => `(tactic| with_reducible apply w_callX)
theorem prX_ra {H : Hp} {ts ds : List Addr} {rs : List RowP} (h : PR H ts ds rs) : ∀ n, n ≤ rs.length → RA (fun _ => True) H ((ts.take n).map V.ref) ((rs.take n).map rowDP)
  | 0, _ => .nil
  | n + 1, hn => by
    have h1 := h.lt
    have h2 := h.ld
    have e1 := List.getElem?_eq_getElem (l := ts) (i := n) (by omega)
    have e2 := List.getElem?_eq_getElem (l := ds) (i := n) (by omega)
    have e3 := List.getElem?_eq_getElem (l := rs) (i := n) (by omega)
    obtain ⟨f1, us, f2, f3⟩ := h.at_ n _ _ _ e1 e2 e3
    rw [List.take_succ_eq_append_getElem (by omega : n < ts.length), List.take_succ_eq_append_getElem (by omega : n < rs.length), List.map_append, List.map_append]
    exact (prX_ra h n (by omega)).snoc (.tup f1 (.cons (.str _) (.cons (.lst trivial f2 f3.any) .nil)))
theorem PRX.r {H : Hp} {ts ds : List Addr} {rs : List RowP} {F : Addr} (h : PR H ts ds rs) (hF : H F = some (.lst (ts.map V.ref))) : R (fun _ => True) H (.ref F) (prgDP rs) := by
  have := prX_ra h rs.length (Nat.le_refl _)
  rw [List.take_length, ← h.lt, List.take_length] at this
  exact .lst trivial hF this
theorem mapO_snoc {α β : Type} {f : α → Option β} {a : α} {b : β} : ∀ {l : List α} {bs : List β}, mapO f l = some bs → f a = some b → mapO f (l ++ [a]) = some (bs ++ [b])
  | [], bs, h, hb => by
    cases h
    exact mapO_one hb
  | c :: l, bs, h, hb => by
    have h : (f c).bind (fun b => (mapO f l).bind fun bs => some (b :: bs)) = some bs := h
    show (f c).bind _ = _
    cases e : f c with
    | none => rw [e] at h; cases h
    | some c' =>
      rw [e] at h
      have h : (mapO f l).bind (fun bs => some (c' :: bs)) = some bs := h
      cases e2 : mapO f l with
      | none => rw [e2] at h; cases h
      | some bs2 =>
        rw [e2] at h
        cases h
        show (mapO f (l ++ [a])).bind _ = _
        rw [mapO_snoc e2 hb]
        rfl
def rdV : PyData → Option (List PyData)
  | .str x => rdP x
  | _ => none
/-- what the rows of a read text must keep -/
def RowsSm (x : Str) : Prop := ∀ ds, rdRows x = some ds → smallD (.list ds) = true ∧ ds.length ≤ 1000
def sp_read_program (K : PySem.W.Frag) : Sp := fun vs H Q E => ∃ (v : V) (d : PyData) (S : Addr → Prop), vs = [v] ∧ R S H v d ∧ (∀ x, d = .str x → x.length ≤ 1000000 ∧ FigL (tlS x) ∧ RowsSm x) ∧
  (∀ rs : List RowP, rdV d = some (rs.map rowDP) → ∀ (F : Addr) (rows : List V) (H' : Hp), Chg [] H H' → H F = none → H' F = some (.lst rows) → PRows H H' F rows rs → Q (.ref F) H') ∧ (rdV d = none → ntE K E H)
def t_read_program (E : XK) (K : PySem.W.Frag) : TS :=
    tSeq (tIfS (tNot (tB (tCB (rIsi K) (tCons (tVar 0) (tCons (tC (.ty "str")) (tNil)))))) (tRaiseN (He.ga K "NoText") E) (tNext))
    (tSeq (tAsg (tLst (tNil)) (gName 1))
    (tSeq (tIfS (tTest (tOp rNe (tVar 0) (tC (.str "")))) (tAsg (tLc (iList K (tM1 mSplit (tVar 0) (tC (.str "; ")))) (gName 2) (tYes) (tCallSD (sp_read_helper K) [] (WE (fun cls d _ H => E cls d H)) (tCons (tVar 2) (tNil))) [2]) (gName 1)) (tNext))
    (tSeq (tIfS (tNot (tB (tCall sp_is_program [] E0 (tCons (tVar 1) (tNil))))) (tRaiseN (He.ga K "NoText") E) (tNext))
    (tRet (tVar 1)))))
def t_program_in (E : XK) (K : PySem.W.Frag) : TS :=
    tSeq (tIfS (tNot (tB (tCall sp_is_program [] E0 (tCons (tVar 1) (tNil))))) (tRaiseN (He.ga K "NoText") E) (tNext))
    (tRet (tVar 1))
theorem program_in {E : XK} {K : PySem.W.Frag} {Q : VK} {H H1 : Hp} {x : Str} {F : Addr} {rows : List V} {rs : List RowP} {y2 : Option V} (c1 : Chg [] H H1) (nF : H F = none) (hF : H1 F = some (.lst rows)) (pr : PRows H H1 F rows rs) (er : rdRows x = some (rs.map rowDP)) (sm : RowsSm x)
    (q : ∀ rs : List RowP, rdP x = some (rs.map rowDP) → ∀ (F : Addr) (rows : List V) (H' : Hp), Chg [] H H' → H F = none → H' F = some (.lst rows) → PRows H H' F rows rs → Q (.ref F) H') (qe : rdP x = none → ntE K E H) : t_program_in E K (fin Q) [some (.str x), some (.ref F), y2] H1 := by
  unfold t_program_in
  obtain ⟨s1, s2⟩ := sm _ er
  have ep : rdP x = if firstWrong (prgDP rs) = none then some (rs.map rowDP) else none := by
    unfold rdP
    rw [er]
    rfl
  have rr : R (fun _ => True) H1 (.ref F) (prgDP rs) := by
    obtain ⟨ts, ds, rfl, _, p⟩ := pr
    exact PRX.r p hF
  walk_at "w"
  refine ⟨_, prgDP rs, _, rfl, rr, s1, decide_eq_true s2, fun H2 c2 => ⟨_, rfl, ?_⟩⟩
  cases efw : firstWrong (prgDP rs) with
  | none =>
    walk_at "w"
    refine q rs (by rw [ep, if_pos efw]) F rows H2 (c1.same c2) nF (c2.at hF) (pr.keep c2 (by simp))
  | some o =>
    walk_at "w"
    exact w_raiseN (qe (by rw [ep, if_neg (by rw [efw]; simp)]) H2 (c1.same c2))
theorem pure_read_program {K : PySem.W.Frag} (vs : List V) (H : Hp) (Q : VK) (E : XK) (h : sp_read_program K vs H Q E) : t_read_program E K (fin Q) (start ["text", "program", "one"] vs) H := by
  obtain ⟨v, d, S, rfl, r, hx, q, qe⟩ := h
  show t_read_program E K _ [some v, none, none] H
  show tSeq _ (tSeq _ (tSeq _ (t_program_in E K))) (fin Q) _ H
  by_cases hd : dStr d = true
  · cases r with
    | str x =>
      have r : R S H (.str x) (.str x) := .str x
      obtain ⟨hl, fl, sm⟩ := hx x rfl
      have q : ∀ rs : List RowP, rdP x = some (rs.map rowDP) → _ := q
      have qe : rdP x = none → ntE K E H := qe
      walk_at "w"
      refine k_lst (by walk_at "sz") fun F0 H0 nF0 c0 hF0 => ?_
      walk_at "w"
      refine w_iteD (fun h => ?_) (fun h => ?_)
      · have h := V.str.inj h
        refine w_next ?_
        exact program_in (rs := []) c0 nF0 hF0 .nil (by unfold rdRows; rw [if_pos h]; rfl) sm q qe
      · have h : x ≠ "" := fun z => h (by rw [z])
        have er : rdRows x = mapO rdH (Txt.split x "; ") := by unfold rdRows; rw [if_neg h]
        have eN : rdRows x = none → rdP x = none := fun z => by unfold rdP; rw [z]; rfl
        obtain ⟨sl, si⟩ := split_facts (x := x) sem_two (by decide) (by decide)
        walk_at "w"
        refine w_split (by decide +kernel) (Nat.le_trans (show x.length + 2 ≤ 3000000 by omega) (by decide)) fun L H2 nL c2 hL => ?_
        generalize Txt.split x "; " = ps at sl si er hL
        have c02 := c0.same c2
        walk_at "w"
        refine w_lcW (walk_list (K := K) (a := L) (xs := ps.map V.str)) (fun D i acc H1 => Chg [] H2 H1 ∧ ∃ rs, PRows H H1 D acc rs ∧ mapO rdH (ps.take i) = some (rs.map rowDP)) (fun D H1 nD c hD => ⟨c, [], .nil, rfl⟩) (fun D i acc H1 _ _ z => sqL (z.1.at hL)) (fun D i acc z H4 H5 hi nD hD el iv y => ?_) (fun D acc H4 nD el hD iv => ?_)
        · obtain ⟨rfl, ey⟩ := y
          obtain ⟨c, rs, prw, em⟩ := iv
          rw [List.length_map] at hi
          rw [List.getElem?_map, List.getElem?_eq_getElem hi] at ey
          cases ey
          have gi : ps[i]? = some ps[i] := List.getElem?_eq_getElem hi
          have pi := si _ (List.getElem_mem hi)
          have lp := infix_len pi
          walk_at "w"
          refine ⟨ps[i], rfl, by omega, fl.sub pi, fun nm ds ed T D2 us H6 nD2 c6 hT hD2 ims => ?_, fun e => (show ntE K E H5 from (fun H' c' => qe (eN (by rw [er, mapO_none e gi])) H' ((c02.same c).same c')))⟩
          have hD6 := c6.at hD
          have neTD : T ≠ D := fun z => by rw [z, hD6] at hT; cases hT
          have neDD : D2 ≠ D := fun z => by rw [z, hD] at nD2; cases nD2
          refine lc_endM hD6 el (by omega) fun H7 c7 h7 => ⟨?_, rs ++ [(nm, ds)], ?_, ?_⟩
          · exact (c.same c6).one c7 nD
          · exact prw.snoc (r := (nm, ds)) (fun ts ds h1 p => (p.keep c6 (by simp)).keep c7 fun d hd hm => (h1 d hd).2 (List.mem_singleton.mp hm)) nD2 (c7.at1 hT neTD) ⟨(c02.same c).dom _ nD2, neDD⟩ (c7.at1 hD2 neDD) (RA.im c7 ims)
          · rw [List.take_add_one, gi, Option.toList_some, mapO_snoc em ed, List.map_append]
            rfl
        · obtain ⟨c, rs, prw, em⟩ := iv
          rw [List.length_map, List.take_length] at em
          walk_at "w"
          exact program_in (c02.same c) (c02.dom _ nD) hD prw (by rw [er, em]) sm q qe
    | _ => cases hd
  · have hd : dStr d = false := by simpa using hd
    have r' := r
    walk_at "w"
    refine w_iteNo hd ?_
    walk_at "w"
    exact w_raiseN (qe (by cases d <;> first | rfl | cases hd) H .refl)
end
end Fg
namespace Fg
open PySem PySem.Spec PyProof.Rows L2 PySem.NumText
theorem joinS_three (a b c : Str) : Txt.join " " [a, b, c] = a ++ " " ++ b ++ " " ++ c := by
  rw [TL.join_eq]
  show a ++ " " ++ (b ++ " " ++ c) = _
  apply tl_inj
  rw [tl_app, tl_app, tl_app, tl_app, tl_app, tl_app, tl_app, tl_app]
  simp
theorem rdS_sound {ns : List Str} {bh : Int} {x : Str} {d : PyData} (h : rdS x = some d) (hs : isStep ns bh d = true) (hl : x.length ≤ 4300) : ∃ s : Stp, d = s.data ∧ x = shS s ∧ s.ok ns bh := by
  obtain ⟨ps, h1, h2⟩ := Option.bind_eq_some_iff.mp h
  have ej := ptdS_inv h1
  have pin := (ptdS_facts h1).2.2
  have pl : ∀ q ∈ ps, q.length ≤ 4300 := fun q hq => by have := infix_len (pin q hq); omega
  match ps, h2 with
  | [], h2 => cases h2
  | [w], h2 =>
    have h2 : (if w = "wait" then some (PyData.tuple [.str "wait"]) else none) = some d := h2
    split at h2
    · next hw =>
      cases h2
      exact ⟨.wait, rfl, by rw [ej, join_one, hw]; rfl, trivial⟩
    · cases h2
  | [_, _], h2 => cases h2
  | _ :: _ :: _ :: _ :: _, h2 => cases h2
  | [w, a, b], h2 =>
    have h2 : rdS3 w a b = some d := h2
    have la := pl a (by simp)
    have lb := pl b (by simp)
    rw [joinS_three] at ej
    unfold rdS3 at h2
    split at h2
    · next hw =>
      subst hw
      obtain ⟨da, h3, h4⟩ := Option.bind_eq_some_iff.mp h2
      obtain ⟨db, h5, rfl⟩ := Option.map_eq_some_iff.mp h4
      have hs : (isExpr 5 da && isExpr 5 db) = true := by
        have hs : step3 ns bh "cell" da db = true := hs
        unfold step3 at hs
        rw [if_pos rfl] at hs
        exact hs
      rw [Bool.and_eq_true] at hs
      obtain ⟨e1, rfl, rfl, d1⟩ := rdE_sound h3 hs.1 la
      obtain ⟨e2, rfl, rfl, d2⟩ := rdE_sound h5 hs.2 lb
      exact ⟨.cell e1 e2, rfl, ej, d1, d2⟩
    · next hc =>
      split at h2
      · next hw =>
        subst hw
        obtain ⟨da, h3, h4⟩ := Option.bind_eq_some_iff.mp h2
        obtain ⟨k, h5, rfl⟩ := Option.map_eq_some_iff.mp h4
        have hs : (isExpr 5 da && (decide (1 ≤ k) && decide (k ≤ bh))) = true := by
          have hs : step3 ns bh "skip" da (.int k) = true := hs
          unfold step3 at hs
          rw [if_neg (by decide +kernel), if_pos rfl] at hs
          exact hs
        rw [Bool.and_eq_true, Bool.and_eq_true, decide_eq_true_eq, decide_eq_true_eq] at hs
        obtain ⟨e1, rfl, rfl, d1⟩ := rdE_sound h3 hs.1 la
        have e2 := rdN_sound h5 lb
        subst e2
        exact ⟨.skip e1 k, rfl, ej, d1, hs.2.1, hs.2.2⟩
      · next hk =>
        obtain ⟨db, h5, rfl⟩ := Option.map_eq_some_iff.mp h2
        have hw : w ≠ "wait" := fun z => by
          subst z
          have hs : (if ("wait" : Str) = "wait" then decide (([.str a, db] : List PyData).length = 0) else stepBody ns bh "wait" [.str a, db]) = true := hs
          rw [if_pos rfl] at hs
          cases hs
        have hq : step3 ns bh w (.str a) db = true := by
          have hs : (if w = "wait" then decide (([.str a, db] : List PyData).length = 0) else stepBody ns bh w [.str a, db]) = true := hs
          rw [if_neg hw] at hs
          exact hs
        clear hs
        unfold step3 at hq
        rw [if_neg hc, if_neg hk] at hq
        split at hq
        · next hg =>
          subst hg
          rw [Bool.and_eq_true] at hq
          obtain ⟨e2, rfl, rfl, d2⟩ := rdE_sound h5 hq.2 lb
          exact ⟨.give a e2, rfl, ej, hq.1, d2⟩
        · split at hq
          · next hfc =>
            rw [Bool.and_eq_true, Bool.and_eq_true] at hq
            obtain ⟨e2, rfl, rfl, d2⟩ := rdE_sound h5 hq.1.2 lb
            have hin : a ∈ ns := of_decide_eq_true hq.2
            rcases hfc with rfl | rfl
            · exact ⟨.fork a e2, rfl, ej, hq.1.1, hin, d2⟩
            · exact ⟨.call a e2, rfl, ej, hq.1.1, hin, d2⟩
          · cases hq
/-- a right program, of any length -/
structure PrgW (p : Prg) : Prop where
  names : ∀ r ∈ p, nameS r.1 = true
  up : rising (p.map (·.1)) = true
  steps : ∀ r ∈ p, stepsOk (p.map (·.1)) r.2
theorem PrgOk.w {p : Prg} (h : PrgOk p) : PrgW p := ⟨h.names, h.up, h.steps⟩
theorem hasFormW {p : Prg} (h : PrgW p) : hasForm (prgD p) = true := by
  show ((p.map rowD).all rowOk && rising ((p.map rowD).map rowName)) = true
  rw [rowName_map, h.up, Bool.and_true, List.all_map]
  exact List.all_eq_true.mpr fun r hr => h.names r hr
theorem firstWrongW {p : Prg} (h : PrgW p) : firstWrong (prgD p) = none := by
  unfold firstWrong
  rw [if_pos (hasFormW h)]
  show (wrongIn ((p.map rowD).map rowName) (p.map rowD)).map some = none
  rw [rowName_map, wrongIn_of h.steps]
  rfl
theorem steps_sound {ns : List Str} : ∀ {l : List Str} {ds : List PyData} {k : Nat}, mapO rdS l = some ds → wrongAt ns k ds = none → (∀ x ∈ l, x.length ≤ 4300) → ∃ ss : List Stp, ds = ss.map Stp.data ∧ l = ss.map shS ∧ stepsOk ns ss
  | [], ds, k, h, _, _ => by cases h; exact ⟨[], rfl, rfl, trivial⟩
  | x :: l, ds, k, h, hw, hl => by
    have h : (rdS x).bind (fun b => (mapO rdS l).bind fun bs => some (b :: bs)) = some ds := h
    obtain ⟨b, h1, h2⟩ := Option.bind_eq_some_iff.mp h
    obtain ⟨bs, h3, h4⟩ := Option.bind_eq_some_iff.mp h2
    cases h4
    have hv : (if isStep ns (bs.length : Int) b = true then wrongAt ns (k + 1) bs else some k) = none := hw
    clear hw
    split at hv
    · next hb =>
      obtain ⟨s, rfl, rfl, so⟩ := rdS_sound h1 hb (hl x (by simp))
      obtain ⟨ss, rfl, rfl, sso⟩ := steps_sound h3 hv fun y hy => hl y (List.mem_cons_of_mem _ hy)
      rw [List.length_map] at so
      exact ⟨s :: ss, rfl, rfl, so, sso⟩
    · cases hv
theorem part_shape {x : Str} (h : (Txt.partition x ":").2.1 ≠ "") : tlS x = tlS (Txt.partition x ":").1 ++ 58 :: tlS (Txt.partition x ":").2.2 := by
  rw [col_one] at h ⊢
  by_cases h58 : 58 ∈ x.cps.toList
  · rw [partition_at h58]
    obtain ⟨r, er⟩ := takeWhile_split h58
    have er : tlS x = (tlS x).takeWhile (· != 58) ++ 58 :: r := er
    show tlS x = tlS (stx ((tlS x).takeWhile (· != 58))) ++ 58 :: tlS (stx ((tlS x).drop (((tlS x).takeWhile (· != 58)).length + 1)))
    generalize (tlS x).takeWhile (· != 58) = w at er
    rw [tl_stx, tl_stx, er, ← List.drop_drop, List.drop_left]
    rfl
  · rw [partition_no h58] at h
    exact absurd rfl h
theorem rdH_sound {ns : List Str} {x : Str} {d : PyData} (h : rdH x = some d) (hw : wrongAt ns 0 (rowSteps d) = none) (hl : x.length ≤ 4300) : ∃ r : Str × List Stp, d = rowD r ∧ x = shH r ∧ stepsOk ns r.2 := by
  unfold rdH at h
  obtain ⟨i1, i2⟩ := part_three x
  split at h
  · cases h
  · next h0 =>
    have hb : (Txt.partition x ":").2.1 ≠ "" := fun z => h0 (.inl z)
    have sx := part_shape hb
    have h0 : ¬ ((Txt.partition x ":").2.2 ≠ "" ∧ (Txt.partition x ":").2.2.cps.toList.head? ≠ some 32) := fun z => h0 (.inr z)
    generalize (Txt.partition x ":").1 = nm at h sx i1
    generalize (Txt.partition x ":").2.2 = fu at h sx h0 i2
    split at h
    · next hf =>
      cases h
      refine ⟨(nm, []), rfl, ?_, trivial⟩
      apply tl_inj
      rw [sx, hf, show shH (nm, []) = nm ++ ":" from rfl, tl_app, tl_col]
      rfl
    · next hf =>
      obtain ⟨ds, h1, rfl⟩ := Option.map_eq_some_iff.mp h
      have hh : (tlS fu).head? = some 32 := Decidable.byContradiction fun z => h0 ⟨hf, z⟩
      obtain ⟨z, hz⟩ : ∃ z, tlS fu = 32 :: z := by
        cases e : tlS fu with
        | nil => rw [e] at hh; cases hh
        | cons a r => rw [e] at hh; cases hh; exact ⟨r, rfl⟩
      have ec : cutS fu (some 1) none = stx z := by
        rw [show (some (1 : Int)) = some ((1 : Nat) : Int) from rfl, cutS_drop, hz]
        rfl
      rw [ec] at h1
      obtain ⟨sl, si⟩ := split_facts (x := stx z) com_two (by decide) (by decide)
      have zi : tlS (stx z) <:+: tlS x := by
        rw [tl_stx]
        exact (show z <:+: tlS fu from by rw [hz]; exact (List.suffix_cons 32 z).isInfix).trans i2
      obtain ⟨ss, e1, e2, so⟩ := steps_sound (ns := ns) (k := 0) h1 hw fun y hy => by
        have := infix_len ((si y hy).trans zi)
        omega
      have ej := split_inv (x := stx z) com_two (by decide) (by decide)
      rw [e2] at ej
      have ne : ss ≠ [] := fun q => by
        subst q
        have := congrArg List.length e2
        have e3 := split_spl (x := stx z) (c := 44) (d := 32) (by decide) (by decide)
        rw [← com_two, e2] at e3
        obtain ⟨p, ps, e4⟩ := spl2_ne 44 32 (stx z).cps.toList
        rw [e4] at e3
        cases e3
      refine ⟨(nm, ss), by rw [e1]; rfl, ?_, so⟩
      apply tl_inj
      rw [sx, hz, show shH (nm, ss) = nm ++ ": " ++ Txt.join ", " (ss.map shS) from if_neg ne, ej, tl_app, tl_app, tl_colb, tl_stx]
      simp
theorem wrongIn_all {ns : List Str} : ∀ {ds : List PyData}, wrongIn ns ds = none → ∀ d ∈ ds, wrongAt ns 0 (rowSteps d) = none
  | [], _, d, h => by cases h
  | e :: ds, h, d, hd => by
    have h : (match wrongAt ns 0 (rowSteps e) with
      | some k => some (rowName e, k)
      | none => wrongIn ns ds) = none := h
    cases hw : wrongAt ns 0 (rowSteps e) with
    | some k => rw [hw] at h; cases h
    | none =>
      rw [hw] at h
      rcases List.mem_cons.mp hd with rfl | hd
      · exact hw
      · exact wrongIn_all h d hd
theorem rows_sound {ns : List Str} {x : Str} {ds : List PyData} (h : rdRows x = some ds) (hw : ∀ d ∈ ds, wrongAt ns 0 (rowSteps d) = none) (hl : x.length ≤ 4300) : ∃ p : Prg, ds = p.map rowD ∧ x = shP p ∧ ∀ r ∈ p, stepsOk ns r.2 := by
  unfold rdRows at h
  split at h
  · next h0 =>
    cases h
    exact ⟨[], rfl, by rw [h0]; decide +kernel, fun r hr => by cases hr⟩
  · obtain ⟨sl, si⟩ := split_facts (x := x) sem_two (by decide) (by decide)
    obtain ⟨p, e1, e2, so⟩ := mapO_typed (γ := Str × List Stp) (dt := rowD) (sh := shH) (P := fun r => stepsOk ns r.2) h fun y hy d hd hf => by
      have := infix_len (si y hy)
      exact rdH_sound hf (hw d hd) (by omega)
    have ej := split_inv (x := x) sem_two (by decide) (by decide)
    rw [e2] at ej
    exact ⟨p, e1, ej.symm, so⟩
/-- WHAT IS READ IS A PROGRAM, WRITTEN SO -/
theorem rdP_sound {x : Str} {ds : List PyData} (h : Fg.rdP x = some ds) (hl : x.length ≤ 4300) : ∃ p : Prg, ds = p.map rowD ∧ x = shP p ∧ PrgW p := by
  unfold Fg.rdP at h
  obtain ⟨ds', h1, h2⟩ := Option.bind_eq_some_iff.mp h
  split at h2
  · next hf =>
    cases h2
    unfold firstWrong at hf
    split at hf
    · next hform =>
      have hw : wrongIn (ds.map rowName) ds = none := by
        cases e : wrongIn (ds.map rowName) ds with
        | none => rfl
        | some o =>
          have hf : (wrongIn (ds.map rowName) ds).map some = none := hf
          rw [e] at hf
          cases hf
      obtain ⟨p, rfl, ex, so⟩ := rows_sound (ns := ds.map rowName) h1 (wrongIn_all hw) hl
      have hform : ((p.map rowD).all rowOk && rising ((p.map rowD).map rowName)) = true := hform
      rw [rowName_map] at hform so
      rw [Bool.and_eq_true] at hform
      exact ⟨p, rfl, ex, ⟨fun r hr => List.all_eq_true.mp hform.1 (rowD r) (List.mem_map.mpr ⟨r, hr, rfl⟩), hform.2, so⟩⟩
    · cases hf
  · cases h2
end Fg
namespace Fg
open PySem PySem.Spec PyProof.Rows L2
section
section
variable {X : Cx} {pins : List (Addr × Obj)} {σ : L2.St} {H : Hp} {s : Shared}
def oNeE : R2 := fun x y H Q => ∃ (p q : Addr) (xs : List V), x = .ref p ∧ y = .ref q ∧ H p = some (.lst xs) ∧ H q = some (.lst []) ∧ Q (.bl (!xs.isEmpty)) H
theorem p_neE (hu : X.A.units + 64 < cLine) : OpR X (compareOp .NotEq) oNeE := by
  intro pins s σ H x y v u Q I rx ry h
  obtain ⟨p, q, xs, rfl, rfl, h1, h2, hq⟩ := h
  cases (show v = Value.ref p from rx)
  cases (show u = Value.ref q from ry)
  have hu0 : X.A.units < cLine := by omega
  obtain ⟨i1, r1, l1⟩ := lstAt I h1
  obtain ⟨i2, r2, l2⟩ := lstAt I h2
  cases r2
  cases r1 with
  | nil => exact (SeqAt.RcNeAt.lists (e := fun _ => true) l1 l2 rfl hu0 fun j h1 h2 => absurd h1 (by simp)) X.prog X.w X.xe _ ⟨.bl false, H, I, rfl, hq⟩
  | cons a b => exact (SeqAt.RcNeAt.lists_lengths l1 l2 (by simp) hu0) X.prog X.w X.xe _ ⟨.bl true, H, I, rfl, hq⟩
theorem w_neE {Q : VK} {p q : Addr} {xs : List V} (h1 : H p = some (.lst xs)) (h2 : H q = some (.lst [])) (k : Q (.bl (!xs.isEmpty)) H) : oNeE (.ref p) (.ref q) H Q := ⟨p, q, xs, rfl, rfl, h1, h2, k⟩
end
end
end Fg
namespace Fg
open PySem PySem.Spec PyProof.Rows L2
local macro_rules | `(tactic| walk_at "hp") => `(tactic| first
  | assumption
  | exact upd_same
  | (refine Chg.at (by assumption) ?_; walk_at "hp")
  | (refine Chg.at1 (by assumption) ?_ (by walk_at "ne"); walk_at "hp"))
local macro_rules | `(tactic| walk_at "ne") => `(tactic| first | assumption | (apply Ne.symm; assumption))
local macro_rules | `(tactic| walk_at "sq") => `(tactic| first | assumption | exact sqL (by walk_at "hp") | (refine Chg.seq (by assumption) ?_; walk_at "sq"))
local macro_rules | `(tactic| walk_at "sz") => `(tactic| first | assumption | exact Nat.zero_le _ | (simp only [List.length_cons, List.length_nil]; decide) | exact Nat.le_trans (by first | omega | (simp; done) | (simp; omega)) (show 100000 ≤ sizeLine by decide) | exact Nat.lt_of_lt_of_le (by first | omega | (simp; done) | (simp; omega)) (show 100000 ≤ sizeLine by decide))
local macro_rules | `(tactic| walk_at "ix") => `(tactic| first | exact at0 | exact at1 | exact at2 | exact at3 | assumption | exact rfl | walk_at "ix2")
local macro_rules | `(tactic| walk_at "ix2") => `(tactic| fail)
local macro_rules | `(tactic| walk_at "num") => `(tactic| first | assumption | omega | decide | walk_at "num2")
local macro_rules | `(tactic| walk_at "num2") => `(tactic| fail)
local macro_rules | `(tactic| walk_at "im") => `(tactic| first | assumption | exact R.non (S := fun _ => False) | exact R.bl (S := fun _ => False) _ | exact R.int (S := fun _ => False) _ | exact R.str (S := fun _ => False) _ | (refine R.im (by assumption) ?_; walk_at "im"))
local macro_rules | `(tactic| walk_at "r") => `(tactic| first | assumption | exact R.non (S := fun _ => False) | exact R.bl (S := fun _ => False) _ | exact R.int (S := fun _ => False) _ | exact R.str (S := fun _ => False) _ | (refine R.same (by assumption) ?_; walk_at "r") | exact R.any (by walk_at "im"))
local macro_rules | `(tactic| walk_at "chg") => `(tactic| first
  | exact Chg.refl
  | assumption
  | (refine Chg.same ?_ (by assumption); walk_at "chg")
  | (refine Chg.both ?_ (by assumption); walk_at "chg")
  | (refine Chg.pre (by assumption) ?_; walk_at "chg"))
local macro_rules | `(tactic| walk_at "w1") => `(tactic| first
  | with_reducible apply w_seq
  | with_reducible apply w_asg
  | ((with_reducible apply w_var); (focus (exact rfl)))
  | with_reducible apply w_c
  | with_reducible apply w_op
  | with_reducible apply w_cons
  | with_reducible apply w_nil
  | with_reducible apply w_gName
  | with_reducible apply w_if
  | with_reducible apply w_test
  | with_reducible apply w_B
  | with_reducible apply w_isbl
  | with_reducible apply w_retN
  | with_reducible apply w_next
  | with_reducible apply w_drop
  | with_reducible apply w_cb
  | with_reducible apply w_call
  | with_reducible apply w_callN
  | with_reducible apply w_bm
  | with_reducible apply w_bm0
  | ((with_reducible apply w_tyL); (focus (walk_at "hp"; done)))
  | with_reducible apply w_dput
  | with_reducible apply w_m1
  | with_reducible apply w_isstr
  | with_reducible apply w_and
  | with_reducible apply w_or
  | with_reducible apply w_not
  | with_reducible apply w_andV
  | with_reducible apply w_orV
  | with_reducible apply w_notV
  | with_reducible apply w_ifE
  | with_reducible apply w_chain
  | with_reducible apply w_un
  | with_reducible apply w_neg
  | with_reducible apply w_add
  | with_reducible apply w_sub
  | ((with_reducible apply w_mod); (focus (walk_at "num"; done)))
  | ((with_reducible apply w_mul); (focus (walk_at "num"; done)))
  | ((with_reducible apply w_fdiv); (focus (walk_at "num"; done)))
  | ((with_reducible apply w_pow); (focus (walk_at "num"; done)))
  | with_reducible apply w_lt
  | with_reducible apply w_le
  | with_reducible apply w_gt
  | with_reducible apply w_ge
  | with_reducible apply w_ltS
  | with_reducible apply w_geS
  | with_reducible apply w_inC
  | with_reducible apply w_notInC
  | with_reducible apply w_isN
  | with_reducible apply w_notN
  | with_reducible apply w_isB
  | with_reducible apply w_notB
  | ((with_reducible apply w_addS); (focus (walk_at "sz"; done)))
  | ((with_reducible apply w_ixL); (focus (walk_at "sq"; done)); (focus (walk_at "ix"; done)))
  | ((with_reducible apply w_ixT); (focus (walk_at "hp"; done)); (focus (walk_at "ix"; done)))
  | ((with_reducible apply w_ixS); (focus (walk_at "sz"; done)); (focus (walk_at "ix"; done)))
  | with_reducible apply w_gSub
  | ((with_reducible apply w_gTup); (focus (walk_at "hp"; done)); (focus (exact rfl)))
  | with_reducible apply w_gCons
  | with_reducible apply w_gNil
  | ((with_reducible apply w_aug); (focus (exact rfl)))
  | with_reducible apply w_ipI
  | ((with_reducible apply w_eq); (focus (exact rfl)))
  | ((with_reducible apply w_ne); (focus (exact rfl)))
  | with_reducible apply w_max
  | with_reducible apply w_min
  | with_reducible apply w_abs
  | with_reducible apply w_intB
  | with_reducible apply w_intI
  | with_reducible apply w_tup1
  | with_reducible apply w_lst1
  | with_reducible apply w_sl
  | with_reducible apply w_part
  | with_reducible apply w_noPart
  | with_reducible apply w_isint
  | ((with_reducible apply w_slS); (focus (walk_at "sz"; done)))
  | with_reducible apply w_iteT
  | with_reducible apply w_iteF
  | with_reducible apply w_iteN
  | ((with_reducible apply w_iteYes); (focus (exact rfl)))
  | ((with_reducible apply w_iteNo); (focus (exact rfl)))
  | ((with_reducible apply w_lenL); (focus (walk_at "sq"; done)))
  | ((with_reducible apply w_lenT); (focus (walk_at "hp"; done)))
  | ((with_reducible apply w_lenS); (focus (walk_at "sz"; done)))
  | with_reducible apply w_lc
  | with_reducible apply w_for
  | with_reducible apply w_yes
  | ((with_reducible apply w_wipe); (focus (exact rfl)))
  | with_reducible apply w_iList
  | with_reducible apply w_iTup
  | with_reducible apply w_iStr
  | with_reducible apply w_iRng1
  | with_reducible apply w_iRng2
  | with_reducible apply w_iZip
  | with_reducible apply w_iEnum
  | ((with_reducible apply d_iList); (focus (walk_at "sq"; done)))
  | ((with_reducible apply d_iTup); (focus (walk_at "hp"; done)))
  | with_reducible apply d_iStr
  | ((with_reducible apply d_iRng1); (focus (walk_at "num"; done)); (focus (walk_at "num"; done)))
  | ((with_reducible apply d_iRng2); (focus (walk_at "num"; done)); (focus (walk_at "num"; done)); (focus (walk_at "num"; done)); (focus (walk_at "num"; done)))
  | ((with_reducible apply d_iZip); (focus (walk_at "sq"; done)); (focus (walk_at "sq"; done)))
  | ((with_reducible apply d_iEnum); (focus (walk_at "sq"; done)))
  | walk_at "w2")
local macro_rules | `(tactic| walk_at "w2") => `(tactic| fail)
local macro_rules | `(tactic| walk_at "wn") => `(tactic| repeat walk_at "w1")
local macro_rules | `(tactic| walk_at "w") => `(tactic| repeat (first | walk_at "w1" | with_reducible apply w_ret))
local macro_rules | `(tactic| walk_at "w2") => `(tactic| first
  | ((with_reducible apply w_isInt); (focus (walk_at "r"; done)))
  | ((with_reducible apply w_isBool); (focus (walk_at "r"; done)))
  | ((with_reducible apply w_isStr); (focus (walk_at "r"; done)))
  | ((with_reducible apply w_isTup); (focus (walk_at "r"; done)))
  | ((with_reducible apply w_isLst); (focus (walk_at "r"; done)))
  | ((with_reducible apply w_notInP); (focus (assumption)))
  | ((with_reducible apply w_ixP); (focus (assumption)); (focus (assumption))))
section
abbrev Itm := Sum Str Ex
def itD : Itm → PyData := Sum.elim .str Ex.data
def itS : Itm → Str := Sum.elim id shE
def stIt : Stp → List Itm
  | .cell a b => [.inl "cell", .inr a, .inr b]
  | .give x a => [.inl "give", .inl x, .inr a]
  | .fork x a => [.inl "fork", .inl x, .inr a]
  | .call x a => [.inl "call", .inl x, .inr a]
  | .wait => [.inl "wait"]
  | .skip a k => [.inl "skip", .inr a, .inr (.num k)]
theorem st_data (s : Stp) : s.data = .tuple ((stIt s).map itD) := by cases s <;> rfl
theorem join_three (a b c : Str) : Txt.join " " [a, b, c] = a ++ " " ++ b ++ " " ++ c := by
  rw [TL.join_eq]
  show a ++ " " ++ (b ++ " " ++ c) = _
  apply tl_inj
  rw [tl_app, tl_app, tl_app, tl_app, tl_app, tl_app, tl_app, tl_app]
  simp
theorem st_show (s : Stp) : shS s = Txt.join " " ((stIt s).map itS) := by
  cases s with
  | wait => exact (join_one "wait").symm
  | cell a b => exact (join_three _ _ _).symm
  | give x a => exact (join_three _ _ _).symm
  | fork x a => exact (join_three _ _ _).symm
  | call x a => exact (join_three _ _ _).symm
  | skip a k => exact (join_three _ _ _).symm
theorem st_len (s : Stp) : 1 ≤ (stIt s).length ∧ (stIt s).length ≤ 3 := by cases s <;> exact ⟨by simp [stIt], by simp [stIt]⟩
theorem st_ok {s : Stp} (h : s.rd shB) : ∀ e, Sum.inr e ∈ stIt s → e.deep ≤ 5 ∧ e.numsIn shB := by
  intro e he
  cases s with
  | wait => simp [stIt] at he
  | cell a b =>
    simp only [stIt, List.mem_cons, Sum.inr.injEq, reduceCtorEq, List.not_mem_nil, or_false, false_or] at he; rcases he with rfl | rfl
    · exact ⟨h.1, h.2.2.1⟩
    · exact ⟨h.2.1, h.2.2.2⟩
  | give x a => simp only [stIt, List.mem_cons, Sum.inr.injEq, reduceCtorEq, List.not_mem_nil, or_false, false_or] at he; subst he; exact h.2
  | fork x a => simp only [stIt, List.mem_cons, Sum.inr.injEq, reduceCtorEq, List.not_mem_nil, or_false, false_or] at he; subst he; exact h.2
  | call x a => simp only [stIt, List.mem_cons, Sum.inr.injEq, reduceCtorEq, List.not_mem_nil, or_false, false_or] at he; subst he; exact h.2
  | skip a k =>
    simp only [stIt, List.mem_cons, Sum.inr.injEq, reduceCtorEq, List.not_mem_nil, or_false, false_or] at he; rcases he with rfl | rfl
    · exact ⟨h.1, h.2.1⟩
    · exact ⟨by show 1 ≤ 5; decide, h.2.2⟩
theorem dStr_ex (e : Ex) : dStr e.data = false := by cases e <;> rfl
def sp_show_step (K : PySem.W.Frag) : Sp := fun vs H Q _ => ∃ (v : V) (s : Stp), vs = [v] ∧ Im H v s.data ∧ s.rd shB ∧ (shS s).length ≤ 1000000 ∧ ∀ H', Chg [] H H' → Q (.str (shS s)) H'
def t_show_step (K : PySem.W.Frag) : TS :=
    tRet (tM1 (mJoin K) (tC (.str " ")) (tLc (iTup K (tVar 0)) (gName 1) (tYes) (tIf (tB (tCB (rIsi K) (tCons (tVar 1) (tCons (tC (.ty "str")) (tNil))))) (tVar 1) (tCall (sp_show_expression K 6) [] E0 (tCons (tVar 1) (tNil)))) [1]))
theorem pure_show_step {K : PySem.W.Frag} (vs : List V) (H : Hp) (Q : VK) (E : XK) (h : sp_show_step K vs H Q E) : t_show_step K (fin Q) (start ["step", "one"] vs) H := by
  obtain ⟨v, s, rfl, im, hs, hl, q⟩ := h
  show t_show_step K _ [some v, none] H
  unfold t_show_step
  have l3 := st_len s
  have jl := join_len (y := " ") (ps := (stIt s).map itS) (fun z => by have := congrArg List.length z; rw [List.length_map] at this; simp only [List.length_nil] at this; omega)
  rw [List.length_map, len_bk, ← st_show] at jl
  rw [st_data] at im
  cases im with
  | @tup a xs ds e0 ra =>
    have ln := ra.length
    rw [List.length_map] at ln
    walk_at "w"
    refine w_lcP walk_tup [] (fun _ _ => True) (fun i y _ => ∃ t, ((stIt s).map itS)[i]? = some t ∧ y = .str t) trivial (fun _ _ _ _ _ _ _ => trivial) (fun H1 c => sqT (c.at e0)) (fun D i acc z H1 H3 hi nD hD el iv c _ y => ?_) (fun D acc H1 nD c _ el hD ys => ?_)
    · obtain ⟨rfl, ey⟩ := y
      obtain ⟨d1, ed1, r1⟩ := ra.get (i := i) (v := z) ey
      rw [List.getElem?_map] at ed1
      have hi' : i < (stIt s).length := by have h6 : i < xs.length := hi; omega
      rw [List.getElem?_eq_getElem hi'] at ed1
      cases ed1
      have hm := List.getElem_mem hi'
      have a3 : (itS (stIt s)[i]).length ≤ (((stIt s).map itS).map (·.length)).sum := sum_mem (List.mem_map.mpr ⟨_, List.mem_map.mpr ⟨_, hm, rfl⟩, rfl⟩)
      have ei : ((stIt s).map itS)[i]? = some (itS (stIt s)[i]) := by rw [List.getElem?_map, List.getElem?_eq_getElem hi']; rfl
      generalize (stIt s)[i] = it at r1 hm a3 ei
      cases it with
      | inl x =>
        have r2 : Im H z (.str x) := r1
        cases r2
        walk_at "w"
        exact lcp_end (fun _ _ _ _ _ _ _ => trivial) (fun _ _ _ _ _ _ _ h => h) nD (by simp) hD el (by omega) iv .refl trivial ⟨_, ei, rfl⟩
      | inr e =>
        have r2 : Im H z e.data := r1
        have rr := (r2.im c).any (S := fun _ => True)
        have es := dStr_ex e
        walk_at "w"
        refine w_iteNo es ?_
        walk_at "w"
        obtain ⟨b1, b2⟩ := st_ok hs e hm
        have a4 : (shE e).length ≤ (((stIt s).map itS).map (·.length)).sum := a3
        exact ⟨z, e, rfl, r2.im c, by omega, b2, by omega, fun H4 c4 => lcp_end (fun _ _ _ _ _ _ _ => trivial) (fun _ _ _ _ _ _ _ h => h) nD (by simp) hD el (by omega) iv c4 trivial ⟨_, ei, rfl⟩⟩
    · have e3 : acc = ((stIt s).map itS).map V.str := all_str el (by rw [List.length_map]; exact ln.symm) ys
      subst e3
      walk_at "w"
      refine w_join (sqL hD) (by rw [List.length_map, len_bk]; omega) ?_
      walk_at "w"
      rw [← st_show]
      exact q H1 c
structure ShOk (p : Prg) : Prop where
  few : p.length ≤ 1000
  short : ∀ r ∈ p, r.2.length ≤ 1000
  rd : ∀ r ∈ p, ∀ s ∈ r.2, s.rd shB
  len : (shP p).length ≤ 1000000
theorem len_cm : (", " : Str).length = 2 := by decide +kernel
theorem len_sm : ("; " : Str).length = 2 := by decide +kernel
theorem len_cl : (":" : Str).length = 1 := by decide +kernel
theorem len_clb : (": " : Str).length = 2 := by decide +kernel
theorem shH_len (n : Str) (ss : List Stp) : (shH (n, ss)).length = n.length + 1 + ((ss.map shS).map (·.length)).sum + ss.length * 2 - (if ss = [] then 0 else 1) := by
  unfold shH
  split
  · next h =>
    have h : ss = [] := h
    subst h
    rw [len_app, len_cl]
    rfl
  · next h =>
    have h : ss ≠ [] := h
    have := join_len (y := ", ") (ps := ss.map shS) (by simpa using h)
    rw [List.length_map, len_cm] at this
    rw [len_app, len_app, len_clb]
    show n.length + 2 + (Txt.join ", " (ss.map shS)).length = _
    omega
theorem shP_row {p : Prg} {r : Str × List Stp} (h : r ∈ p) : (shH r).length ≤ (shP p).length := by
  have ne : p.map shH ≠ [] := fun z => by rw [List.map_eq_nil_iff] at z; rw [z] at h; cases h
  have jl := join_len (y := "; ") ne
  rw [List.length_map, len_sm] at jl
  have := sum_mem (l := (p.map shH).map (·.length)) (List.mem_map.mpr ⟨_, List.mem_map.mpr ⟨r, h, rfl⟩, rfl⟩)
  have hp : 1 ≤ p.length := by cases p with
    | nil => cases h
    | cons a b => simp
  have e : (shP p).length = (Txt.join "; " (p.map shH)).length := rfl
  omega
theorem shH_step {r : Str × List Stp} {s : Stp} (h : s ∈ r.2) : (shS s).length ≤ (shH r).length := by
  obtain ⟨n, ss⟩ := r
  rw [shH_len]
  have := sum_mem (l := (ss.map shS).map (·.length)) (List.mem_map.mpr ⟨_, List.mem_map.mpr ⟨s, h, rfl⟩, rfl⟩)
  split <;> omega
def sp_show_program (K : PySem.W.Frag) : Sp := fun vs H Q _ => ∃ (v : V) (p : Prg) (S : Addr → Prop), vs = [v] ∧ R S H v (prgD p) ∧ ShOk p ∧ ∀ H', Chg [] H H' → Q (.str (shP p)) H'
def t_show_program (K : PySem.W.Frag) : TS :=
    tSeq (tAsg (tLst (tNil)) (gName 1))
    (tSeq (tFor (iList K (tVar 0)) (gTup K 2 (gCons (gName 2) (gCons (gName 3) (gNil)))) (tSeq (tDrop (tBM K "list" rAppend (tVar 1) (tCons (tOp oAddS (tVar 2) (tC (.str ":"))) (tNil))))
    (tIfS (tTest (tOp oNeE (tVar 3) (tLst (tNil)))) (tAsg (tOp oAddS (tOp oAddS (tVar 2) (tC (.str ": "))) (tM1 (mJoin K) (tC (.str ", ")) (tLc (iList K (tVar 3)) (gName 4) (tYes) (tCall (sp_show_step K) [] E0 (tCons (tVar 4) (tNil))) [4]))) (gSub (tVar 1) (tUn (rU fun i => .int (-i)) (tC (.int 1))) rSetL)) (tNext))))
    (tRet (tM1 (mJoin K) (tC (.str "; ")) (tVar 1))))
theorem pure_show_program {K : PySem.W.Frag} (vs : List V) (H : Hp) (Q : VK) (E : XK) (h : sp_show_program K vs H Q E) : t_show_program K (fin Q) (start ["program", "rows", "name", "steps", "step"] vs) H := by
  obtain ⟨v, p, S, rfl, r, ok, q⟩ := h
  show t_show_program K _ [some v, none, none, none, none] H
  unfold t_show_program
  have fw := ok.few
  cases r with
  | @lst a xs _ sa e ra =>
    have ln : xs.length = p.length := by rw [ra.length, List.length_map]
    walk_at "w"
    refine k_lst (by walk_at "sz") fun F H0 nF c0 hF => ?_
    walk_at "w"
    have neaF : a ≠ F := fun z => by rw [z, nF] at e; cases e
    have e' := c0.at e
    refine for_it (walk_list (K := K) (a := a) (xs := xs)) (fun i σ H1 => Chg [] H H1 ∧ H1 F = some (.lst (((p.take i).map shH).map V.str)) ∧ ∃ (y2 y3 y4 : Option V), σ = [some (.ref a), some (.ref F), y2, y3, y4])
      ⟨c0, hF, none, none, none, rfl⟩ (fun i σ H1 _ z => sqL (z.1.at e)) (fun i x σ H1 H2 hi z y => ?_) (fun σ H1 z => ?_)
    · obtain ⟨c1, hF1, y2, y3, y4, rfl⟩ := z
      obtain ⟨rfl, ex⟩ := y
      obtain ⟨d1, ed, r1⟩ := ra.get ex
      rw [List.getElem?_map] at ed
      have hi' : i < p.length := by omega
      rw [List.getElem?_eq_getElem hi'] at ed
      cases ed
      have hm := List.getElem_mem hi'
      have tk : (p.take (i + 1)).map shH = (p.take i).map shH ++ [shH p[i]] := by
        rw [List.take_add_one, List.getElem?_eq_getElem hi', Option.toList_some, List.map_append]
        rfl
      have rl := shP_row hm
      have pl := ok.len
      have hst := ok.rd _ hm
      have hsh := ok.short _ hm
      have hsl : ∀ s ∈ p[i].2, (shS s).length ≤ (shH p[i]).length := fun s hs => shH_step hs
      rw [tk]
      generalize p[i] = row at r1 rl hst hsh hsl
      obtain ⟨n, ss⟩ := row
      have hl := shH_len n ss
      have hsh : ss.length ≤ 1000 := hsh
      cases r1 with
      | tup e2 ra2 =>
        cases ra2 with
        | cons r0 rs0 =>
          cases rs0 with
          | cons r3 rs3 =>
            cases rs3
            cases r0
            cases r3 with
            | @lst l4 ys4 _ s4 e4 ra4 =>
              have e2' := c1.at e2
              have e4' := c1.at e4
              have im4 : ImA H ys4 (ss.map Stp.data) := ra4.pure (steps_noL _)
              have ln4 : ys4.length = ss.length := by rw [ra4.length, List.length_map]
              have nl : n.length ≤ 1000000 := by split at hl <;> omega
              have ne4F : l4 ≠ F := fun z => by rw [z, nF] at e4; cases e4
              walk_at "w"
              refine w_addS (by rw [len_cl]; exact Nat.le_trans (show n.length + 1 ≤ 1000001 by omega) (by decide)) ?_
              walk_at "w"
              refine w_append hF1 (by rw [List.length_map, List.length_map, List.length_take]; exact Nat.lt_of_le_of_lt (show min i p.length ≤ 1000 by omega) (by decide)) fun H3 c3 hF3 => ?_
              have c13 : Chg [] H H3 := c1.one c3 nF
              walk_at "w"
              refine k_lst (by walk_at "sz") fun G H4 nG c4 hG => ?_
              have neFG : F ≠ G := fun z => by rw [z, nG] at hF3; cases hF3
              refine w_neE (c4.at (c3.at1 e4' ne4F)) hG ?_
              refine ⟨_, rfl, ?_⟩
              by_cases h0 : ss = []
              · subst h0
                have h4 : ys4 = [] := List.length_eq_zero_iff.mp ln4
                subst h4
                walk_at "w"
                refine ⟨c13.same c4, ?_, _, _, _, rfl⟩
                rw [List.map_append]
                exact c4.at hF3
              · have h4 : ys4 ≠ [] := fun z => h0 (List.length_eq_zero_iff.mp (by rw [← ln4, z]; rfl))
                have hb : (!ys4.isEmpty) = true := by cases ys4 with
                  | nil => exact absurd rfl h4
                  | cons _ _ => rfl
                have jl := join_len (y := ", ") (ps := ss.map shS) (by simpa using h0)
                rw [List.length_map, len_cm] at jl
                rw [if_neg h0] at hl
                refine w_iteYes hb ?_
                walk_at "w"
                refine w_addS (by rw [len_clb]; exact Nat.le_trans (show n.length + 2 ≤ 1000002 by omega) (by decide)) ?_
                walk_at "w"
                have e4'' := c4.at (c3.at1 e4' ne4F)
                refine w_lcP (walk_list (K := K) (a := l4) (xs := ys4)) [] (fun _ _ => True) (fun i y _ => ∃ t, (ss.map shS)[i]? = some t ∧ y = .str t) trivial (fun _ _ _ _ _ _ _ => trivial) (fun H1 c => sqL (c.at e4'')) (fun D j acc z H5 H6 hj nD hD el iv c _ y => ?_) (fun D acc H5 nD c _ el hD ys => ?_)
                · obtain ⟨rfl, ey⟩ := y
                  obtain ⟨d1, ed1, r1⟩ := im4.get (i := j) (v := z) ey
                  rw [List.getElem?_map] at ed1
                  have hj' : j < ss.length := by have h6 : j < ys4.length := hj; omega
                  rw [List.getElem?_eq_getElem hj'] at ed1
                  cases ed1
                  have hm := List.getElem_mem hj'
                  walk_at "w"
                  exact ⟨z, ss[j], rfl, r1.im ((c13.same c4).pre c), hst _ hm, Nat.le_trans (hsl _ hm) (by omega), fun H7 c7 => lcp_end (fun _ _ _ _ _ _ _ => trivial) (fun _ _ _ _ _ _ _ h => h) nD (by simp) hD el (by omega) iv c7 trivial ⟨_, by rw [List.getElem?_map, List.getElem?_eq_getElem hj']; rfl, rfl⟩⟩
                · have e3 : acc = (ss.map shS).map V.str := all_str el (by rw [List.length_map]; exact ln4.symm) ys
                  subst e3
                  walk_at "w"
                  refine w_join (sqL hD) (by rw [List.length_map, len_cm]; omega) ?_
                  walk_at "w"
                  refine w_addS (by rw [len_app, len_clb]; exact Nat.le_trans (show n.length + 2 + (Txt.join ", " (ss.map shS)).length ≤ 2000000 by omega) (by decide)) ?_
                  walk_at "w"
                  have hF5 := c.at (c4.at hF3)
                  refine w_setL hF5 (k := i) (by
                    unfold ixN
                    simp
                    omega) fun H6 c6 hF6 => ?_
                  refine ⟨((c13.same c4).same c).one c6 nF, ?_, _, _, _, rfl⟩
                  rw [hF6, List.map_append]
                  have li : (((p.take i).map shH).map V.str).length = i := by rw [List.length_map, List.length_map, List.length_take]; omega
                  rw [List.set_append_right _ _ (by omega), li, Nat.sub_self]
                  show some (HO.lst (_ ++ [V.str (n ++ ": " ++ Txt.join ", " (ss.map shS))])) = some (HO.lst (_ ++ [V.str (shH (n, ss))]))
                  rw [show shH (n, ss) = n ++ ": " ++ Txt.join ", " (ss.map shS) from if_neg h0]
    · obtain ⟨c1, hF1, y2, y3, y4, rfl⟩ := z
      rw [ln, List.take_length] at hF1
      walk_at "w"
      have pl := ok.len
      refine w_join (sqL hF1) ?_ ?_
      · by_cases h0 : p = []
        · subst h0; decide
        · have jl := join_len (y := "; ") (ps := p.map shH) (by simpa using h0)
          have e9 : (shP p).length = (Txt.join "; " (p.map shH)).length := rfl
          rw [List.length_map, len_sm] at jl ⊢
          omega
      walk_at "w"
      exact q H1 c1
end
end Fg
namespace Fg
open PySem PySem.Spec PyProof.Rows L2 PySem.NumText
theorem numL_big (n : Nat) : n < 10 ^ (TL.numL n).length := by
  induction n using Nat.strongRecOn with
  | ind n ih =>
    by_cases hn : n < 10
    · rw [TL.numL_lt hn]; exact hn
    · rw [TL.numL_step (by omega), List.length_append]
      have := ih (n / 10) (by omega)
      show n < 10 ^ ((TL.numL (n / 10)).length + 1)
      rw [Nat.pow_succ]
      omega
theorem shB_nat : ((10 ^ 3100 : Nat) : Int) = shB := by unfold shB; norm_cast
theorem num_bnd {i : Int} {l : Tx} (f : FigL l) (h : tlS (Str.ofString (toString i)) <:+: l) : -shB ≤ i ∧ i ≤ shB := by
  have key : ∀ n, TL.numL n <:+: l → (n : Int) ≤ shB := fun n hn => by
    have h1 := f _ hn fun d hd => numL_fig hd
    have h1 : (TL.numL n).length + 1 ≤ 3100 := h1
    have h2 := numL_big n
    have h3 : 10 ^ (TL.numL n).length ≤ 10 ^ 3100 := Nat.pow_le_pow_right (by decide) (by omega)
    rw [← shB_nat]
    generalize (10 : Nat) ^ 3100 = M at h3 ⊢
    omega
  have h0 : (0 : Int) ≤ shB := by rw [← shB_nat]; exact Int.natCast_nonneg _
  rcases sh_int i with ⟨n, rfl, e⟩ | ⟨n, rfl, e⟩
  · rw [e] at h
    have := key n h
    omega
  · rw [e] at h
    have := key (n + 1) ((List.suffix_cons 45 _).isInfix.trans h)
    omega
theorem inf_br {w p : Str} : tlS p <:+: tlS (w ++ "[" ++ p ++ "]") := by
  rw [tl_br]
  exact ⟨tlS w ++ [91], [93], by simp⟩
theorem inf_two {a b : Str} : tlS a <:+: tlS (a ++ " " ++ b) ∧ tlS b <:+: tlS (a ++ " " ++ b) := by
  rw [tl_app, tl_app]
  exact ⟨⟨[], tlS " " ++ tlS b, by simp⟩, ⟨tlS a ++ tlS " ", [], by simp⟩⟩
theorem ex_bnd {l : Tx} (f : FigL l) : ∀ {e : Ex}, tlS (shE e) <:+: l → e.numsIn shB
  | .num i, h => num_bnd f h
  | .arg, _ => trivial
  | .cell a, h => ex_bnd f (e := a) (inf_br.trans h)
  | .add a b, h => ⟨ex_bnd f (e := a) (inf_two.1.trans (inf_br.trans h)), ex_bnd f (e := b) (inf_two.2.trans (inf_br.trans h))⟩
  | .less a b, h => ⟨ex_bnd f (e := a) (inf_two.1.trans (inf_br.trans h)), ex_bnd f (e := b) (inf_two.2.trans (inf_br.trans h))⟩
  | .least a b, h => ⟨ex_bnd f (e := a) (inf_two.1.trans (inf_br.trans h)), ex_bnd f (e := b) (inf_two.2.trans (inf_br.trans h))⟩
theorem inf_three {w a b : Str} : tlS a <:+: tlS (w ++ " " ++ a ++ " " ++ b) ∧ tlS b <:+: tlS (w ++ " " ++ a ++ " " ++ b) :=
  ⟨inf_two.2.trans inf_two.1, inf_two.2⟩
theorem st_bnd {l : Tx} (f : FigL l) {ns : List Str} {bh : Int} {s : Stp} (ok : s.ok ns bh) (h : tlS (shS s) <:+: l) : s.rd shB := by
  cases s with
  | cell a b => exact ⟨ok.1, ok.2, ex_bnd f (inf_three.1.trans h), ex_bnd f (inf_three.2.trans h)⟩
  | give x a => exact ⟨ok.1, ok.2, ex_bnd f (inf_three.2.trans h)⟩
  | fork x a => exact ⟨ok.1, ok.2.2, ex_bnd f (inf_three.2.trans h)⟩
  | call x a => exact ⟨ok.1, ok.2.2, ex_bnd f (inf_three.2.trans h)⟩
  | wait => exact trivial
  | skip a k =>
    have := num_bnd f (inf_three.2.trans h)
    exact ⟨ok.1, ex_bnd f (inf_three.1.trans h), this.1, this.2⟩
theorem inf_join {y : Str} : ∀ {ps : List Str} {p : Str}, p ∈ ps → tlS p <:+: tlS (Txt.join y ps)
  | [], p, h => by cases h
  | q :: r, p, h => by
    rw [TL.join_eq]
    cases r with
    | nil =>
      cases List.mem_singleton.mp h
      exact List.infix_refl _
    | cons q2 r =>
      show tlS p <:+: tlS (q ++ y ++ Str.join y (q2 :: r))
      rw [tl_app, tl_app]
      rcases List.mem_cons.mp h with rfl | h
      · exact ⟨[], tlS y ++ tlS (Str.join y (q2 :: r)), by simp⟩
      · have ih := inf_join (y := y) h
        rw [TL.join_eq] at ih
        exact ih.trans ⟨tlS q ++ tlS y, [], by simp⟩
theorem inf_row {p : Prg} {r : Str × List Stp} (h : r ∈ p) : tlS (shH r) <:+: tlS (shP p) := inf_join (List.mem_map.mpr ⟨r, h, rfl⟩)
theorem inf_step {r : Str × List Stp} {s : Stp} (h : s ∈ r.2) : tlS (shS s) <:+: tlS (shH r) := by
  unfold shH
  rw [if_neg (fun z => by rw [z] at h; cases h), tl_app]
  exact (inf_join (y := ", ") (List.mem_map.mpr ⟨s, h, rfl⟩)).trans ⟨tlS (r.1 ++ ": "), [], by simp⟩
theorem join_few {y : Str} {ps : List Str} {k : Nat} (hk : ∀ p ∈ ps, k ≤ p.length) : ps.length * (k + y.length) ≤ (Txt.join y ps).length + y.length := by
  by_cases h : ps = []
  · subst h; simp
  · rw [join_len h, Nat.mul_add]
    have : ∀ l : List Str, (∀ p ∈ l, k ≤ p.length) → l.length * k ≤ (l.map (·.length)).sum := fun l => by
      induction l with
      | nil => intro _; simp
      | cons a r ih =>
        intro hl
        rw [List.length_cons, Nat.succ_mul, List.map_cons, List.sum_cons]
        have := hl a (by simp)
        have := ih fun p hp => hl p (List.mem_cons_of_mem _ hp)
        omega
    have := this ps hk
    omega
/-- a program that is read may be shown -/
theorem shOk_of {p : Prg} (w : PrgW p) (f : FigL (tlS (shP p))) (hl : (shP p).length ≤ 3000) : ShOk p where
  few := by
    have := join_few (y := "; ") (ps := p.map shH) (k := 1) fun q hq => by
      obtain ⟨r, _, rfl⟩ := List.mem_map.mp hq
      have := List.length_pos_of_mem (shH_ne r)
      rw [tl_len]
      omega
    rw [List.length_map, len_sm] at this
    have e : (shP p).length = (Txt.join "; " (p.map shH)).length := rfl
    omega
  short := fun r hr => by
    obtain ⟨n, ss⟩ := r
    have h1 := shP_row hr
    rw [shH_len] at h1
    have h2 : (ss.map shS).length * 1 ≤ ((ss.map shS).map (·.length)).sum := by
      have : ∀ l : List Stp, l.length ≤ ((l.map shS).map (·.length)).sum := fun l => by
        induction l with
        | nil => simp
        | cons a r ih =>
          rw [List.map_cons, List.map_cons, List.sum_cons, List.length_cons]
          have : 1 ≤ (shS a).length := by
            cases a with
            | wait => show 1 ≤ ("wait" : Str).length; decide +kernel
            | cell a b => show 1 ≤ ("cell" ++ " " ++ shE a ++ " " ++ shE b : Str).length; rw [len_app, len_app, len_app, len_app, len_bk]; omega
            | give a b => show 1 ≤ ("give" ++ " " ++ a ++ " " ++ shE b : Str).length; rw [len_app, len_app, len_app, len_app, len_bk]; omega
            | fork a b => show 1 ≤ ("fork" ++ " " ++ a ++ " " ++ shE b : Str).length; rw [len_app, len_app, len_app, len_app, len_bk]; omega
            | call a b => show 1 ≤ ("call" ++ " " ++ a ++ " " ++ shE b : Str).length; rw [len_app, len_app, len_app, len_app, len_bk]; omega
            | skip a k => show 1 ≤ ("skip" ++ " " ++ shE a ++ " " ++ Str.ofString (toString k) : Str).length; rw [len_app, len_app, len_app, len_app, len_bk]; omega
          omega
      rw [Nat.mul_one, List.length_map]
      exact this ss
    rw [List.length_map, Nat.mul_one] at h2
    show ss.length ≤ 1000
    split at h1 <;> omega
  rd := fun r hr s hs => by
    obtain ⟨bh, hb⟩ := stepsOk_mem (w.steps r hr) s hs
    exact st_bnd f hb ((inf_step hs).trans (inf_row hr))
  len := by omega
theorem mapO_mem {α β : Type} {f : α → Option β} : ∀ {l : List α} {bs : List β}, mapO f l = some bs → ∀ b ∈ bs, ∃ a ∈ l, f a = some b
  | [], bs, h, b, hb => by cases h; cases hb
  | a :: l, bs, h, b, hb => by
    have h : (f a).bind (fun b => (mapO f l).bind fun bs => some (b :: bs)) = some bs := h
    obtain ⟨c, h1, h2⟩ := Option.bind_eq_some_iff.mp h
    obtain ⟨bs2, h3, h4⟩ := Option.bind_eq_some_iff.mp h2
    cases h4
    rcases List.mem_cons.mp hb with rfl | hb
    · exact ⟨a, by simp, h1⟩
    · obtain ⟨a', m, e⟩ := mapO_mem h3 b hb
      exact ⟨a', List.mem_cons_of_mem _ m, e⟩
theorem rdE_small : ∀ {n : Nat} {x : Str} {d : PyData}, rdE n x = some d → x.length ≤ 3000 → smallD d = true
  | 0, x, d, h, _ => by cases h
  | n + 1, x, d, h, hl => by
    rw [rdE] at h
    split at h
    · cases h; decide +kernel
    · split at h
      · obtain ⟨i, _, rfl⟩ := Option.map_eq_some_iff.mp h
        rfl
      · split at h
        · cases h
        · have iw := part_word x
          have ii : tlS (cutS x (some ((Txt.partition x "[").1.length + 1)) (some (-1))) <:+: tlS x := cut_in x ((Txt.partition x "[").1.length + 1)
          generalize (Txt.partition x "[").1 = w at h iw ii
          generalize cutS x (some ((w.length : Int) + 1)) (some (-1)) = inn at h ii
          obtain ⟨ps, h4, h5⟩ := Option.bind_eq_some_iff.mp h
          obtain ⟨ds, h6, rfl⟩ := Option.map_eq_some_iff.mp h5
          have lw := infix_len iw
          show (smallD (.str w) && smallDs ds) = true
          rw [show smallD (.str w) = true from decide_eq_true (by omega), smallDs_of fun d hd => by
            obtain ⟨y, hy, hf⟩ := mapO_mem h6 d hd
            have := infix_len (((ptdS_facts h4).2.2 y hy).trans ii)
            exact rdE_small hf (by omega)]
          rfl
theorem rdS_small {x : Str} {d : PyData} (h : rdS x = some d) (hl : x.length ≤ 3000) : smallD d = true := by
  obtain ⟨ps, h1, h2⟩ := Option.bind_eq_some_iff.mp h
  have pin := (ptdS_facts h1).2.2
  have pl : ∀ q ∈ ps, q.length ≤ 3000 := fun q hq => by have := infix_len (pin q hq); omega
  match ps, h2 with
  | [], h2 => cases h2
  | [w], h2 =>
    have h2 : (if w = "wait" then some (PyData.tuple [.str "wait"]) else none) = some d := h2
    split at h2
    · cases h2; decide +kernel
    · cases h2
  | [_, _], h2 => cases h2
  | _ :: _ :: _ :: _ :: _, h2 => cases h2
  | [w, a, b], h2 =>
    have h2 : rdS3 w a b = some d := h2
    have lw := pl w (by simp)
    have la := pl a (by simp)
    have lb := pl b (by simp)
    have three : ∀ (x : Str) (d1 d2 : PyData), x.length ≤ 3000 → smallD d1 = true → smallD d2 = true → smallD (.tuple [.str x, d1, d2]) = true := fun x d1 d2 h1 h2 h3 => by
      show (smallD (.str x) && (smallD d1 && (smallD d2 && true))) = true
      rw [h2, h3, show smallD (.str x) = true from decide_eq_true (by omega)]
      rfl
    unfold rdS3 at h2
    split at h2
    · obtain ⟨da, h3, h4⟩ := Option.bind_eq_some_iff.mp h2
      obtain ⟨db, h5, rfl⟩ := Option.map_eq_some_iff.mp h4
      exact three _ _ _ (by decide +kernel) (rdE_small h3 la) (rdE_small h5 lb)
    · split at h2
      · obtain ⟨da, h3, h4⟩ := Option.bind_eq_some_iff.mp h2
        obtain ⟨k, h5, rfl⟩ := Option.map_eq_some_iff.mp h4
        exact three _ _ _ (by decide +kernel) (rdE_small h3 la) rfl
      · obtain ⟨db, h5, rfl⟩ := Option.map_eq_some_iff.mp h2
        exact three _ _ _ lw (decide_eq_true (by omega)) (rdE_small h5 lb)
theorem rdH_small {x : Str} {d : PyData} (h : rdH x = some d) (hl : x.length ≤ 3000) : smallD d = true ∧ 1 ≤ x.length := by
  unfold rdH at h
  obtain ⟨i1, i2⟩ := part_three x
  split at h
  · cases h
  · next h0 =>
    have hb : (Txt.partition x ":").2.1 ≠ "" := fun z => h0 (.inl z)
    have sx := part_shape hb
    have l1 : 1 ≤ x.length := by
      rw [tl_len, sx]
      simp
      omega
    have ln := infix_len i1
    generalize (Txt.partition x ":").1 = nm at h ln
    generalize (Txt.partition x ":").2.2 = fu at h i2
    have sn : smallD (.str nm) = true := decide_eq_true (by omega)
    split at h
    · cases h
      refine ⟨?_, l1⟩
      show (smallD (.str nm) && true) = true
      rw [sn]
      rfl
    · obtain ⟨ds, h1, rfl⟩ := Option.map_eq_some_iff.mp h
      refine ⟨?_, l1⟩
      obtain ⟨sl, si⟩ := split_facts (x := cutS fu (some 1) none) com_two (by decide) (by decide)
      have zi : tlS (cutS fu (some 1) none) <:+: tlS x := by
        rw [show (some (1 : Int)) = some ((1 : Nat) : Int) from rfl, cutS_drop, tl_stx]
        exact (drop_infix 1).trans i2
      show (smallD (.str nm) && (smallDs ds && true)) = true
      rw [sn, smallDs_of fun d hd => by
        obtain ⟨y, hy, hf⟩ := mapO_mem h1 d hd
        have := infix_len ((si y hy).trans zi)
        exact rdS_small hf (by omega)]
      rfl
theorem rowsSm_of {x : Str} (hl : x.length ≤ 3000) : RowsSm x := fun ds h => by
  unfold rdRows at h
  split at h
  · cases h; exact ⟨rfl, by decide⟩
  · obtain ⟨sl, si⟩ := split_facts (x := x) sem_two (by decide) (by decide)
    have ej := split_inv (x := x) sem_two (by decide) (by decide)
    have lm := mapO_len h
    have ok : ∀ y ∈ Txt.split x "; ", ∃ d, rdH y = some d := by
      generalize Txt.split x "; " = l at h
      clear ej lm sl si
      induction l generalizing ds with
      | nil => intro y hy; cases hy
      | cons a l ih =>
        intro y hy
        have h : (rdH a).bind (fun b => (mapO rdH l).bind fun bs => some (b :: bs)) = some ds := h
        obtain ⟨c, h1, h2⟩ := Option.bind_eq_some_iff.mp h
        obtain ⟨bs2, h3, h4⟩ := Option.bind_eq_some_iff.mp h2
        rcases List.mem_cons.mp hy with rfl | hy
        · exact ⟨c, h1⟩
        · exact ih bs2 h3 y hy
    refine ⟨smallDs_of fun d hd => ?_, ?_⟩
    · obtain ⟨y, hy, hf⟩ := mapO_mem h d hd
      have := infix_len (si y hy)
      exact (rdH_small hf (by omega)).1
    · have := join_few (y := "; ") (ps := Txt.split x "; ") (k := 1) fun y hy => by
        obtain ⟨d, hd⟩ := ok y hy
        have := infix_len (si y hy)
        exact (rdH_small hd (by omega)).2
      rw [ej, len_sm] at this
      omega
end Fg
namespace Fg
open PySem PySem.Spec PyProof.Rows L2 PySem.NumText
/-- a number ahead -/
def lrN (l : Tx) : Option (Int × Tx) :=
  if l.head? = some 45 then
    (if (l.tail.takeWhile isFig) = [] ∨ (l.tail.head? = some 48) then none
     else some (-((digitsVal (l.tail.takeWhile isFig) : Nat) : Int), l.tail.dropWhile isFig))
  else
    (if (l.takeWhile isFig) = [] ∨ (l.head? = some 48 ∧ 1 < (l.takeWhile isFig).length) then none
     else some (((digitsVal (l.takeWhile isFig) : Nat) : Int), l.dropWhile isFig))
/-- an expression ahead, with so many within one another -/
def lrE : Nat → Tx → Option (Ex × Tx)
  | 0, _ => none
  | n + 1, l =>
    if l.take 3 = [97, 114, 103] then some (.arg, l.drop 3)
    else if l.take 5 = [99, 101, 108, 108, 91] then
      (lrE n (l.drop 5)).bind fun a => if a.2.head? = some 93 then some (.cell a.1, a.2.tail) else none
    else if l.take 4 = [97, 100, 100, 91] then
      (lrE n (l.drop 4)).bind fun a => if a.2.head? = some 32 then (lrE n a.2.tail).bind fun b => if b.2.head? = some 93 then some (.add a.1 b.1, b.2.tail) else none else none
    else if l.take 5 = [108, 101, 115, 115, 91] then
      (lrE n (l.drop 5)).bind fun a => if a.2.head? = some 32 then (lrE n a.2.tail).bind fun b => if b.2.head? = some 93 then some (.less a.1 b.1, b.2.tail) else none else none
    else if l.take 6 = [108, 101, 97, 115, 116, 91] then
      (lrE n (l.drop 6)).bind fun a => if a.2.head? = some 32 then (lrE n a.2.tail).bind fun b => if b.2.head? = some 93 then some (.least a.1 b.1, b.2.tail) else none else none
    else (lrN l).map fun r => (.num r.1, r.2)
theorem takeW_app {p : Nat → Bool} {a r : Tx} (ha : ∀ c ∈ a, p c = true) (hr : ∀ c, r.head? = some c → p c = false) : (a ++ r).takeWhile p = a ∧ (a ++ r).dropWhile p = r := by
  have h1 : r.takeWhile p = [] := by
    cases r with
    | nil => rfl
    | cons c r => rw [List.takeWhile_cons_of_neg (by rw [hr c rfl]; decide)]
  have h2 : r.dropWhile p = r := by
    cases r with
    | nil => rfl
    | cons c r => rw [List.dropWhile_cons_of_neg (by rw [hr c rfl]; decide)]
  exact ⟨by rw [List.takeWhile_append_of_pos ha, h1, List.append_nil], by rw [List.dropWhile_append_of_pos ha, h2]⟩
/-- what is left does not begin with a figure -/
def noFig (r : Tx) : Prop := ∀ c, r.head? = some c → isFig c = false
theorem digits_fig {l : Tx} (h : ∀ c ∈ l, isFig c = true) : AllDigits l := fun c hc => by
  have := h c hc
  unfold isFig at this
  rw [Bool.and_eq_true, decide_eq_true_eq, decide_eq_true_eq] at this
  exact this
/-- a shown number is read -/
theorem lrN_sh (i : Int) {r : Tx} (hr : noFig r) : lrN (tlS (Str.ofString (toString i)) ++ r) = some (i, r) := by
  rcases sh_int i with ⟨n, rfl, e⟩ | ⟨n, rfl, e⟩
  · rw [e]
    have ne := TL.numL_ne n
    have fig : ∀ c ∈ TL.numL n, isFig c = true := fun c hc => numL_fig hc
    obtain ⟨t1, t2⟩ := takeW_app (r := r) fig hr
    unfold lrN
    rw [t1, t2]
    have hd : (TL.numL n ++ r).head? = (TL.numL n).head? := by
      cases h : TL.numL n with
      | nil => exact absurd h ne
      | cons a b => rfl
    rw [hd, if_neg (fun z => by
      cases h : TL.numL n with
      | nil => exact ne h
      | cons a b =>
        rw [h] at z
        have := fig 45 (by rw [h, ← Option.some.inj z]; simp)
        cases this), if_neg (fun z => z.elim ne fun z => by
      rcases Nat.eq_zero_or_pos n with h0 | h0
      · subst h0
        have := z.2
        rw [show (TL.numL 0).length = 1 by decide +kernel] at this
        omega
      · exact numL_head h0 z.1), TL.numL_val]
  · rw [e]
    have ne := TL.numL_ne (n + 1)
    have fig : ∀ c ∈ TL.numL (n + 1), isFig c = true := fun c hc => numL_fig hc
    obtain ⟨t1, t2⟩ := takeW_app (r := r) fig hr
    unfold lrN
    rw [if_pos (by rfl)]
    show (if ((TL.numL (n + 1) ++ r).takeWhile isFig) = [] ∨ ((TL.numL (n + 1) ++ r).head? = some 48) then none else some (-((digitsVal ((TL.numL (n + 1) ++ r).takeWhile isFig) : Nat) : Int), (TL.numL (n + 1) ++ r).dropWhile isFig)) = _
    rw [t1, t2]
    have hd : (TL.numL (n + 1) ++ r).head? = (TL.numL (n + 1)).head? := by
      cases h : TL.numL (n + 1) with
      | nil => exact absurd h ne
      | cons a b => rfl
    rw [hd, if_neg (fun z => z.elim ne fun z => numL_head (by omega) z), TL.numL_val]
theorem tw_dw (l : Tx) : l.takeWhile isFig ++ l.dropWhile isFig = l := List.takeWhile_append_dropWhile
theorem tw_fig (l : Tx) : ∀ c ∈ l.takeWhile isFig, isFig c = true := fun c hc => by
  induction l with
  | nil => cases hc
  | cons a l ih =>
    by_cases h : isFig a = true
    · rw [List.takeWhile_cons_of_pos h] at hc
      rcases List.mem_cons.mp hc with rfl | hc
      · exact h
      · exact ih hc
    · rw [List.takeWhile_cons_of_neg h] at hc
      cases hc
/-- a number that is read was shown -/
theorem lrN_sound {l r : Tx} {i : Int} (h : lrN l = some (i, r)) : l = tlS (Str.ofString (toString i)) ++ r := by
  unfold lrN at h
  split at h
  · next h45 =>
    split at h
    · cases h
    · next h0 =>
      cases h
      have n1 : l.tail.takeWhile isFig ≠ [] := fun z => h0 (.inl z)
      have n2 : l.tail.head? ≠ some 48 := fun z => h0 (.inr z)
      have ad := digits_fig (tw_fig l.tail)
      have el : l = 45 :: l.tail := by
        cases l with
        | nil => cases h45
        | cons a l => rw [show a = 45 from Option.some.inj h45]; rfl
      have et := tw_dw l.tail
      cases hw : l.tail.takeWhile isFig with
      | nil => exact absurd hw n1
      | cons a q =>
        rw [hw] at ad et
        have a48 : a ≠ 48 := fun z => n2 (by rw [← et, z]; rfl)
        have a49 : 49 ≤ a := by have := (ad a (by simp)).1; omega
        have pos := digitsVal_pos (cs := q) a49
        obtain ⟨n, hn⟩ : ∃ n, digitsVal (a :: q) = n + 1 := ⟨digitsVal (a :: q) - 1, by omega⟩
        rw [hn, sh_neg, ← hn, numL_back ad (by simp) (.inr ⟨a, q, rfl, a49⟩)]
        show l = 45 :: (a :: q) ++ l.tail.dropWhile isFig
        rw [List.cons_append, et]
        exact el
  · split at h
    · cases h
    · next h0 =>
      cases h
      have n1 : l.takeWhile isFig ≠ [] := fun z => h0 (.inl z)
      have ad := digits_fig (tw_fig l)
      have et := tw_dw l
      rw [sh_nat, numL_back ad n1 ?_, et]
      cases hw : l.takeWhile isFig with
      | nil => exact absurd hw n1
      | cons a q =>
        rw [hw] at ad et
        by_cases h1 : q = []
        · exact .inl (by rw [h1]; rfl)
        · refine .inr ⟨a, q, rfl, ?_⟩
          have a48 : a ≠ 48 := fun z => h0 (.inr ⟨by rw [← et, z]; rfl, by
            rw [hw]
            cases q with
            | nil => exact absurd rfl h1
            | cons b q => simp⟩)
          have := (ad a (by simp)).1
          omega
end Fg
namespace Fg
open PySem PySem.Spec PyProof.Rows L2 PySem.NumText
theorem noFig_cons {c : Nat} {r : Tx} (h : isFig c = false) : noFig (c :: r) := fun d hd => by rw [← Option.some.inj hd]; exact h
theorem num_head (i : Int) (r : Tx) : ∃ c q, tlS (Str.ofString (toString i)) ++ r = c :: q ∧ c < 60 := by
  cases e : tlS (Str.ofString (toString i)) with
  | nil =>
    rcases sh_int i with ⟨n, _, e2⟩ | ⟨n, _, e2⟩
    · rw [e] at e2; exact absurd e2.symm (TL.numL_ne n)
    · rw [e] at e2; cases e2
  | cons c q =>
    refine ⟨c, q ++ r, rfl, ?_⟩
    have := fig_range (sg_num (i := i) (c := c) (by rw [e]; simp))
    omega
theorem lrE_num {n : Nat} {l : Tx} {c : Nat} {q : Tx} (e : l = c :: q) (h : c < 60) : lrE (n + 1) l = (lrN l).map fun r => (Ex.num r.1, r.2) := by
  have take : ∀ (k : Nat) (a : Nat) (w : Tx), 60 ≤ a → l.take (k + 1) ≠ a :: w := fun k a w ha z => by
    rw [e, List.take_succ_cons] at z
    injection z with z1 z2
    omega
  rw [lrE, if_neg (take 2 _ _ (by decide)), if_neg (take 4 _ _ (by decide)), if_neg (take 3 _ _ (by decide)), if_neg (take 4 _ _ (by decide)), if_neg (take 5 _ _ (by decide))]
theorem lrE_sh : ∀ {e : Ex} {n : Nat} {r : Tx}, e.deep ≤ n → noFig r → lrE n (tlS (shE e) ++ r) = some (e, r)
  | e, 0, r, h, _ => by have := e.deep_pos; omega
  | .num i, n + 1, r, _, hr => by
    obtain ⟨c, q, e, hc⟩ := num_head i r
    show lrE (n + 1) (tlS (Str.ofString (toString i)) ++ r) = _
    rw [lrE_num e hc, lrN_sh i hr]
    rfl
  | .arg, n + 1, r, _, _ => by
    show lrE (n + 1) (tlS "arg" ++ r) = _
    rw [tl_arg, lrE]
    exact if_pos rfl
  | .cell a, n + 1, r, h, hr => by
    have ih := lrE_sh (e := a) (n := n) (r := 93 :: r) (by simp only [Ex.deep] at h; omega) (noFig_cons (by decide))
    show lrE (n + 1) (tlS ("cell" ++ "[" ++ shE a ++ "]") ++ r) = _
    rw [tl_br, tl_cell, lrE]
    simp only [List.cons_append, List.nil_append, List.append_assoc]
    rw [if_neg (by simp), if_pos (by rfl)]
    show (lrE n (tlS (shE a) ++ 93 :: r)).bind _ = _
    rw [ih]
    rfl
  | .add a b, n + 1, r, h, hr => by
    have ih := lrE_sh (e := a) (n := n) (r := 32 :: (tlS (shE b) ++ 93 :: r)) (by simp only [Ex.deep] at h; omega) (noFig_cons (by decide))
    have ih2 := lrE_sh (e := b) (n := n) (r := 93 :: r) (by simp only [Ex.deep] at h; omega) (noFig_cons (by decide))
    show lrE (n + 1) (tlS ("add" ++ "[" ++ (shE a ++ " " ++ shE b) ++ "]") ++ r) = _
    rw [tl_br, tl_add, tl_app, tl_app, tl_blk, lrE]
    simp only [List.cons_append, List.nil_append, List.append_assoc]
    rw [if_neg (by simp), if_neg (by simp), if_pos (by rfl)]
    show (lrE n (tlS (shE a) ++ 32 :: (tlS (shE b) ++ 93 :: r))).bind _ = _
    rw [ih]
    show (lrE n (tlS (shE b) ++ 93 :: r)).bind _ = _
    rw [ih2]
    rfl
  | .less a b, n + 1, r, h, hr => by
    have ih := lrE_sh (e := a) (n := n) (r := 32 :: (tlS (shE b) ++ 93 :: r)) (by simp only [Ex.deep] at h; omega) (noFig_cons (by decide))
    have ih2 := lrE_sh (e := b) (n := n) (r := 93 :: r) (by simp only [Ex.deep] at h; omega) (noFig_cons (by decide))
    show lrE (n + 1) (tlS ("less" ++ "[" ++ (shE a ++ " " ++ shE b) ++ "]") ++ r) = _
    rw [tl_br, tl_less, tl_app, tl_app, tl_blk, lrE]
    simp only [List.cons_append, List.nil_append, List.append_assoc]
    rw [if_neg (by simp), if_neg (by simp), if_neg (by simp), if_pos (by rfl)]
    show (lrE n (tlS (shE a) ++ 32 :: (tlS (shE b) ++ 93 :: r))).bind _ = _
    rw [ih]
    show (lrE n (tlS (shE b) ++ 93 :: r)).bind _ = _
    rw [ih2]
    rfl
  | .least a b, n + 1, r, h, hr => by
    have ih := lrE_sh (e := a) (n := n) (r := 32 :: (tlS (shE b) ++ 93 :: r)) (by simp only [Ex.deep] at h; omega) (noFig_cons (by decide))
    have ih2 := lrE_sh (e := b) (n := n) (r := 93 :: r) (by simp only [Ex.deep] at h; omega) (noFig_cons (by decide))
    show lrE (n + 1) (tlS ("least" ++ "[" ++ (shE a ++ " " ++ shE b) ++ "]") ++ r) = _
    rw [tl_br, tl_least, tl_app, tl_app, tl_blk, lrE]
    simp only [List.cons_append, List.nil_append, List.append_assoc]
    rw [if_neg (by simp), if_neg (by simp), if_neg (by simp), if_neg (by simp), if_pos (by rfl)]
    show (lrE n (tlS (shE a) ++ 32 :: (tlS (shE b) ++ 93 :: r))).bind _ = _
    rw [ih]
    show (lrE n (tlS (shE b) ++ 93 :: r)).bind _ = _
    rw [ih2]
    rfl
theorem take_pre {w l : Tx} (h : l.take w.length = w) : l = w ++ l.drop w.length := by
  conv => lhs; rw [← List.take_append_drop w.length l, h]
theorem head_cons {c : Nat} {l : Tx} (h : l.head? = some c) : l = c :: l.tail := by
  cases l with
  | nil => cases h
  | cons a l => rw [← Option.some.inj h]; rfl
theorem two_sound {n : Nat} {w : Tx} {l r : Tx} {e : Ex} {k : Ex → Ex → Ex} (IH : ∀ {l r : Tx} {e : Ex}, lrE n l = some (e, r) → l = tlS (shE e) ++ r ∧ e.deep ≤ n) (hw : l.take w.length = w)
    (h : ((lrE n (l.drop w.length)).bind fun a => if a.2.head? = some 32 then (lrE n a.2.tail).bind fun b => if b.2.head? = some 93 then some (k a.1 b.1, b.2.tail) else none else none) = some (e, r)) :
    ∃ a b, e = k a b ∧ l = w ++ (tlS (shE a) ++ 32 :: (tlS (shE b) ++ 93 :: r)) ∧ a.deep ≤ n ∧ b.deep ≤ n := by
  obtain ⟨⟨a, ra⟩, h1, h2⟩ := Option.bind_eq_some_iff.mp h
  obtain ⟨ea, da⟩ := IH h1
  have h2 : (if ra.head? = some 32 then (lrE n ra.tail).bind fun b => if b.2.head? = some 93 then some (k a b.1, b.2.tail) else none else none) = some (e, r) := h2
  split at h2
  · next h32 =>
    obtain ⟨⟨b, rb⟩, h3, h4⟩ := Option.bind_eq_some_iff.mp h2
    obtain ⟨eb, db⟩ := IH h3
    have h4 : (if rb.head? = some 93 then some (k a b, rb.tail) else none) = some (e, r) := h4
    split at h4
    · next h93 =>
      cases h4
      refine ⟨a, b, rfl, ?_, da, db⟩
      rw [← head_cons h93, ← eb, ← head_cons h32, ← ea]
      exact take_pre hw
    · cases h4
  · cases h2
theorem lrE_sound : ∀ {n : Nat} {l r : Tx} {e : Ex}, lrE n l = some (e, r) → l = tlS (shE e) ++ r ∧ e.deep ≤ n
  | 0, l, r, e, h => by cases h
  | n + 1, l, r, e, h => by
    rw [lrE] at h
    split at h
    · next hw =>
      cases h
      refine ⟨?_, by show 1 ≤ n + 1; omega⟩
      show l = tlS "arg" ++ l.drop 3
      rw [tl_arg]
      exact take_pre (w := [97, 114, 103]) hw
    · split at h
      · next hw =>
        obtain ⟨⟨a, ra⟩, h1, h2⟩ := Option.bind_eq_some_iff.mp h
        obtain ⟨ea, da⟩ := lrE_sound h1
        have h2 : (if ra.head? = some 93 then some (Ex.cell a, ra.tail) else none) = some (e, r) := h2
        split at h2
        · next h93 =>
          cases h2
          refine ⟨?_, by show a.deep + 1 ≤ n + 1; omega⟩
          show l = tlS ("cell" ++ "[" ++ shE a ++ "]") ++ ra.tail
          rw [tl_br, tl_cell]
          have e2 := take_pre (w := [99, 101, 108, 108, 91]) hw
          have e3 : l.drop [99, 101, 108, 108, 91].length = tlS (shE a) ++ 93 :: ra.tail := by rw [← head_cons h93]; exact ea
          rw [e3] at e2
          rw [e2]
          simp
        · cases h2
      · split at h
        · next hw =>
          obtain ⟨a, b, rfl, el, da, db⟩ := two_sound (k := Ex.add) (w := [97, 100, 100, 91]) (fun h => lrE_sound h) hw h
          refine ⟨?_, by show max a.deep b.deep + 1 ≤ n + 1; omega⟩
          show l = tlS ("add" ++ "[" ++ (shE a ++ " " ++ shE b) ++ "]") ++ r
          rw [el, tl_br, tl_add, tl_app, tl_app, tl_blk]
          simp
        · split at h
          · next hw =>
            obtain ⟨a, b, rfl, el, da, db⟩ := two_sound (k := Ex.less) (w := [108, 101, 115, 115, 91]) (fun h => lrE_sound h) hw h
            refine ⟨?_, by show max a.deep b.deep + 1 ≤ n + 1; omega⟩
            show l = tlS ("less" ++ "[" ++ (shE a ++ " " ++ shE b) ++ "]") ++ r
            rw [el, tl_br, tl_less, tl_app, tl_app, tl_blk]
            simp
          · split at h
            · next hw =>
              obtain ⟨a, b, rfl, el, da, db⟩ := two_sound (k := Ex.least) (w := [108, 101, 97, 115, 116, 91]) (fun h => lrE_sound h) hw h
              refine ⟨?_, by show max a.deep b.deep + 1 ≤ n + 1; omega⟩
              show l = tlS ("least" ++ "[" ++ (shE a ++ " " ++ shE b) ++ "]") ++ r
              rw [el, tl_br, tl_least, tl_app, tl_app, tl_blk]
              simp
            · obtain ⟨⟨i, rr⟩, h1, h2⟩ := Option.map_eq_some_iff.mp h
              cases h2
              exact ⟨lrN_sound h1, by show 1 ≤ n + 1; omega⟩
end Fg
namespace Fg
open PySem PySem.Spec PyProof.Rows L2 PySem.NumText
abbrev cellL : Tx := [99, 101, 108, 108]
abbrev giveL : Tx := [103, 105, 118, 101]
abbrev forkL : Tx := [102, 111, 114, 107]
abbrev callL : Tx := [99, 97, 108, 108]
abbrev skipL : Tx := [115, 107, 105, 112]
abbrev waitL : Tx := [119, 97, 105, 116]
def lrNm (k : Str → Ex → Stp) (l : Tx) : Option (Stp × Tx) :=
  if (l.dropWhile isLow).head? = some 32 then (lrE 5 (l.dropWhile isLow).tail).map fun b => (k (stx (l.takeWhile isLow)) b.1, b.2) else none
def lrS (l : Tx) : Option (Stp × Tx) :=
  if l.takeWhile isLow = waitL then some (.wait, l.dropWhile isLow)
  else if (l.dropWhile isLow).head? ≠ some 32 then none
  else if l.takeWhile isLow = cellL then (lrE 5 (l.dropWhile isLow).tail).bind fun a => if a.2.head? = some 32 then (lrE 5 a.2.tail).map fun b => (Stp.cell a.1 b.1, b.2) else none
  else if l.takeWhile isLow = skipL then (lrE 5 (l.dropWhile isLow).tail).bind fun a => if a.2.head? = some 32 then (lrN a.2.tail).map fun b => (Stp.skip a.1 b.1, b.2) else none
  else if l.takeWhile isLow = giveL then lrNm .give (l.dropWhile isLow).tail
  else if l.takeWhile isLow = forkL then lrNm .fork (l.dropWhile isLow).tail
  else if l.takeWhile isLow = callL then lrNm .call (l.dropWhile isLow).tail
  else none
def noLow (r : Tx) : Prop := ∀ c, r.head? = some c → isLow c = false
theorem noLow_cons {c : Nat} {r : Tx} (h : isLow c = false) : noLow (c :: r) := fun d hd => by rw [← Option.some.inj hd]; exact h
def lowS (x : Str) : Prop := ∀ c ∈ tlS x, isLow c = true
theorem low32 : isLow 32 = false := by decide +kernel
theorem low58 : isLow 58 = false := by decide +kernel
theorem low44 : isLow 44 = false := by decide +kernel
theorem low59 : isLow 59 = false := by decide +kernel
theorem lowW {w : Tx} (h : w = waitL ∨ w = cellL ∨ w = skipL ∨ w = giveL ∨ w = forkL ∨ w = callL) : ∀ c ∈ w, isLow c = true := by
  rcases h with rfl | rfl | rfl | rfl | rfl | rfl <;> decide +kernel
theorem two_tl (a b : Str) : tlS (a ++ " " ++ b) = tlS a ++ 32 :: tlS b := by
  rw [tl_app, tl_app, tl_blk]
  simp
theorem three_tl (w a b : Str) (r : Tx) : tlS (w ++ " " ++ a ++ " " ++ b) ++ r = tlS w ++ 32 :: (tlS a ++ 32 :: (tlS b ++ r)) := by
  rw [two_tl, two_tl]
  simp
/-- the names in a step -/
def Stp.nm : Stp → Prop
  | .cell a b => a.deep ≤ 5 ∧ b.deep ≤ 5
  | .give x a => lowS x ∧ a.deep ≤ 5
  | .fork x a => lowS x ∧ a.deep ≤ 5
  | .call x a => lowS x ∧ a.deep ≤ 5
  | .wait => True
  | .skip a _ => a.deep ≤ 5
theorem lrNm_sh {k : Str → Ex → Stp} {x : Str} {a : Ex} {r : Tx} (hx : lowS x) (ha : a.deep ≤ 5) (hr : noFig r) : lrNm k (tlS x ++ 32 :: (tlS (shE a) ++ r)) = some (k x a, r) := by
  obtain ⟨t1, t2⟩ := takeW_app (p := isLow) (a := tlS x) (r := 32 :: (tlS (shE a) ++ r)) hx (noLow_cons low32)
  unfold lrNm
  rw [t1, t2, if_pos (by rfl)]
  show (lrE 5 (tlS (shE a) ++ r)).map _ = _
  rw [lrE_sh ha hr, stx_of]
  rfl
theorem lrS_sh {s : Stp} {r : Tx} (hs : s.nm) (hf : noFig r) (hl : noLow r) : lrS (tlS (shS s) ++ r) = some (s, r) := by
  have w3 : ∀ {w : Tx} {q : Tx}, (w = cellL ∨ w = skipL ∨ w = giveL ∨ w = forkL ∨ w = callL) → (w ++ 32 :: q).takeWhile isLow = w ∧ (w ++ 32 :: q).dropWhile isLow = 32 :: q := fun h => takeW_app (lowW (.inr h)) (noLow_cons low32)
  cases s with
  | wait =>
    show lrS (tlS "wait" ++ r) = _
    rw [tl_wait]
    obtain ⟨t1, t2⟩ := takeW_app (p := isLow) (a := waitL) (r := r) (lowW (.inl rfl)) hl
    unfold lrS
    rw [t1, t2, if_pos rfl]
  | cell a b =>
    show lrS (tlS ("cell" ++ " " ++ shE a ++ " " ++ shE b) ++ r) = _
    rw [three_tl, tl_cell]
    obtain ⟨t1, t2⟩ := w3 (w := cellL) (q := tlS (shE a) ++ 32 :: (tlS (shE b) ++ r)) (.inl rfl)
    unfold lrS
    rw [t1, t2, if_neg (by decide), if_neg (fun z => z rfl), if_pos rfl]
    show (lrE 5 (tlS (shE a) ++ 32 :: (tlS (shE b) ++ r))).bind _ = _
    rw [lrE_sh hs.1 (noFig_cons (by decide))]
    show (lrE 5 (tlS (shE b) ++ r)).map _ = _
    rw [lrE_sh hs.2 hf]
    rfl
  | skip a k =>
    show lrS (tlS ("skip" ++ " " ++ shE a ++ " " ++ Str.ofString (toString k)) ++ r) = _
    rw [three_tl, tl_skip]
    obtain ⟨t1, t2⟩ := w3 (w := skipL) (q := tlS (shE a) ++ 32 :: (tlS (Str.ofString (toString k)) ++ r)) (.inr (.inl rfl))
    unfold lrS
    rw [t1, t2, if_neg (by decide), if_neg (fun z => z rfl), if_neg (by decide), if_pos rfl]
    show (lrE 5 (tlS (shE a) ++ 32 :: (tlS (Str.ofString (toString k)) ++ r))).bind _ = _
    rw [lrE_sh hs (noFig_cons (by decide))]
    show (lrN (tlS (Str.ofString (toString k)) ++ r)).map _ = _
    rw [lrN_sh k hf]
    rfl
  | give x a =>
    show lrS (tlS ("give" ++ " " ++ x ++ " " ++ shE a) ++ r) = _
    rw [three_tl, tl_give]
    obtain ⟨t1, t2⟩ := w3 (w := giveL) (q := tlS x ++ 32 :: (tlS (shE a) ++ r)) (.inr (.inr (.inl rfl)))
    unfold lrS
    rw [t1, t2, if_neg (by decide), if_neg (fun z => z rfl), if_neg (by decide), if_neg (by decide), if_pos rfl]
    exact lrNm_sh hs.1 hs.2 hf
  | fork x a =>
    show lrS (tlS ("fork" ++ " " ++ x ++ " " ++ shE a) ++ r) = _
    rw [three_tl, tl_fork]
    obtain ⟨t1, t2⟩ := w3 (w := forkL) (q := tlS x ++ 32 :: (tlS (shE a) ++ r)) (.inr (.inr (.inr (.inl rfl))))
    unfold lrS
    rw [t1, t2, if_neg (by decide), if_neg (fun z => z rfl), if_neg (by decide), if_neg (by decide), if_neg (by decide), if_pos rfl]
    exact lrNm_sh hs.1 hs.2 hf
  | call x a =>
    show lrS (tlS ("call" ++ " " ++ x ++ " " ++ shE a) ++ r) = _
    rw [three_tl, tl_call]
    obtain ⟨t1, t2⟩ := w3 (w := callL) (q := tlS x ++ 32 :: (tlS (shE a) ++ r)) (.inr (.inr (.inr (.inr rfl))))
    unfold lrS
    rw [t1, t2, if_neg (by decide), if_neg (fun z => z rfl), if_neg (by decide), if_neg (by decide), if_neg (by decide), if_neg (by decide), if_pos rfl]
    exact lrNm_sh hs.1 hs.2 hf
theorem tw_dwL (l : Tx) : l.takeWhile isLow ++ l.dropWhile isLow = l := List.takeWhile_append_dropWhile
theorem lrNm_sound {k : Str → Ex → Stp} {l r : Tx} {s : Stp} (h : lrNm k l = some (s, r)) : ∃ x a, s = k x a ∧ l = tlS x ++ 32 :: (tlS (shE a) ++ r) := by
  unfold lrNm at h
  split at h
  · next h32 =>
    obtain ⟨⟨a, ra⟩, h1, h2⟩ := Option.map_eq_some_iff.mp h
    cases h2
    obtain ⟨ea, _⟩ := lrE_sound h1
    refine ⟨stx (l.takeWhile isLow), a, rfl, ?_⟩
    rw [tl_stx, ← ea, ← head_cons h32, tw_dwL]
  · cases h
theorem lrS_sound {l r : Tx} {s : Stp} (h : lrS l = some (s, r)) : l = tlS (shS s) ++ r := by
  have el := tw_dwL l
  unfold lrS at h
  generalize l.takeWhile isLow = w at h el
  generalize l.dropWhile isLow = q at h el
  split at h
  · next hw =>
    cases h
    show l = tlS "wait" ++ r
    rw [tl_wait, ← el, hw]
  · split at h
    · cases h
    · next hq =>
      have hq : q.head? = some 32 := Decidable.byContradiction hq
      have eq := head_cons hq
      split at h
      · next hw =>
        obtain ⟨⟨a, ra⟩, h1, h2⟩ := Option.bind_eq_some_iff.mp h
        have h2 : (if ra.head? = some 32 then (lrE 5 ra.tail).map fun b => (Stp.cell a b.1, b.2) else none) = some (s, r) := h2
        split at h2
        · next h32 =>
          obtain ⟨⟨b, rb⟩, h3, h4⟩ := Option.map_eq_some_iff.mp h2
          cases h4
          show l = tlS ("cell" ++ " " ++ shE a ++ " " ++ shE b) ++ rb
          rw [three_tl, tl_cell, ← (lrE_sound h3).1, ← head_cons h32, ← (lrE_sound h1).1, ← eq]
          rw [← el, hw]
        · cases h2
      · split at h
        · next hw =>
          obtain ⟨⟨a, ra⟩, h1, h2⟩ := Option.bind_eq_some_iff.mp h
          have h2 : (if ra.head? = some 32 then (lrN ra.tail).map fun b => (Stp.skip a b.1, b.2) else none) = some (s, r) := h2
          split at h2
          · next h32 =>
            obtain ⟨⟨k, rb⟩, h3, h4⟩ := Option.map_eq_some_iff.mp h2
            cases h4
            show l = tlS ("skip" ++ " " ++ shE a ++ " " ++ Str.ofString (toString k)) ++ rb
            rw [three_tl, tl_skip, ← lrN_sound h3, ← head_cons h32, ← (lrE_sound h1).1, ← eq]
            rw [← el, hw]
          · cases h2
        · split at h
          · next hw =>
            obtain ⟨x, a, rfl, e⟩ := lrNm_sound h
            show l = tlS ("give" ++ " " ++ x ++ " " ++ shE a) ++ r
            rw [three_tl, tl_give, ← e, ← eq]
            rw [← el, hw]
          · split at h
            · next hw =>
              obtain ⟨x, a, rfl, e⟩ := lrNm_sound h
              show l = tlS ("fork" ++ " " ++ x ++ " " ++ shE a) ++ r
              rw [three_tl, tl_fork, ← e, ← eq]
              rw [← el, hw]
            · split at h
              · next hw =>
                obtain ⟨x, a, rfl, e⟩ := lrNm_sound h
                show l = tlS ("call" ++ " " ++ x ++ " " ++ shE a) ++ r
                rw [three_tl, tl_call, ← e, ← eq]
                rw [← el, hw]
              · cases h
/-- further steps of a helper -/
def lrSs : Nat → Bool → Tx → Option (List Stp × Tx)
  | 0, _, _ => none
  | f + 1, false, l => if l.head? = some 32 then (lrS l.tail).bind fun s => (lrSs f true s.2).map fun t => (s.1 :: t.1, t.2) else some ([], l)
  | f + 1, true, l => if l.head? = some 44 then (if l.take 2 = [44, 32] then (lrS (l.drop 2)).bind fun s => (lrSs f true s.2).map fun t => (s.1 :: t.1, t.2) else none) else some ([], l)
def lrH (l : Tx) : Option ((Str × List Stp) × Tx) :=
  if (l.dropWhile isLow).head? = some 58 then (lrSs (l.length + 1) false (l.dropWhile isLow).tail).map fun t => ((stx (l.takeWhile isLow), t.1), t.2) else none
def lrPs : Nat → Tx → Option Prg
  | 0, _ => none
  | f + 1, l => (lrH l).bind fun h => if h.2 = [] then some [h.1] else if h.2.take 2 = [59, 32] then (lrPs f (h.2.drop 2)).map (h.1 :: ·) else none
def lrP (l : Tx) : Option Prg := if l = [] then some [] else lrPs (l.length + 1) l
def moreT (ss : List Stp) : Tx := ss.flatMap fun s => 44 :: 32 :: tlS (shS s)
theorem join_more (s : Stp) (ss : List Stp) : tlS (Txt.join ", " ((s :: ss).map shS)) = tlS (shS s) ++ moreT ss := by
  rw [TL.join_eq]
  induction ss generalizing s with
  | nil => show tlS (shS s) = tlS (shS s) ++ []; rw [List.append_nil]
  | cons t r ih =>
    show tlS (shS s ++ ", " ++ Str.join ", " ((t :: r).map shS)) = _
    rw [tl_app, tl_app, ih, show tlS ", " = [44, 32] from com_tl]
    show tlS (shS s) ++ [44, 32] ++ (tlS (shS t) ++ moreT r) = tlS (shS s) ++ (44 :: 32 :: tlS (shS t) ++ moreT r)
    simp
def headT : List Stp → Tx
  | [] => []
  | s :: r => 32 :: (tlS (shS s) ++ moreT r)
theorem shH_tl (n : Str) (ss : List Stp) : tlS (shH (n, ss)) = tlS n ++ 58 :: headT ss := by
  cases ss with
  | nil =>
    show tlS (n ++ ":") = _
    rw [tl_app, tl_col]
    rfl
  | cons s r =>
    rw [show shH (n, s :: r) = n ++ ": " ++ Txt.join ", " ((s :: r).map shS) from if_neg (by simp), tl_app, tl_app, tl_colb, join_more]
    show _ = tlS n ++ 58 :: 32 :: (tlS (shS s) ++ moreT r)
    simp
/-- what may stand behind a helper -/
structure Beh (r : Tx) : Prop where
  f : noFig r
  l : noLow r
  c : r.head? ≠ some 44
  b : r.head? ≠ some 32
theorem more_beh {ss : List Stp} {r : Tx} (h : Beh r) : noFig (moreT ss ++ r) ∧ noLow (moreT ss ++ r) := by
  cases ss with
  | nil => exact ⟨h.f, h.l⟩
  | cons s ss => exact ⟨noFig_cons (by decide), noLow_cons low44⟩
theorem lrSs_more : ∀ {ss : List Stp} {f : Nat} {r : Tx}, (∀ s ∈ ss, s.nm) → Beh r → (moreT ss).length < f → lrSs f true (moreT ss ++ r) = some (ss, r)
  | ss, 0, r, _, _, h => by omega
  | [], f + 1, r, _, hr, _ => by
    show (if r.head? = some 44 then _ else some ([], r)) = _
    rw [if_neg hr.c]
  | s :: ss, f + 1, r, hn, hr, hf => by
    have hf : (44 :: 32 :: tlS (shS s) ++ moreT ss).length < f + 1 := hf
    rw [List.length_append] at hf
    simp only [List.length_cons] at hf
    obtain ⟨m1, m2⟩ := more_beh (ss := ss) hr
    have eL : moreT (s :: ss) ++ r = 44 :: 32 :: (tlS (shS s) ++ (moreT ss ++ r)) := by
      show (44 :: 32 :: tlS (shS s) ++ moreT ss) ++ r = _
      simp
    rw [eL, lrSs, if_pos (by rfl), if_pos (by rfl)]
    show (lrS (tlS (shS s) ++ (moreT ss ++ r))).bind (fun s => (lrSs f true s.2).map fun t => (s.1 :: t.1, t.2)) = _
    rw [lrS_sh (hn s (by simp)) m1 m2]
    show (lrSs f true (moreT ss ++ r)).map _ = _
    rw [lrSs_more (fun t ht => hn t (List.mem_cons_of_mem _ ht)) hr (by omega)]
    rfl
theorem lrH_sh {n : Str} {ss : List Stp} {r : Tx} (hx : lowS n) (hn : ∀ s ∈ ss, s.nm) (hr : Beh r) : lrH (tlS (shH (n, ss)) ++ r) = some ((n, ss), r) := by
  rw [shH_tl, List.append_assoc, List.cons_append]
  generalize hq : headT ss ++ r = q
  obtain ⟨t1, t2⟩ := takeW_app (p := isLow) (a := tlS n) (r := 58 :: q) hx (noLow_cons low58)
  unfold lrH
  rw [t1, t2, if_pos (by rfl), stx_of]
  have key : lrSs ((tlS n ++ 58 :: q).length + 1) false q = some (ss, r) := by
    rw [List.length_append, List.length_cons]
    subst hq
    cases ss with
    | nil =>
      show (if r.head? = some 32 then _ else some ([], r)) = _
      rw [if_neg hr.b]
    | cons s ss =>
      obtain ⟨m1, m2⟩ := more_beh (ss := ss) hr
      have e0 : (headT (s :: ss)).length = (tlS (shS s)).length + (moreT ss).length + 1 := by
        show (32 :: (tlS (shS s) ++ moreT ss)).length = _
        simp
      show (lrS (tlS (shS s) ++ moreT ss ++ r)).bind _ = _
      rw [List.append_assoc, lrS_sh (hn s (by simp)) m1 m2]
      show (lrSs _ true (moreT ss ++ r)).map _ = _
      rw [lrSs_more (fun t ht => hn t (List.mem_cons_of_mem _ ht)) hr (by simp only [List.length_cons, List.length_append]; omega)]
      rfl
  show (lrSs ((tlS n ++ 58 :: q).length + 1) false q).map _ = _
  rw [key]
  rfl
theorem lrSs_sound : ∀ {f : Nat} {b : Bool} {l r : Tx} {ss : List Stp}, lrSs f b l = some (ss, r) → l = (if b = true then moreT ss else headT ss) ++ r
  | 0, b, l, r, ss, h => by cases b <;> cases h
  | f + 1, true, l, r, ss, h => by
    have h : (if l.head? = some 44 then (if l.take 2 = [44, 32] then (lrS (l.drop 2)).bind fun s => (lrSs f true s.2).map fun t => (s.1 :: t.1, t.2) else none) else some ([], l)) = some (ss, r) := h
    split at h
    · split at h
      · next h2 =>
        obtain ⟨⟨s, rs⟩, h3, h4⟩ := Option.bind_eq_some_iff.mp h
        obtain ⟨⟨t, rt⟩, h5, h6⟩ := Option.map_eq_some_iff.mp h4
        cases h6
        have ih := lrSs_sound h5
        have ih : rs = moreT t ++ rt := ih
        have e1 := take_pre (w := [44, 32]) h2
        have e2 := lrS_sound h3
        show l = (44 :: 32 :: tlS (shS s) ++ moreT t) ++ rt
        rw [e1, show l.drop [44, 32].length = l.drop 2 from rfl, e2, ih]
        simp
      · cases h
    · cases h; rfl
  | f + 1, false, l, r, ss, h => by
    have h : (if l.head? = some 32 then (lrS l.tail).bind fun s => (lrSs f true s.2).map fun t => (s.1 :: t.1, t.2) else some ([], l)) = some (ss, r) := h
    split at h
    · next h32 =>
      obtain ⟨⟨s, rs⟩, h3, h4⟩ := Option.bind_eq_some_iff.mp h
      obtain ⟨⟨t, rt⟩, h5, h6⟩ := Option.map_eq_some_iff.mp h4
      cases h6
      have ih := lrSs_sound h5
      have ih : rs = moreT t ++ rt := ih
      have e2 := lrS_sound h3
      show l = 32 :: (tlS (shS s) ++ moreT t) ++ rt
      rw [head_cons h32, e2, ih]
      simp
    · cases h; rfl
theorem lrH_sound {l r : Tx} {h : Str × List Stp} (e : lrH l = some (h, r)) : l = tlS (shH h) ++ r := by
  unfold lrH at e
  split at e
  · next h58 =>
    obtain ⟨⟨ss, rs⟩, h1, h2⟩ := Option.map_eq_some_iff.mp e
    cases h2
    have h3 := lrSs_sound h1
    show l = tlS (shH (stx (l.takeWhile isLow), ss)) ++ rs
    rw [shH_tl, tl_stx]
    have el := tw_dwL l
    rw [head_cons h58, h3] at el
    conv => lhs; rw [← el]
    cases ss <;> simp
  · cases e
theorem shP_cons (r : Str × List Stp) (q : Str × List Stp) (p : Prg) : tlS (shP (r :: q :: p)) = tlS (shH r) ++ 59 :: 32 :: tlS (shP (q :: p)) := by
  unfold shP
  rw [TL.join_eq, TL.join_eq]
  show tlS (shH r ++ "; " ++ Str.join "; " ((q :: p).map shH)) = _
  rw [tl_app, tl_app, show tlS "; " = [59, 32] from sem_tl]
  simp
theorem shP_one (r : Str × List Stp) : tlS (shP [r]) = tlS (shH r) := by
  unfold shP
  rw [TL.join_eq]
  rfl
theorem beh_nil : Beh [] := ⟨fun c h => (by cases h), fun c h => (by cases h), by simp, by simp⟩
theorem beh_semi (r : Tx) : Beh (59 :: r) := ⟨noFig_cons (by decide), noLow_cons low59, by simp, by simp⟩
theorem lrPs_sh : ∀ {p : Prg} {f : Nat}, p ≠ [] → (∀ r ∈ p, lowS r.1 ∧ ∀ s ∈ r.2, s.nm) → p.length ≤ f → lrPs f (tlS (shP p)) = some p
  | [], f, h, _, _ => absurd rfl h
  | r :: p, 0, _, _, h => by simp at h
  | [r], f + 1, _, hn, _ => by
    obtain ⟨h1, h2⟩ := hn r (by simp)
    have := lrH_sh (n := r.1) (ss := r.2) h1 h2 beh_nil
    rw [List.append_nil] at this
    rw [shP_one]
    show (lrH (tlS (shH (r.1, r.2)))).bind _ = _
    rw [this]
    rfl
  | r :: q :: p, f + 1, _, hn, hf => by
    obtain ⟨h1, h2⟩ := hn r (by simp)
    have := lrH_sh (n := r.1) (ss := r.2) h1 h2 (beh_semi (32 :: tlS (shP (q :: p))))
    rw [shP_cons]
    show (lrH (tlS (shH (r.1, r.2)) ++ 59 :: 32 :: tlS (shP (q :: p)))).bind _ = _
    rw [this]
    show (if (59 :: 32 :: tlS (shP (q :: p)) : Tx) = [] then some [r] else if [59, 32] = [59, 32] then (lrPs f (tlS (shP (q :: p)))).map (r :: ·) else none) = _
    rw [if_neg (by simp), if_pos rfl, lrPs_sh (by simp) (fun t ht => hn t (List.mem_cons_of_mem _ ht)) (by simpa using hf)]
    rfl
theorem lrPs_sound : ∀ {f : Nat} {l : Tx} {p : Prg}, lrPs f l = some p → l = tlS (shP p) ∧ p ≠ []
  | 0, l, p, h => by cases h
  | f + 1, l, p, h => by
    have h : ((lrH l).bind fun h => if h.2 = [] then some [h.1] else if h.2.take 2 = [59, 32] then (lrPs f (h.2.drop 2)).map (h.1 :: ·) else none) = some p := h
    obtain ⟨⟨r, q⟩, h1, h2⟩ := Option.bind_eq_some_iff.mp h
    have e1 := lrH_sound h1
    have h2 : (if q = [] then some [r] else if q.take 2 = [59, 32] then (lrPs f (q.drop 2)).map (r :: ·) else none) = some p := h2
    split at h2
    · next hq =>
      cases h2
      rw [shP_one, e1, hq, List.append_nil]
      exact ⟨rfl, by simp⟩
    · split at h2
      · next h59 =>
        obtain ⟨p', h3, rfl⟩ := Option.map_eq_some_iff.mp h2
        obtain ⟨e2, ne⟩ := lrPs_sound h3
        have e3 := take_pre (w := [59, 32]) h59
        cases p' with
        | nil => exact absurd rfl ne
        | cons q2 p' =>
          refine ⟨?_, by simp⟩
          rw [shP_cons, e1, e3, show q.drop [59, 32].length = q.drop 2 from rfl, e2]
          simp
      · cases h2
/-- THE LAW'S READING IS THE WRITING'S INVERSE -/
theorem lrP_sh {p : Prg} (hn : ∀ r ∈ p, lowS r.1 ∧ ∀ s ∈ r.2, s.nm) : lrP (tlS (shP p)) = some p := by
  unfold lrP
  cases p with
  | nil => exact if_pos (by decide +kernel)
  | cons r p =>
    rw [if_neg (fun z => by
      have := join_mem (y := "; ") (ps := p.map shH) (shH_ne r)
      rw [show Txt.join "; " (shH r :: p.map shH) = shP (r :: p) from rfl, z] at this
      cases this)]
    refine lrPs_sh (by simp) hn ?_
    have := join_few (y := "; ") (ps := (r :: p).map shH) (k := 1) fun q hq => by
      obtain ⟨r, _, rfl⟩ := List.mem_map.mp hq
      have := List.length_pos_of_mem (shH_ne r)
      rw [tl_len]
      omega
    rw [List.length_map, len_sm] at this
    have e : (tlS (shP (r :: p))).length = (Txt.join "; " ((r :: p).map shH)).length := (tl_len _).symm
    omega
theorem lrP_sound {l : Tx} {p : Prg} (h : lrP l = some p) : l = tlS (shP p) := by
  unfold lrP at h
  split at h
  · next h0 => cases h; rw [h0]; decide +kernel
  · exact (lrPs_sound h).1
end Fg
namespace Fg
open PySem PySem.Spec PyProof.Rows L2 PySem.NumText
theorem expr_deep : ∀ {n : Nat} {e : Ex}, isExpr n e.data = true → e.deep ≤ n
  | 0, e, h => by cases e <;> cases h
  | n + 1, .num i, _ => by show 1 ≤ n + 1; omega
  | n + 1, .arg, _ => by show 1 ≤ n + 1; omega
  | n + 1, .cell a, h => by
    have h : (match partsOf "cell" with
      | some k => decide ([a.data].length = k) && [a.data].all (isExpr n)
      | none => false) = true := h
    rw [show partsOf "cell" = some 1 by decide +kernel] at h
    have h1 : isExpr n a.data = true := by simpa using h
    have := expr_deep h1
    show a.deep + 1 ≤ n + 1
    omega
  | n + 1, .add a b, h => by
    have h : (match partsOf "add" with
      | some k => decide ([a.data, b.data].length = k) && [a.data, b.data].all (isExpr n)
      | none => false) = true := h
    rw [show partsOf "add" = some 2 by decide +kernel] at h
    have h1 : isExpr n a.data = true ∧ isExpr n b.data = true := by simpa using h
    have := expr_deep h1.1
    have := expr_deep h1.2
    show max a.deep b.deep + 1 ≤ n + 1
    omega
  | n + 1, .less a b, h => by
    have h : (match partsOf "less" with
      | some k => decide ([a.data, b.data].length = k) && [a.data, b.data].all (isExpr n)
      | none => false) = true := h
    rw [show partsOf "less" = some 2 by decide +kernel] at h
    have h1 : isExpr n a.data = true ∧ isExpr n b.data = true := by simpa using h
    have := expr_deep h1.1
    have := expr_deep h1.2
    show max a.deep b.deep + 1 ≤ n + 1
    omega
  | n + 1, .least a b, h => by
    have h : (match partsOf "least" with
      | some k => decide ([a.data, b.data].length = k) && [a.data, b.data].all (isExpr n)
      | none => false) = true := h
    rw [show partsOf "least" = some 2 by decide +kernel] at h
    have h1 : isExpr n a.data = true ∧ isExpr n b.data = true := by simpa using h
    have := expr_deep h1.1
    have := expr_deep h1.2
    show max a.deep b.deep + 1 ≤ n + 1
    omega
theorem step_ok {ns : List Str} {bh : Int} {s : Stp} (h : isStep ns bh s.data = true) : s.ok ns bh := by
  cases s with
  | wait => exact trivial
  | cell a b =>
    have h : step3 ns bh "cell" a.data b.data = true := h
    unfold step3 at h
    rw [if_pos rfl, Bool.and_eq_true] at h
    exact ⟨expr_deep h.1, expr_deep h.2⟩
  | skip a k =>
    have h : step3 ns bh "skip" a.data (.int k) = true := h
    unfold step3 at h
    rw [if_neg (by decide +kernel), if_pos rfl, Bool.and_eq_true] at h
    have h2 : (decide (1 ≤ k) && decide (k ≤ bh)) = true := h.2
    rw [Bool.and_eq_true, decide_eq_true_eq, decide_eq_true_eq] at h2
    exact ⟨expr_deep h.1, h2⟩
  | give x a =>
    have h : step3 ns bh "give" (.str x) a.data = true := h
    unfold step3 at h
    rw [if_neg (by decide +kernel), if_neg (by decide +kernel), if_pos rfl, Bool.and_eq_true] at h
    exact ⟨h.1, expr_deep h.2⟩
  | fork x a =>
    have h : step3 ns bh "fork" (.str x) a.data = true := h
    unfold step3 at h
    rw [if_neg (by decide +kernel), if_neg (by decide +kernel), if_neg (by decide +kernel), if_pos (.inl rfl), Bool.and_eq_true, Bool.and_eq_true] at h
    exact ⟨h.1.1, of_decide_eq_true h.2, expr_deep h.1.2⟩
  | call x a =>
    have h : step3 ns bh "call" (.str x) a.data = true := h
    unfold step3 at h
    rw [if_neg (by decide +kernel), if_neg (by decide +kernel), if_neg (by decide +kernel), if_pos (.inr rfl), Bool.and_eq_true, Bool.and_eq_true] at h
    exact ⟨h.1.1, of_decide_eq_true h.2, expr_deep h.1.2⟩
theorem stepsOk_w {ns : List Str} : ∀ {ss : List Stp} {k : Nat}, wrongAt ns k (ss.map Stp.data) = none → stepsOk ns ss
  | [], _, _ => trivial
  | s :: ss, k, h => by
    have h : (if isStep ns (((ss.map Stp.data).length : Nat) : Int) s.data = true then wrongAt ns (k + 1) (ss.map Stp.data) else some k) = none := h
    split at h
    · next h1 =>
      rw [List.length_map] at h1
      exact ⟨step_ok h1, stepsOk_w h⟩
    · cases h
theorem prgW_of {p : Prg} (h : firstWrong (prgD p) = none) : PrgW p := by
  unfold firstWrong at h
  split at h
  · next hform =>
    have hform : ((p.map rowD).all rowOk && rising ((p.map rowD).map rowName)) = true := hform
    have h : (wrongIn ((p.map rowD).map rowName) (p.map rowD)).map some = none := h
    rw [rowName_map] at hform h
    rw [Bool.and_eq_true] at hform
    have hw : wrongIn (p.map (·.1)) (p.map rowD) = none := by
      cases e : wrongIn (p.map (·.1)) (p.map rowD) with
      | none => rfl
      | some o => rw [e] at h; cases h
    refine ⟨fun r hr => List.all_eq_true.mp hform.1 (rowD r) (List.mem_map.mpr ⟨r, hr, rfl⟩), hform.2, fun r hr => ?_⟩
    exact stepsOk_w (wrongIn_all hw (rowD r) (List.mem_map.mpr ⟨r, hr, rfl⟩))
  · cases h
theorem low_of {x : Str} (h : nameS x = true) : lowS x := (nameS_iff.mp h).2.2
theorem nm_of {ns : List Str} {bh : Int} {s : Stp} (h : s.ok ns bh) : s.nm := by
  cases s with
  | wait => exact trivial
  | cell a b => exact h
  | skip a k => exact h.1
  | give x a => exact ⟨low_of h.1, h.2⟩
  | fork x a => exact ⟨low_of h.1, h.2.2⟩
  | call x a => exact ⟨low_of h.1, h.2.2⟩
theorem shB_600 : shB < 10 ^ 3200 := by
  rw [← shB_nat]
  have : (10 : Nat) ^ 3100 < 10 ^ 3200 := Nat.pow_lt_pow_right (by decide) (by decide)
  exact_mod_cast this
/-- THE PROGRAM'S READING IS THE LAW'S -/
theorem read_same {x : Str} (hl : x.length ≤ 4300) (fl : FigL (tlS x)) : Fg.rdP x = (lrP (tlS x)).bind fun p => if firstWrong (prgD p) = none then some (p.map rowD) else none := by
  cases e : lrP (tlS x) with
  | some p =>
    have ex : x = shP p := tl_inj (lrP_sound e)
    show _ = if firstWrong (prgD p) = none then some (p.map rowD) else none
    by_cases hf : firstWrong (prgD p) = none
    · rw [if_pos hf]
      have w := prgW_of hf
      have rd : ∀ r ∈ p, nameS r.1 = true ∧ ∀ s ∈ r.2, s.rd shB := fun r hr => ⟨w.names r hr, fun s hs => by
        obtain ⟨bh, hb⟩ := stepsOk_mem (w.steps r hr) s hs
        exact st_bnd fl hb (by rw [ex]; exact (inf_step hs).trans (inf_row hr))⟩
      rw [ex]
      unfold Fg.rdP
      rw [rdRows_sh shB_600 rd]
      exact if_pos hf
    · rw [if_neg hf]
      cases e2 : Fg.rdP x with
      | none => rfl
      | some ds =>
        obtain ⟨p2, _, ex2, w2⟩ := rdP_sound e2 hl
        have := lrP_sh (p := p2) fun r hr => ⟨low_of (w2.names r hr), fun s hs => by
          obtain ⟨bh, hb⟩ := stepsOk_mem (w2.steps r hr) s hs
          exact nm_of hb⟩
        rw [← ex2, e] at this
        cases this
        exact absurd (firstWrongW w2) hf
  | none =>
    cases e2 : Fg.rdP x with
    | none => rfl
    | some ds =>
      obtain ⟨p2, _, ex2, w2⟩ := rdP_sound e2 hl
      have := lrP_sh (p := p2) fun r hr => ⟨low_of (w2.names r hr), fun s hs => by
        obtain ⟨bh, hb⟩ := stepsOk_mem (w2.steps r hr) s hs
        exact nm_of hb⟩
      rw [← ex2, e] at this
      cases this
end Fg
namespace Fg
open PySem PySem.Spec PyProof.Rows L2 PySem.NumText
local macro_rules | `(tactic| walk_at "hp") => `(tactic| first
  | assumption
  | exact upd_same
  | (refine Chg.at (by assumption) ?_; walk_at "hp")
  | (refine Chg.at1 (by assumption) ?_ (by walk_at "ne"); walk_at "hp"))
local macro_rules | `(tactic| walk_at "ne") => `(tactic| first | assumption | (apply Ne.symm; assumption))
local macro_rules | `(tactic| walk_at "sq") => `(tactic| first | assumption | exact sqL (by walk_at "hp") | (refine Chg.seq (by assumption) ?_; walk_at "sq"))
local macro_rules | `(tactic| walk_at "sz") => `(tactic| first | assumption | exact Nat.zero_le _ | (simp only [List.length_cons, List.length_nil]; decide) | exact Nat.le_trans (by first | omega | (simp; done) | (simp; omega)) (show 100000 ≤ sizeLine by decide) | exact Nat.lt_of_lt_of_le (by first | omega | (simp; done) | (simp; omega)) (show 100000 ≤ sizeLine by decide))
local macro_rules | `(tactic| walk_at "ix") => `(tactic| first | exact at0 | exact at1 | exact at2 | exact at3 | assumption | exact rfl | walk_at "ix2")
local macro_rules | `(tactic| walk_at "ix2") => `(tactic| fail)
local macro_rules | `(tactic| walk_at "num") => `(tactic| first | assumption | omega | decide | walk_at "num2")
local macro_rules | `(tactic| walk_at "num2") => `(tactic| fail)
local macro_rules | `(tactic| walk_at "im") => `(tactic| first | assumption | exact R.non (S := fun _ => False) | exact R.bl (S := fun _ => False) _ | exact R.int (S := fun _ => False) _ | exact R.str (S := fun _ => False) _ | (refine R.im (by assumption) ?_; walk_at "im"))
local macro_rules | `(tactic| walk_at "r") => `(tactic| first | assumption | exact R.non (S := fun _ => False) | exact R.bl (S := fun _ => False) _ | exact R.int (S := fun _ => False) _ | exact R.str (S := fun _ => False) _ | (refine R.same (by assumption) ?_; walk_at "r") | exact R.any (by walk_at "im"))
local macro_rules | `(tactic| walk_at "chg") => `(tactic| first
  | exact Chg.refl
  | assumption
  | (refine Chg.same ?_ (by assumption); walk_at "chg")
  | (refine Chg.both ?_ (by assumption); walk_at "chg")
  | (refine Chg.pre (by assumption) ?_; walk_at "chg"))
local macro_rules | `(tactic| walk_at "w1") => `(tactic| first
  | with_reducible apply w_seq
  | with_reducible apply w_asg
  | ((with_reducible apply w_var); (focus (exact rfl)))
  | with_reducible apply w_c
  | with_reducible apply w_op
  | with_reducible apply w_cons
  | with_reducible apply w_nil
  | with_reducible apply w_gName
  | with_reducible apply w_if
  | with_reducible apply w_test
  | with_reducible apply w_B
  | with_reducible apply w_isbl
  | with_reducible apply w_retN
  | with_reducible apply w_next
  | with_reducible apply w_drop
  | with_reducible apply w_cb
  | with_reducible apply w_call
  | with_reducible apply w_callN
  | with_reducible apply w_bm
  | with_reducible apply w_bm0
  | ((with_reducible apply w_tyL); (focus (walk_at "hp"; done)))
  | with_reducible apply w_dput
  | with_reducible apply w_m1
  | with_reducible apply w_isstr
  | with_reducible apply w_and
  | with_reducible apply w_or
  | with_reducible apply w_not
  | with_reducible apply w_andV
  | with_reducible apply w_orV
  | with_reducible apply w_notV
  | with_reducible apply w_ifE
  | with_reducible apply w_chain
  | with_reducible apply w_un
  | with_reducible apply w_neg
  | with_reducible apply w_add
  | with_reducible apply w_sub
  | ((with_reducible apply w_mod); (focus (walk_at "num"; done)))
  | ((with_reducible apply w_mul); (focus (walk_at "num"; done)))
  | ((with_reducible apply w_fdiv); (focus (walk_at "num"; done)))
  | ((with_reducible apply w_pow); (focus (walk_at "num"; done)))
  | with_reducible apply w_lt
  | with_reducible apply w_le
  | with_reducible apply w_gt
  | with_reducible apply w_ge
  | with_reducible apply w_ltS
  | with_reducible apply w_geS
  | with_reducible apply w_inC
  | with_reducible apply w_notInC
  | with_reducible apply w_isN
  | with_reducible apply w_notN
  | with_reducible apply w_isB
  | with_reducible apply w_notB
  | ((with_reducible apply w_addS); (focus (walk_at "sz"; done)))
  | ((with_reducible apply w_ixL); (focus (walk_at "sq"; done)); (focus (walk_at "ix"; done)))
  | ((with_reducible apply w_ixT); (focus (walk_at "hp"; done)); (focus (walk_at "ix"; done)))
  | ((with_reducible apply w_ixS); (focus (walk_at "sz"; done)); (focus (walk_at "ix"; done)))
  | with_reducible apply w_gSub
  | ((with_reducible apply w_gTup); (focus (walk_at "hp"; done)); (focus (exact rfl)))
  | with_reducible apply w_gCons
  | with_reducible apply w_gNil
  | ((with_reducible apply w_aug); (focus (exact rfl)))
  | with_reducible apply w_ipI
  | ((with_reducible apply w_eq); (focus (exact rfl)))
  | ((with_reducible apply w_ne); (focus (exact rfl)))
  | with_reducible apply w_max
  | with_reducible apply w_min
  | with_reducible apply w_abs
  | with_reducible apply w_intB
  | with_reducible apply w_intI
  | with_reducible apply w_tup1
  | with_reducible apply w_lst1
  | with_reducible apply w_sl
  | with_reducible apply w_part
  | with_reducible apply w_noPart
  | with_reducible apply w_isint
  | ((with_reducible apply w_slS); (focus (walk_at "sz"; done)))
  | with_reducible apply w_iteT
  | with_reducible apply w_iteF
  | with_reducible apply w_iteN
  | ((with_reducible apply w_iteYes); (focus (exact rfl)))
  | ((with_reducible apply w_iteNo); (focus (exact rfl)))
  | ((with_reducible apply w_lenL); (focus (walk_at "sq"; done)))
  | ((with_reducible apply w_lenT); (focus (walk_at "hp"; done)))
  | ((with_reducible apply w_lenS); (focus (walk_at "sz"; done)))
  | with_reducible apply w_lc
  | with_reducible apply w_for
  | with_reducible apply w_yes
  | ((with_reducible apply w_wipe); (focus (exact rfl)))
  | with_reducible apply w_iList
  | with_reducible apply w_iTup
  | with_reducible apply w_iStr
  | with_reducible apply w_iRng1
  | with_reducible apply w_iRng2
  | with_reducible apply w_iZip
  | with_reducible apply w_iEnum
  | ((with_reducible apply d_iList); (focus (walk_at "sq"; done)))
  | ((with_reducible apply d_iTup); (focus (walk_at "hp"; done)))
  | with_reducible apply d_iStr
  | ((with_reducible apply d_iRng1); (focus (walk_at "num"; done)); (focus (walk_at "num"; done)))
  | ((with_reducible apply d_iRng2); (focus (walk_at "num"; done)); (focus (walk_at "num"; done)); (focus (walk_at "num"; done)); (focus (walk_at "num"; done)))
  | ((with_reducible apply d_iZip); (focus (walk_at "sq"; done)); (focus (walk_at "sq"; done)))
  | ((with_reducible apply d_iEnum); (focus (walk_at "sq"; done)))
  | walk_at "w2")
local macro_rules | `(tactic| walk_at "w2") => `(tactic| fail)
local macro_rules | `(tactic| walk_at "wn") => `(tactic| repeat walk_at "w1")
local macro_rules | `(tactic| walk_at "w") => `(tactic| repeat (first | walk_at "w1" | with_reducible apply w_ret))
theorem tw_get {p : Nat → Bool} : ∀ {l : Tx} {i : Nat}, i < (l.takeWhile p).length → ∃ c, l[i]? = some c ∧ p c = true
  | [], i, h => by simp at h
  | a :: l, i, h => by
    by_cases ha : p a = true
    · rw [List.takeWhile_cons_of_pos ha, List.length_cons] at h
      cases i with
      | zero => exact ⟨a, rfl, ha⟩
      | succ i =>
        obtain ⟨c, h1, h2⟩ := tw_get (p := p) (l := l) (i := i) (by omega)
        exact ⟨c, by simpa using h1, h2⟩
    · rw [List.takeWhile_cons_of_neg ha] at h
      simp at h
theorem tw_stop {p : Nat → Bool} : ∀ {l : Tx} {c : Nat}, l[(l.takeWhile p).length]? = some c → p c = false
  | [], c, h => by simp at h
  | a :: l, c, h => by
    by_cases ha : p a = true
    · rw [List.takeWhile_cons_of_pos ha, List.length_cons] at h
      exact tw_stop (p := p) (l := l) (by simpa using h)
    · rw [List.takeWhile_cons_of_neg ha] at h
      have : a = c := by simpa using h
      rw [← this]
      simpa using ha
theorem tw_take {p : Nat → Bool} : ∀ l : Tx, l.takeWhile p = l.take (l.takeWhile p).length ∧ l.dropWhile p = l.drop (l.takeWhile p).length := fun l => by
  have e : l.takeWhile p ++ l.dropWhile p = l := List.takeWhile_append_dropWhile
  constructor
  · conv => rhs; rw [← e]
    rw [show (l.takeWhile p ++ l.dropWhile p).takeWhile p = l.takeWhile p by rw [e], List.take_left]
  · conv => rhs; rw [← e]
    rw [show (l.takeWhile p ++ l.dropWhile p).takeWhile p = l.takeWhile p by rw [e], List.drop_left]
theorem cutS_nat (x : Str) (i j : Nat) : cutS x (some (i : Int)) (some (j : Int)) = stx (((tlS x).drop i).take (j - i)) := by
  unfold cutS stx
  rw [HT.sIx_nat, HT.sIx_nat]
  congr 2
  have h : x.length = x.cps.toList.length := tl_len x
  rcases Nat.le_total i x.length with hi | hi
  · rw [Nat.min_eq_left hi]
    rcases Nat.le_total j x.length with hj | hj
    · rw [Nat.min_eq_left hj]
    · rw [Nat.min_eq_right hj, List.take_of_length_le (by rw [List.length_drop]; omega), List.take_of_length_le (by show (x.cps.toList.drop i).length ≤ _; rw [List.length_drop]; omega)]
  · rw [Nat.min_eq_right hi, List.drop_of_length_le (by omega), List.drop_of_length_le (by show x.cps.toList.length ≤ i; omega)]
    simp
def sp__law_letters : Sp := fun vs H Q _ => ∃ (x : Str) (k : Nat), vs = [.str x, .int (k : Nat)] ∧ x.length ≤ 3000 ∧ k ≤ 5000 ∧ Q (.int ((k + (((tlS x).drop k).takeWhile isLow).length : Nat) : Int)) H
def t__law_letters  : TS :=
    tSeq (tWhile (tAnd (tTest (tOp oLt (tVar 1) (tCB cLenS (tCons (tVar 0) (tNil))))) (tTest (tOp oInC (tOp rIxS (tVar 0) (tVar 1)) (tC (.str "abcdefghijklmnopqrstuvwxyz"))))) (tAsg (tOp oAdd (tVar 1) (tC (.int 1))) (gName 1)))
    (tRet (tVar 1))
theorem pure__law_letters {K : PySem.W.Frag} (vs : List V) (H : Hp) (Q : VK) (E : XK) (h : sp__law_letters vs H Q E) : t__law_letters (fin Q) (start ["text", "at"] vs) H := by
  obtain ⟨x, k, rfl, hl, hk, q⟩ := h
  show t__law_letters _ [some (.str x), some (.int (k : Nat))] H
  unfold t__law_letters
  have lx : x.length ≤ sizeLine := Nat.le_trans hl (by decide)
  have ex := tl_len x
  generalize eN : (((tlS x).drop k).takeWhile isLow).length = N at q
  have hN : N ≤ 3000 := by
    have : (((tlS x).drop k).takeWhile isLow).length ≤ ((tlS x).drop k).length := (List.takeWhile_prefix _).length_le
    rw [List.length_drop] at this
    omega
  walk_at "w"
  refine w_while ⟨fun m σ Hn => ∃ j : Nat, m = N - j ∧ j ≤ N ∧ Hn = H ∧ σ = [some (.str x), some (.int ((k + j : Nat) : Int))], ⟨_, 0, rfl, Nat.zero_le _, rfl, rfl⟩, fun m σ Hn inv => ?_⟩
  obtain ⟨j, em, hj, rfl, rfl⟩ := inv
  walk_at "w"
  have done : j = N → tRet (tVar 1) (fin Q) [some (.str x), some (.int ((k + j : Nat) : Int))] Hn := fun e => by
    subst e
    walk_at "w"
    exact q
  refine w_iteD (fun h1 => ?_) (fun h1 => ?_)
  · have h1 : k + j < x.length := by omega
    obtain ⟨c, ec⟩ : ∃ c, (tlS x)[k + j]? = some c := ⟨_, List.getElem?_eq_getElem (by rw [← ex]; exact h1)⟩
    have ed : ((tlS x).drop k)[j]? = some c := by rw [List.getElem?_drop]; exact ec
    walk_at "w"
    refine w_ixS lx (c := c) (atI_nat ec) ?_
    refine w_c (w_inC ?_)
    refine ⟨_, rfl, ?_⟩
    have el : decide (c ∈ ("abcdefghijklmnopqrstuvwxyz" : Str).cps.toList) = isLow c := rfl
    rw [el]
    by_cases hjN : j < N
    · obtain ⟨c2, e2, hc2⟩ := tw_get (p := isLow) (l := (tlS x).drop k) (i := j) (by rw [eN]; exact hjN)
      rw [ed] at e2
      cases e2
      refine w_iteYes hc2 ⟨_, fun σ' H' z => z, ?_⟩
      walk_at "w"
      exact ⟨N - (j + 1), by omega, j + 1, rfl, by omega, rfl, by
        show [some (V.str x), some (V.int (((k + j : Nat) : Int) + 1))] = _
        rw [show (((k + j : Nat) : Int) + 1) = ((k + (j + 1) : Nat) : Int) by omega]⟩
    · have e : j = N := by omega
      have hc : isLow c = false := tw_stop (p := isLow) (l := (tlS x).drop k) (by rw [eN, ← e]; exact ed)
      exact w_iteNo hc (done e)
  · have e : j = N := by
      refine Nat.le_antisymm hj (Nat.le_of_not_lt fun z => ?_)
      obtain ⟨c2, e2, _⟩ := tw_get (p := isLow) (l := (tlS x).drop k) (i := j) (by rw [eN]; exact z)
      rw [List.getElem?_drop] at e2
      have := (List.getElem?_eq_some_iff.mp e2).1
      omega
    exact done e
def sp__law_number_read : Sp := fun vs H Q _ => ∃ (x : Str) (k : Nat), vs = [.str x, .int (k : Nat)] ∧ x.length ≤ 3000 ∧ k ≤ 5000 ∧ FigL (tlS x) ∧ (lrN ((tlS x).drop k) = none → Q .non H) ∧
  ∀ i r, lrN ((tlS x).drop k) = some (i, r) → ∀ (T : Addr) (j : Nat) (H' : Hp), Chg [] H H' → H' T = some (.tup [.int i, .int (j : Nat)]) → (tlS x).drop j = r → j ≤ x.length → Q (.ref T) H'
def t__law_number_read  : TS :=
    tSeq (tAsg (tOp oAdd (tVar 1) (tCB cInt (tCons (tOp rEq (tSl rSlS (tVar 0) (tPart (tVar 1)) (tPart (tOp oAdd (tVar 1) (tC (.int 1))))) (tC (.str "-"))) (tNil)))) (gName 2))
    (tSeq (tAsg (tVar 2) (gName 3))
    (tSeq (tWhile (tAnd (tTest (tOp oLt (tVar 2) (tCB cLenS (tCons (tVar 0) (tNil))))) (tTest (tOp oInC (tOp rIxS (tVar 0) (tVar 2)) (tC (.str "0123456789"))))) (tAsg (tOp oAdd (tVar 2) (tC (.int 1))) (gName 2)))
    (tSeq (tIfS (tOr (tTest (tOp rEq (tVar 2) (tVar 3))) (tAnd (tTest (tOp rEq (tOp rIxS (tVar 0) (tVar 3)) (tC (.str "0")))) (tOr (tTest (tOp oGt (tVar 2) (tOp oAdd (tVar 3) (tC (.int 1))))) (tTest (tOp oGt (tVar 3) (tVar 1)))))) (tRet (tC .non)) (tNext))
    (tRet (tTup (tCons (tCB cIntS (tCons (tSl rSlS (tVar 0) (tPart (tVar 1)) (tPart (tVar 2))) (tNil))) (tCons (tVar 2) (tNil))))))))
def t_numr_end  : TS :=
    tSeq (tIfS (tOr (tTest (tOp rEq (tVar 2) (tVar 3))) (tAnd (tTest (tOp rEq (tOp rIxS (tVar 0) (tVar 3)) (tC (.str "0")))) (tOr (tTest (tOp oGt (tVar 2) (tOp oAdd (tVar 3) (tC (.int 1))))) (tTest (tOp oGt (tVar 3) (tVar 1)))))) (tRet (tC .non)) (tNext))
    (tRet (tTup (tCons (tCB cIntS (tCons (tSl rSlS (tVar 0) (tPart (tVar 1)) (tPart (tVar 2))) (tNil))) (tCons (tVar 2) (tNil)))))
theorem one_sign (x : Str) (k : Nat) (d : Nat) (z : Str) (hz : z = stx [d]) : decide (V.str (cutS x (some ((k : Nat) : Int)) (some (((k : Nat) : Int) + 1))) = V.str z) = decide (((tlS x).drop k).head? = some d) := by
  subst hz
  rw [show (some (((k : Nat) : Int) + 1) : Option Int) = some ((k + 1 : Nat) : Int) from rfl, cutS_nat, Nat.add_sub_cancel_left]
  generalize (tlS x).drop k = l
  by_cases h : l.head? = some d
  · rw [decide_eq_true h, decide_eq_true (by
      cases l with
      | nil => cases h
      | cons a l => rw [show a = d from Option.some.inj h]; rfl)]
  · rw [decide_eq_false h, decide_eq_false fun z => h (by
      have := stx_inj (V.str.inj z)
      cases l with
      | nil => cases this
      | cons a l =>
        have this : [a] = [d] := this
        rw [(List.cons.inj this).1]
        rfl)]
theorem dash_stx : ("-" : Str) = stx [45] := by decide +kernel
theorem numr_end {Q : VK} {H : Hp} {x : Str} {k f N : Nat} (hl : x.length ≤ 3000) (hk : k ≤ 5000) (fl : FigL (tlS x)) (hf : f = k + (if ((tlS x).drop k).head? = some 45 then 1 else 0)) (hN : N = (((tlS x).drop f).takeWhile isFig).length) (hN3 : N ≤ 3000) (q0 : lrN ((tlS x).drop k) = none → Q .non H)
    (q1 : ∀ i r, lrN ((tlS x).drop k) = some (i, r) → ∀ (T : Addr) (j : Nat) (H' : Hp), Chg [] H H' → H' T = some (.tup [.int i, .int (j : Nat)]) → (tlS x).drop j = r → j ≤ x.length → Q (.ref T) H') :
    t_numr_end (fin Q) [some (.str x), some (.int (k : Nat)), some (.int ((f + N : Nat) : Int)), some (.int (f : Nat))] H := by
  unfold t_numr_end
  have lx : x.length ≤ sizeLine := Nat.le_trans hl (by decide)
  have ex := tl_len x
  obtain ⟨tk, dk⟩ := tw_take (p := isFig) ((tlS x).drop f)
  rw [← hN] at tk dk
  have tfig : ∀ c ∈ ((tlS x).drop f).take N, isFig c = true := fun c hc => tw_fig ((tlS x).drop f) c (by rw [tk]; exact hc)
  have ifx : ((tlS x).drop f).take N <:+: tlS x := (take_infix N).trans (drop_infix f)
  have lN : (((tlS x).drop f).take N).length = N := by rw [← tk, ← hN]
  have fN := fl _ ifx tfig
  rw [lN] at fN
  walk_at "w"
  refine w_iteD (fun h => ?_) (fun h => ?_)
  · have h0 : N = 0 := by have := V.int.inj h; omega
    walk_at "w"
    refine q0 ?_
    have e0 : ((tlS x).drop f).takeWhile isFig = [] := by rw [tk, h0]; rfl
    unfold lrN
    split
    · next h45 =>
      rw [if_pos h45] at hf
      rw [List.tail_drop, ← hf]
      exact if_pos (.inl e0)
    · next h45 =>
      rw [if_neg h45, Nat.add_zero] at hf
      rw [← hf]
      exact if_pos (.inl e0)
  have h1 : 1 ≤ N := Nat.pos_of_ne_zero fun z => h (by rw [z]; rfl)
  obtain ⟨c, ec, hc⟩ := tw_get (p := isFig) (l := (tlS x).drop f) (i := 0) (by rw [← hN]; exact h1)
  have ec2 : (tlS x)[f]? = some c := by rw [List.getElem?_drop, Nat.add_zero] at ec; exact ec
  have hd : ((tlS x).drop f).head? = some c := by rw [List.head?_eq_getElem?]; exact ec
  walk_at "w"
  refine w_ixS lx (c := c) (atI_nat ec2) ?_
  walk_at "w"
  rw [one_eq c 48 _ zero_stx]
  have fin_ : ¬ (c = 48 ∧ (1 < N ∨ k < f)) → tRet (tTup (tCons (tCB cIntS (tCons (tSl rSlS (tVar 0) (tPart (tVar 1)) (tPart (tVar 2))) tNil)) (tCons (tVar 2) tNil))) (fin Q) [some (.str x), some (.int (k : Nat)), some (.int ((f + N : Nat) : Int)), some (.int (f : Nat))] H := fun hnot => by
    obtain ⟨i, el, ei⟩ : ∃ i, lrN ((tlS x).drop k) = some (i, (tlS x).drop (f + N)) ∧ PySem.intText? (cutS x (some ((k : Nat) : Int)) (some ((f + N : Nat) : Int))) = some i := by
      have dd : ((tlS x).drop f).dropWhile isFig = (tlS x).drop (f + N) := by rw [dk, List.drop_drop]
      have ne : ((tlS x).drop f).takeWhile isFig ≠ [] := fun z => by rw [z] at hN; simp at hN; omega
      by_cases h45 : ((tlS x).drop k).head? = some 45
      · rw [if_pos h45] at hf
        have et : ((tlS x).drop k).tail = (tlS x).drop f := by rw [List.tail_drop, ← hf]
        refine ⟨-((digitsVal (((tlS x).drop f).takeWhile isFig) : Nat) : Int), ?_, ?_⟩
        · unfold lrN
          rw [if_pos h45, et, if_neg (fun z => z.elim ne fun z => hnot ⟨by rw [hd] at z; exact Option.some.inj z, .inr (by omega)⟩), dd]
        · rw [cutS_nat]
          have e1 : ((tlS x).drop k).take (f + N - k) = 45 :: ((tlS x).drop f).takeWhile isFig := by
            rw [head_cons h45, et, show f + N - k = N + 1 by omega, List.take_succ_cons, ← tk]
          refine intText_neg (cs := ((tlS x).drop f).takeWhile isFig) (by rw [e1]; exact stx_list _) (digits_fig (tw_fig _)) ne ?_
          rw [stx_len, e1, List.length_cons, ← hN]
          have : N + 1 ≤ 3100 := fN
          omega
      · rw [if_neg h45, Nat.add_zero] at hf
        subst hf
        refine ⟨((digitsVal (((tlS x).drop f).takeWhile isFig) : Nat) : Int), ?_, ?_⟩
        · unfold lrN
          rw [if_neg h45, if_neg (fun z => z.elim ne fun z => hnot ⟨by rw [hd] at z; exact Option.some.inj z.1, .inl (by rw [hN]; exact z.2)⟩), dd]
        · rw [cutS_nat, Nat.add_sub_cancel_left, ← tk]
          refine (intText_digits (x := stx (((tlS x).drop f).takeWhile isFig)) (by rw [stx_list]; exact digits_fig (tw_fig _)) (by rw [stx_list]; exact ne) ?_).trans (by rw [stx_list])
          rw [stx_len, ← hN]
          have : N + 1 ≤ 3100 := fN
          omega
    have lc : (cutS x (some ((k : Nat) : Int)) (some ((f + N : Nat) : Int))).length ≤ rdL := by
      rw [cutS_nat, stx_len, List.length_take]
      have : N + 1 ≤ 3100 := fN
      show min (f + N - k) _ ≤ 3100
      have : f ≤ k + 1 := by rw [hf]; split <;> omega
      omega
    walk_at "w"
    refine w_intS ei lc ?_
    walk_at "w"
    refine k_tup (by walk_at "sz") fun T H1 nT c1 hT => ?_
    refine q1 i _ el T (f + N) H1 c1 hT rfl ?_
    have := ifx.length_le
    have h2 : (((tlS x).drop f).take N).length ≤ ((tlS x).drop f).length := (take_infix N).length_le
    rw [lN, List.length_drop] at h2
    have := (List.getElem?_eq_some_iff.mp ec2).1
    omega
  have non : (c = 48 ∧ (1 < N ∨ k < f)) → Q .non H := fun hyes => by
    refine q0 ?_
    unfold lrN
    split
    · next h45 =>
      rw [if_pos h45] at hf
      rw [List.tail_drop, ← hf]
      exact if_pos (.inr (by rw [hd, hyes.1]))
    · next h45 =>
      rw [if_neg h45, Nat.add_zero] at hf
      subst hf
      refine if_pos (.inr ⟨by rw [hd, hyes.1], ?_⟩)
      rw [← hN]
      omega
  refine w_iteD (fun h2 => ?_) (fun h2 => ?_)
  · walk_at "w"
    refine w_iteD (fun h3 => ?_) (fun h3 => ?_)
    · walk_at "w"
      exact non ⟨h2, .inl (by omega)⟩
    · walk_at "w"
      refine w_iteD (fun h4 => ?_) (fun h4 => ?_)
      · walk_at "w"
        exact non ⟨h2, .inr (by omega)⟩
      · refine w_next ?_
        exact fin_ fun z => z.2.elim (fun z => h3 (by omega)) fun z => h4 (by omega)
  · refine w_next ?_
    exact fin_ fun z => h2 z.1
theorem pure__law_number_read {K : PySem.W.Frag} (vs : List V) (H : Hp) (Q : VK) (E : XK) (h : sp__law_number_read vs H Q E) : t__law_number_read (fin Q) (start ["text", "at", "end", "first"] vs) H := by
  obtain ⟨x, k, rfl, hl, hk, fl, q0, q1⟩ := h
  show t__law_number_read _ [some (.str x), some (.int (k : Nat)), none, none] H
  show tSeq _ (tSeq _ (tSeq _ t_numr_end)) (fin Q) _ H
  have lx : x.length ≤ sizeLine := Nat.le_trans hl (by decide)
  have ex := tl_len x
  walk_at "w"
  rw [one_sign x k 45 _ dash_stx]
  obtain ⟨f, hf⟩ : ∃ f, f = k + (if ((tlS x).drop k).head? = some 45 then 1 else 0) := ⟨_, rfl⟩
  have ef : ((k : Nat) : Int) + (if decide (((tlS x).drop k).head? = some 45) = true then 1 else 0) = ((f : Nat) : Int) := by
    rw [hf]
    by_cases h : ((tlS x).drop k).head? = some 45
    · rw [decide_eq_true h, if_pos rfl, if_pos h]; omega
    · rw [decide_eq_false h, if_neg (by decide), if_neg h]; omega
  rw [ef]
  generalize eN : (((tlS x).drop f).takeWhile isFig).length = N
  have hN : N ≤ 3000 := by
    have : (((tlS x).drop f).takeWhile isFig).length ≤ ((tlS x).drop f).length := (List.takeWhile_prefix _).length_le
    rw [List.length_drop] at this
    omega
  have hf2 : f ≤ 5001 := by rw [hf]; split <;> omega
  walk_at "w"
  refine w_while ⟨fun m σ Hn => ∃ j : Nat, m = N - j ∧ j ≤ N ∧ Hn = H ∧ σ = [some (.str x), some (.int (k : Nat)), some (.int ((f + j : Nat) : Int)), some (.int (f : Nat))], ⟨_, 0, rfl, Nat.zero_le _, rfl, rfl⟩, fun m σ Hn inv => ?_⟩
  obtain ⟨j, em, hj, rfl, rfl⟩ := inv
  walk_at "w"
  have done : j = N → t_numr_end (fin Q) [some (.str x), some (.int (k : Nat)), some (.int ((f + j : Nat) : Int)), some (.int (f : Nat))] Hn := fun e => by
    subst e
    exact numr_end hl hk fl hf eN.symm hN q0 q1
  refine w_iteD (fun h1 => ?_) (fun h1 => ?_)
  · have h1 : f + j < x.length := by omega
    obtain ⟨c, ec⟩ : ∃ c, (tlS x)[f + j]? = some c := ⟨_, List.getElem?_eq_getElem (by rw [← ex]; exact h1)⟩
    have ed : ((tlS x).drop f)[j]? = some c := by rw [List.getElem?_drop]; exact ec
    walk_at "w"
    refine w_ixS lx (c := c) (atI_nat ec) ?_
    refine w_c (w_inC ?_)
    refine ⟨_, rfl, ?_⟩
    have el : decide (c ∈ ("0123456789" : Str).cps.toList) = isFig c := by
      by_cases z : isFig c = true
      · rw [z]; exact decide_eq_true ((fig_iff c).mpr z)
      · have z2 : isFig c = false := by simpa using z
        rw [z2]; exact decide_eq_false fun w => z ((fig_iff c).mp w)
    rw [el]
    by_cases hjN : j < N
    · obtain ⟨c2, e2, hc2⟩ := tw_get (p := isFig) (l := (tlS x).drop f) (i := j) (by rw [eN]; exact hjN)
      rw [ed] at e2
      cases e2
      refine w_iteYes hc2 ⟨_, fun σ' H' z => z, ?_⟩
      walk_at "w"
      exact ⟨N - (j + 1), by omega, j + 1, rfl, by omega, rfl, by
        show [some (V.str x), some (V.int (k : Nat)), some (V.int (((f + j : Nat) : Int) + 1)), some (V.int (f : Nat))] = _
        rw [show (((f + j : Nat) : Int) + 1) = ((f + (j + 1) : Nat) : Int) by omega]⟩
    · have e : j = N := by omega
      have hc : isFig c = false := tw_stop (p := isFig) (l := (tlS x).drop f) (by rw [eN, ← e]; exact ed)
      exact w_iteNo hc (done e)
  · have e : j = N := by
      refine Nat.le_antisymm hj (Nat.le_of_not_lt fun z => ?_)
      obtain ⟨c2, e2, _⟩ := tw_get (p := isFig) (l := (tlS x).drop f) (i := j) (by rw [eN]; exact z)
      rw [List.getElem?_drop] at e2
      have := (List.getElem?_eq_some_iff.mp e2).1
      omega
    exact done e
end Fg
namespace Fg
open PySem PySem.Spec PyProof.Rows L2
local macro_rules | `(tactic| walk_at "hp") => `(tactic| first
  | assumption
  | exact upd_same
  | (refine Chg.at (by assumption) ?_; walk_at "hp")
  | (refine Chg.at1 (by assumption) ?_ (by walk_at "ne"); walk_at "hp"))
local macro_rules | `(tactic| walk_at "ne") => `(tactic| first | assumption | (apply Ne.symm; assumption))
local macro_rules | `(tactic| walk_at "sq") => `(tactic| first | assumption | exact sqL (by walk_at "hp") | (refine Chg.seq (by assumption) ?_; walk_at "sq"))
local macro_rules | `(tactic| walk_at "sz") => `(tactic| first | assumption | exact Nat.zero_le _ | (simp only [List.length_cons, List.length_nil]; decide) | exact Nat.le_trans (by first | omega | (simp; done) | (simp; omega)) (show 100000 ≤ sizeLine by decide) | exact Nat.lt_of_lt_of_le (by first | omega | (simp; done) | (simp; omega)) (show 100000 ≤ sizeLine by decide))
local macro_rules | `(tactic| walk_at "ix") => `(tactic| first | exact at0 | exact at1 | exact at2 | exact at3 | assumption | exact rfl | walk_at "ix2")
local macro_rules | `(tactic| walk_at "ix2") => `(tactic| fail)
local macro_rules | `(tactic| walk_at "num") => `(tactic| first | assumption | omega | decide | walk_at "num2")
local macro_rules | `(tactic| walk_at "num2") => `(tactic| fail)
local macro_rules | `(tactic| walk_at "im") => `(tactic| first | assumption | exact R.non (S := fun _ => False) | exact R.bl (S := fun _ => False) _ | exact R.int (S := fun _ => False) _ | exact R.str (S := fun _ => False) _ | (refine R.im (by assumption) ?_; walk_at "im"))
local macro_rules | `(tactic| walk_at "r") => `(tactic| first | assumption | exact R.non (S := fun _ => False) | exact R.bl (S := fun _ => False) _ | exact R.int (S := fun _ => False) _ | exact R.str (S := fun _ => False) _ | (refine R.same (by assumption) ?_; walk_at "r") | exact R.any (by walk_at "im"))
local macro_rules | `(tactic| walk_at "chg") => `(tactic| first
  | exact Chg.refl
  | assumption
  | (refine Chg.same ?_ (by assumption); walk_at "chg")
  | (refine Chg.both ?_ (by assumption); walk_at "chg")
  | (refine Chg.pre (by assumption) ?_; walk_at "chg"))
local macro_rules | `(tactic| walk_at "w1") => `(tactic| first
  | with_reducible apply w_seq
  | with_reducible apply w_asg
  | ((with_reducible apply w_var); (focus (exact rfl)))
  | with_reducible apply w_c
  | with_reducible apply w_op
  | with_reducible apply w_cons
  | with_reducible apply w_nil
  | with_reducible apply w_gName
  | with_reducible apply w_if
  | with_reducible apply w_test
  | with_reducible apply w_B
  | with_reducible apply w_isbl
  | with_reducible apply w_retN
  | with_reducible apply w_next
  | with_reducible apply w_drop
  | with_reducible apply w_cb
  | with_reducible apply w_call
  | with_reducible apply w_callN
  | with_reducible apply w_bm
  | with_reducible apply w_bm0
  | ((with_reducible apply w_tyL); (focus (walk_at "hp"; done)))
  | with_reducible apply w_dput
  | with_reducible apply w_m1
  | with_reducible apply w_isstr
  | with_reducible apply w_and
  | with_reducible apply w_or
  | with_reducible apply w_not
  | with_reducible apply w_andV
  | with_reducible apply w_orV
  | with_reducible apply w_notV
  | with_reducible apply w_ifE
  | with_reducible apply w_chain
  | with_reducible apply w_un
  | with_reducible apply w_neg
  | with_reducible apply w_add
  | with_reducible apply w_sub
  | ((with_reducible apply w_mod); (focus (walk_at "num"; done)))
  | ((with_reducible apply w_mul); (focus (walk_at "num"; done)))
  | ((with_reducible apply w_fdiv); (focus (walk_at "num"; done)))
  | ((with_reducible apply w_pow); (focus (walk_at "num"; done)))
  | with_reducible apply w_lt
  | with_reducible apply w_le
  | with_reducible apply w_gt
  | with_reducible apply w_ge
  | with_reducible apply w_ltS
  | with_reducible apply w_geS
  | with_reducible apply w_inC
  | with_reducible apply w_notInC
  | with_reducible apply w_isN
  | with_reducible apply w_notN
  | with_reducible apply w_isB
  | with_reducible apply w_notB
  | ((with_reducible apply w_addS); (focus (walk_at "sz"; done)))
  | ((with_reducible apply w_ixL); (focus (walk_at "sq"; done)); (focus (walk_at "ix"; done)))
  | ((with_reducible apply w_ixT); (focus (walk_at "hp"; done)); (focus (walk_at "ix"; done)))
  | ((with_reducible apply w_ixS); (focus (walk_at "sz"; done)); (focus (walk_at "ix"; done)))
  | with_reducible apply w_gSub
  | ((with_reducible apply w_gTup); (focus (walk_at "hp"; done)); (focus (exact rfl)))
  | with_reducible apply w_gCons
  | with_reducible apply w_gNil
  | ((with_reducible apply w_aug); (focus (exact rfl)))
  | with_reducible apply w_ipI
  | ((with_reducible apply w_eq); (focus (exact rfl)))
  | ((with_reducible apply w_ne); (focus (exact rfl)))
  | with_reducible apply w_max
  | with_reducible apply w_min
  | with_reducible apply w_abs
  | with_reducible apply w_intB
  | with_reducible apply w_intI
  | with_reducible apply w_tup1
  | with_reducible apply w_lst1
  | with_reducible apply w_sl
  | with_reducible apply w_part
  | with_reducible apply w_noPart
  | with_reducible apply w_isint
  | ((with_reducible apply w_slS); (focus (walk_at "sz"; done)))
  | with_reducible apply w_iteT
  | with_reducible apply w_iteF
  | with_reducible apply w_iteN
  | ((with_reducible apply w_iteYes); (focus (exact rfl)))
  | ((with_reducible apply w_iteNo); (focus (exact rfl)))
  | ((with_reducible apply w_lenL); (focus (walk_at "sq"; done)))
  | ((with_reducible apply w_lenT); (focus (walk_at "hp"; done)))
  | ((with_reducible apply w_lenS); (focus (walk_at "sz"; done)))
  | with_reducible apply w_lc
  | with_reducible apply w_for
  | with_reducible apply w_yes
  | ((with_reducible apply w_wipe); (focus (exact rfl)))
  | with_reducible apply w_iList
  | with_reducible apply w_iTup
  | with_reducible apply w_iStr
  | with_reducible apply w_iRng1
  | with_reducible apply w_iRng2
  | with_reducible apply w_iZip
  | with_reducible apply w_iEnum
  | ((with_reducible apply d_iList); (focus (walk_at "sq"; done)))
  | ((with_reducible apply d_iTup); (focus (walk_at "hp"; done)))
  | with_reducible apply d_iStr
  | ((with_reducible apply d_iRng1); (focus (walk_at "num"; done)); (focus (walk_at "num"; done)))
  | ((with_reducible apply d_iRng2); (focus (walk_at "num"; done)); (focus (walk_at "num"; done)); (focus (walk_at "num"; done)); (focus (walk_at "num"; done)))
  | ((with_reducible apply d_iZip); (focus (walk_at "sq"; done)); (focus (walk_at "sq"; done)))
  | ((with_reducible apply d_iEnum); (focus (walk_at "sq"; done)))
  | walk_at "w2")
local macro_rules | `(tactic| walk_at "w2") => `(tactic| fail)
local macro_rules | `(tactic| walk_at "wn") => `(tactic| repeat walk_at "w1")
local macro_rules | `(tactic| walk_at "w") => `(tactic| repeat (first | walk_at "w1" | with_reducible apply w_ret))
section
def mkE (w : Str) : List Ex → Ex
  | [a] => .cell a
  | [a, b] => if w = "add" then .add a b else if w = "less" then .less a b else .least a b
  | _ => .arg
/-- what is left of a word's parts -/
def gE (w : Str) (m : Nat) : Nat → List Ex → Tx → Option (Ex × Tx)
  | 0, es, l => if l.head? = some 93 then some (mkE w es, l.tail) else none
  | c + 1, [], l => (lrE m l).bind fun a => gE w m c [a.1] a.2
  | c + 1, e :: es, l => if l.head? = some 32 then (lrE m l.tail).bind fun a => gE w m c (e :: es ++ [a.1]) a.2 else none
def wrdE : List (Str × Nat) := [("cell", 1), ("add", 2), ("less", 2), ("least", 2)]
theorem lrE_words {m : Nat} {l : Tx} (ha : l.take 3 ≠ [97, 114, 103]) : 
    (∀ w c, (w, c) ∈ wrdE → l.take (w.length + 1) = tlS (w ++ "[") → lrE (m + 1) l = gE w m c [] (l.drop (w.length + 1))) ∧
    ((∀ w c, (w, c) ∈ wrdE → l.take (w.length + 1) ≠ tlS (w ++ "[")) → lrE (m + 1) l = (lrN l).map fun r => (Ex.num r.1, r.2)) := by
  have tcell : tlS ("cell" ++ "[" : Str) = [99, 101, 108, 108, 91] := by decide +kernel
  have tadd : tlS ("add" ++ "[" : Str) = [97, 100, 100, 91] := by decide +kernel
  have tless : tlS ("less" ++ "[" : Str) = [108, 101, 115, 115, 91] := by decide +kernel
  have tleast : tlS ("least" ++ "[" : Str) = [108, 101, 97, 115, 116, 91] := by decide +kernel
  have lc : ("cell" : Str).length = 4 := by decide +kernel
  have la : ("add" : Str).length = 3 := by decide +kernel
  have ll : ("less" : Str).length = 4 := by decide +kernel
  have le : ("least" : Str).length = 5 := by decide +kernel
  have pre : ∀ (i j : Nat) (a b : Tx), i ≤ j → l.take i = a → l.take j = b → a = b.take i := fun i j a b hij h1 h2 => by
    rw [← h1, ← h2, List.take_take, Nat.min_eq_left hij]
  constructor
  · intro w c hw h
    simp only [wrdE, List.mem_cons, Prod.mk.injEq, List.not_mem_nil, or_false] at hw
    rcases hw with ⟨rfl, rfl⟩ | ⟨rfl, rfl⟩ | ⟨rfl, rfl⟩ | ⟨rfl, rfl⟩
    · rw [tcell, lc] at h
      rw [lrE, if_neg ha, if_pos h, lc]
      rfl
    · rw [tadd, la] at h
      have n5 : l.take 5 ≠ [99, 101, 108, 108, 91] := fun z => by have := pre 4 5 _ _ (by decide) h z; cases this
      rw [lrE, if_neg ha, if_neg n5, if_pos h, la]
      show _ = (lrE m (l.drop 4)).bind fun a => gE "add" m 1 [a.1] a.2
      rfl
    · rw [tless, ll] at h
      have n5 : l.take 5 ≠ [99, 101, 108, 108, 91] := fun z => by rw [h] at z; cases z
      have n4 : l.take 4 ≠ [97, 100, 100, 91] := fun z => by have := pre 4 5 _ _ (by decide) z h; cases this
      rw [lrE, if_neg ha, if_neg n5, if_neg n4, if_pos h, ll]
      rfl
    · rw [tleast, le] at h
      have n5 : l.take 5 ≠ [99, 101, 108, 108, 91] := fun z => by have := pre 5 6 _ _ (by decide) z h; cases this
      have n5b : l.take 5 ≠ [108, 101, 115, 115, 91] := fun z => by have := pre 5 6 _ _ (by decide) z h; cases this
      have n4 : l.take 4 ≠ [97, 100, 100, 91] := fun z => by have := pre 4 6 _ _ (by decide) z h; cases this
      rw [lrE, if_neg ha, if_neg n5, if_neg n4, if_neg n5b, if_pos h, le]
      rfl
  · intro h
    have h1 := h "cell" 1 (by simp [wrdE])
    have h2 := h "add" 2 (by simp [wrdE])
    have h3 := h "less" 2 (by simp [wrdE])
    have h4 := h "least" 2 (by simp [wrdE])
    rw [tcell, lc] at h1
    rw [tadd, la] at h2
    rw [tless, ll] at h3
    rw [tleast, le] at h4
    rw [lrE, if_neg ha, if_neg h1, if_neg h2, if_neg h3, if_neg h4]
def sp__law_expression_read (n : Nat) : Sp := fun vs H Q _ => ∃ (x : Str) (k m : Nat), vs = [.str x, .int (k : Nat), .int (m : Nat)] ∧ m + 1 ≤ n ∧ x.length ≤ 3000 ∧ k ≤ 5000 ∧ FigL (tlS x) ∧ (lrE m ((tlS x).drop k) = none → ∀ H', Chg [] H H' → Q .non H') ∧
  ∀ e r, lrE m ((tlS x).drop k) = some (e, r) → ∀ (T : Addr) (v : V) (j : Nat) (H' : Hp), Chg [] H H' → H' T = some (.tup [v, .int (j : Nat)]) → Im H' v e.data → (tlS x).drop j = r → j ≤ x.length → Q (.ref T) H'
theorem no__law_expression_read (vs : List V) (H : Hp) (Q : VK) (E : XK) : ¬ sp__law_expression_read 0 vs H Q E := by
  rintro ⟨x, k, m, _, h, _⟩
  omega
def t__law_expression_read (K : PySem.W.Frag) (n : Nat) : TS :=
    tSeq (tIfS (tTest (tOp rEq (tVar 2) (tC (.int 0)))) (tRet (tC .non)) (tNext))
    (tSeq (tIfS (tTest (tOp rEq (tSl rSlS (tVar 0) (tPart (tVar 1)) (tPart (tOp oAdd (tVar 1) (tC (.int 3))))) (tC (.str "arg")))) (tRet (tTup (tCons (tTup (tCons (tC (.str "arg")) (tNil))) (tCons (tOp oAdd (tVar 1) (tC (.int 3))) (tNil))))) (tNext))
    (tSeq (tFor (iList K (tLst (tCons (tTup (tCons (tC (.str "cell")) (tCons (tC (.int 1)) (tNil)))) (tCons (tTup (tCons (tC (.str "add")) (tCons (tC (.int 2)) (tNil)))) (tCons (tTup (tCons (tC (.str "less")) (tCons (tC (.int 2)) (tNil)))) (tCons (tTup (tCons (tC (.str "least")) (tCons (tC (.int 2)) (tNil)))) (tNil))))))) (gTup K 2 (gCons (gName 3) (gCons (gName 4) (gNil)))) (tIfS (tTest (tOp rEq (tSl rSlS (tVar 0) (tPart (tVar 1)) (tPart (tOp oAdd (tOp oAdd (tVar 1) (tCB cLenS (tCons (tVar 3) (tNil)))) (tC (.int 1))))) (tOp oAddS (tVar 3) (tC (.str "["))))) (tSeq (tAsg (tLst (tCons (tVar 3) (tNil))) (gName 5))
    (tSeq (tAsg (tOp oAdd (tOp oAdd (tVar 1) (tCB cLenS (tCons (tVar 3) (tNil)))) (tC (.int 1))) (gName 6))
    (tSeq (tFor (iRng1 (tCons (tVar 4) (tNil))) (gName 7) (tSeq (tIfS (tAnd (tTest (tOp rEq (tVar 7) (tC (.int 1)))) (tTest (tOp rNe (tSl rSlS (tVar 0) (tPart (tVar 6)) (tPart (tOp oAdd (tVar 6) (tC (.int 1))))) (tC (.str " "))))) (tRet (tC .non)) (tNext))
    (tSeq (tAsg (tCall (sp__law_expression_read n) [] E0 (tCons (tVar 0) (tCons (tOp oAdd (tVar 6) (tCB cInt (tCons (tOp rEq (tVar 7) (tC (.int 1))) (tNil)))) (tCons (tOp oSub (tVar 2) (tC (.int 1))) (tNil))))) (gName 8))
    (tSeq (tIfS (tTest (tOp oIsN (tVar 8) (tC .non))) (tRet (tC .non)) (tNext))
    (tSeq (tDrop (tBM K "list" rAppend (tVar 5) (tCons (tOp (rIxT K) (tVar 8) (tC (.int 0))) (tNil))))
    (tAsg (tOp (rIxT K) (tVar 8) (tC (.int 1))) (gName 6)))))))
    (tRet (tIf (tTest (tOp rEq (tSl rSlS (tVar 0) (tPart (tVar 6)) (tPart (tOp oAdd (tVar 6) (tC (.int 1))))) (tC (.str "]")))) (tTup (tCons (tCB (cTupQ K) (tCons (tVar 5) (tNil))) (tCons (tOp oAdd (tVar 6) (tC (.int 1))) (tNil)))) (tC .non)))))) (tNext)))
    (tRet (tCall sp__law_number_read [] E0 (tCons (tVar 0) (tCons (tVar 1) (tNil)))))))
def t_er_in (K : PySem.W.Frag) (n : Nat) : TS :=
    tSeq (tAsg (tLst (tCons (tVar 3) (tNil))) (gName 5))
    (tSeq (tAsg (tOp oAdd (tOp oAdd (tVar 1) (tCB cLenS (tCons (tVar 3) (tNil)))) (tC (.int 1))) (gName 6))
    (tSeq (tFor (iRng1 (tCons (tVar 4) (tNil))) (gName 7) (tSeq (tIfS (tAnd (tTest (tOp rEq (tVar 7) (tC (.int 1)))) (tTest (tOp rNe (tSl rSlS (tVar 0) (tPart (tVar 6)) (tPart (tOp oAdd (tVar 6) (tC (.int 1))))) (tC (.str " "))))) (tRet (tC .non)) (tNext))
    (tSeq (tAsg (tCall (sp__law_expression_read n) [] E0 (tCons (tVar 0) (tCons (tOp oAdd (tVar 6) (tCB cInt (tCons (tOp rEq (tVar 7) (tC (.int 1))) (tNil)))) (tCons (tOp oSub (tVar 2) (tC (.int 1))) (tNil))))) (gName 8))
    (tSeq (tIfS (tTest (tOp oIsN (tVar 8) (tC .non))) (tRet (tC .non)) (tNext))
    (tSeq (tDrop (tBM K "list" rAppend (tVar 5) (tCons (tOp (rIxT K) (tVar 8) (tC (.int 0))) (tNil))))
    (tAsg (tOp (rIxT K) (tVar 8) (tC (.int 1))) (gName 6)))))))
    (tRet (tIf (tTest (tOp rEq (tSl rSlS (tVar 0) (tPart (tVar 6)) (tPart (tOp oAdd (tVar 6) (tC (.int 1))))) (tC (.str "]")))) (tTup (tCons (tCB (cTupQ K) (tCons (tVar 5) (tNil))) (tCons (tOp oAdd (tVar 6) (tC (.int 1))) (tNil)))) (tC .non)))))
def t_er_st (K : PySem.W.Frag) (n : Nat) : TS :=
    tSeq (tAsg (tCall (sp__law_expression_read n) [] E0 (tCons (tVar 0) (tCons (tOp oAdd (tVar 6) (tCB cInt (tCons (tOp rEq (tVar 7) (tC (.int 1))) (tNil)))) (tCons (tOp oSub (tVar 2) (tC (.int 1))) (tNil))))) (gName 8))
    (tSeq (tIfS (tTest (tOp oIsN (tVar 8) (tC .non))) (tRet (tC .non)) (tNext))
    (tSeq (tDrop (tBM K "list" rAppend (tVar 5) (tCons (tOp (rIxT K) (tVar 8) (tC (.int 0))) (tNil))))
    (tAsg (tOp (rIxT K) (tVar 8) (tC (.int 1))) (gName 6))))
theorem er_st {K : PySem.W.Frag} {n : Nat} {Q : VK} {H : Hp} {x w : Str} {k m c j e pos : Nat} {P : Addr} {vs : List V} {es : List Ex} {a8 : Option V} {De : Ends} {R : Option (Ex × Tx)} (hm : m + 1 ≤ n) (hl : x.length ≤ 3000) (fl : FigL (tlS x)) (he : e ≤ x.length) (hj : j ≤ 2) (hP : H P = some (.lst (.str w :: vs))) (iv : ImA H vs (es.map Ex.data)) (el : es.length = j) (hpos : pos = e + (if j = 1 then 1 else 0))
    (hR : R = (lrE m ((tlS x).drop pos)).bind fun a => gE w m (c - (j + 1)) (es ++ [a.1]) a.2) (q0 : R = none → ∀ H', Chg [] H H' → De.rt .non H')
    (hn : ∀ (e' : Nat) (vs' : List V) (es' : List Ex) (a8' : Option V) (H' : Hp), Chg [P] H H' → H' P = some (.lst (.str w :: vs')) → ImA H' vs' (es'.map Ex.data) → es'.length = j + 1 → e' ≤ x.length → R = gE w m (c - (j + 1)) es' ((tlS x).drop e') → De.nx [some (.str x), some (.int (k : Nat)), some (.int ((m + 1 : Nat) : Int)), some (.str w), some (.int (c : Nat)), some (.ref P), some (.int (e' : Nat)), some (.int (j : Nat)), a8'] H') :
    t_er_st K n De [some (.str x), some (.int (k : Nat)), some (.int ((m + 1 : Nat) : Int)), some (.str w), some (.int (c : Nat)), some (.ref P), some (.int (e : Nat)), some (.int (j : Nat)), a8] H := by
  unfold t_er_st
  walk_at "w"
  have ep : ((e : Nat) : Int) + (if decide (V.int ((j : Nat) : Int) = V.int 1) = true then 1 else 0) = ((pos : Nat) : Int) := by
    rw [hpos]
    by_cases h : j = 1
    · subst h; rw [if_pos rfl, decide_eq_true (show V.int ((1 : Nat) : Int) = V.int 1 from rfl), if_pos rfl]; omega
    · rw [if_neg h, decide_eq_false (fun z => h (by have := V.int.inj z; omega)), if_neg (by decide)]; omega
  have em : ((m + 1 : Nat) : Int) - 1 = ((m : Nat) : Int) := by omega
  rw [ep, em]
  refine ⟨x, pos, m, rfl, hm, hl, by rw [hpos]; split <;> omega, fl, fun eN H1 c1 => ?_, fun a r ea T v j2 H1 c1 hT im ed hj2 => ?_⟩
  · walk_at "w"
    exact q0 (by rw [hR, eN]; rfl) H1 c1
  · have hP1 := c1.at hP
    walk_at "w"
    refine w_append hP1 (by
      have := iv.length
      rw [List.length_map] at this
      rw [List.length_cons]
      exact Nat.lt_of_le_of_lt (show vs.length + 1 ≤ 100 by omega) (by decide)) fun H2 c2 hP2 => ?_
    have neT : T ≠ P := fun z => by rw [z, hP1] at hT; cases hT
    have hT2 := c2.at1 hT neT
    walk_at "w"
    refine hn j2 (vs ++ [v]) (es ++ [a]) _ H2 (c1.wide (by simp) |>.both c2) hP2 ?_ (by rw [List.length_append]; simp; omega) hj2 (by rw [hR, ea, ed]; rfl)
    rw [List.map_append]
    exact (RA.im ((c1.wide (M' := [P]) (by simp)).both c2) iv).snoc (im.im c2)
theorem gE_zero {w : Str} {m : Nat} {es : List Ex} {l : Tx} : gE w m 0 es l = if l.head? = some 93 then some (mkE w es, l.tail) else none := by
  cases es <;> rfl
theorem mkE_data {w : Str} {c : Nat} {es : List Ex} (hw : (w, c) ∈ wrdE) (h : es.length = c) : (mkE w es).data = .tuple (.str w :: es.map Ex.data) := by
  simp only [wrdE, List.mem_cons, Prod.mk.injEq, List.not_mem_nil, or_false] at hw
  rcases hw with ⟨rfl, rfl⟩ | ⟨rfl, rfl⟩ | ⟨rfl, rfl⟩ | ⟨rfl, rfl⟩
  · match es, h with
    | [a], _ => rfl
  · match es, h with
    | [a, b], _ => show (if ("add" : Str) = "add" then Ex.add a b else if ("add" : Str) = "less" then Ex.less a b else Ex.least a b).data = _; rw [if_pos rfl]; rfl
  · match es, h with
    | [a, b], _ => show (if ("less" : Str) = "add" then Ex.add a b else if ("less" : Str) = "less" then Ex.less a b else Ex.least a b).data = _; rw [if_neg (by decide +kernel), if_pos rfl]; rfl
  · match es, h with
    | [a, b], _ => show (if ("least" : Str) = "add" then Ex.add a b else if ("least" : Str) = "less" then Ex.less a b else Ex.least a b).data = _; rw [if_neg (by decide +kernel), if_neg (by decide +kernel)]; rfl
theorem wrdE_two {w : Str} {c : Nat} (hw : (w, c) ∈ wrdE) : 1 ≤ c ∧ c ≤ 2 ∧ w.length ≤ 5 := by
  simp only [wrdE, List.mem_cons, Prod.mk.injEq, List.not_mem_nil, or_false] at hw
  rcases hw with ⟨rfl, rfl⟩ | ⟨rfl, rfl⟩ | ⟨rfl, rfl⟩ | ⟨rfl, rfl⟩ <;> exact ⟨by decide, by decide, by decide +kernel⟩
theorem er_in {K : PySem.W.Frag} {n : Nat} {Q : VK} {H : Hp} {x w : Str} {k m c : Nat} {a5 a6 a7 a8 : Option V} {De : Ends} (hw : (w, c) ∈ wrdE) (hm : m + 1 ≤ n) (hl : x.length ≤ 3000) (hk : k ≤ 5000) (fl : FigL (tlS x)) (hkl : k + w.length + 1 ≤ x.length)
    (hR : lrE (m + 1) ((tlS x).drop k) = gE w m c [] ((tlS x).drop (k + w.length + 1))) (q0 : lrE (m + 1) ((tlS x).drop k) = none → ∀ H', Chg [] H H' → De.rt .non H')
    (q1 : ∀ e r, lrE (m + 1) ((tlS x).drop k) = some (e, r) → ∀ (T : Addr) (v : V) (j : Nat) (H' : Hp), Chg [] H H' → H' T = some (.tup [v, .int (j : Nat)]) → Im H' v e.data → (tlS x).drop j = r → j ≤ x.length → De.rt (.ref T) H') :
    t_er_in K n De [some (.str x), some (.int (k : Nat)), some (.int ((m + 1 : Nat) : Int)), some (.str w), some (.int (c : Nat)), a5, a6, a7, a8] H := by
  obtain ⟨c1, c2, lw⟩ := wrdE_two hw
  show tSeq _ (tSeq _ (tSeq (tFor _ _ (tSeq _ (t_er_st K n))) _)) De _ H
  have lx : x.length ≤ sizeLine := Nat.le_trans hl (by decide)
  have lws : w.length ≤ sizeLine := Nat.le_trans lw (by decide)
  have ex := tl_len x
  generalize eR : lrE (m + 1) ((tlS x).drop k) = R at hR q0 q1
  walk_at "w"
  refine k_lst (by walk_at "sz") fun P H0 nP c0 hP => ?_
  walk_at "w"
  have e0 : ((k : Nat) : Int) + ((w.length : Nat) : Int) + 1 = ((k + w.length + 1 : Nat) : Int) := by omega
  rw [e0]
  refine for_it walk_range (fun j σ Hn => Chg [] H Hn ∧ ∃ (e : Nat) (vs : List V) (es : List Ex) (a7 a8 : Option V), σ = [some (.str x), some (.int (k : Nat)), some (.int ((m + 1 : Nat) : Int)), some (.str w), some (.int (c : Nat)), some (.ref P), some (.int (e : Nat)), a7, a8] ∧ Hn P = some (.lst (.str w :: vs)) ∧ ImA Hn vs (es.map Ex.data) ∧ es.length = j ∧ e ≤ x.length ∧ R = gE w m (c - j) es ((tlS x).drop e))
    ⟨c0, k + w.length + 1, [], [], a7, a8, rfl, hP, .nil, rfl, hkl, hR⟩ (fun _ _ _ _ _ => trivial) (fun j y σ Hn Hn2 hj z yy => ?_) (fun σ Hn z => ?_)
  · obtain ⟨cn, e, vs, es, b7, b8, rfl, hPn, ivn, el, he, hRn⟩ := z
    obtain ⟨rfl, rfl⟩ := yy
    have hj2 : j < c := by omega
    have ej : (0 : Int) + ((j : Nat) : Int) = ((j : Nat) : Int) := by omega
    have st : ∀ pos, pos = e + (if j = 1 then 1 else 0) → R = (lrE m ((tlS x).drop pos)).bind (fun a => gE w m (c - (j + 1)) (es ++ [a.1]) a.2) → ∀ D2 : Ends, D2.rt = De.rt → D2.nx = (fun σ Hn => Chg [] H Hn ∧ ∃ (e : Nat) (vs : List V) (es : List Ex) (a7 a8 : Option V), σ = [some (.str x), some (.int (k : Nat)), some (.int ((m + 1 : Nat) : Int)), some (.str w), some (.int (c : Nat)), some (.ref P), some (.int (e : Nat)), a7, a8] ∧ Hn P = some (.lst (.str w :: vs)) ∧ ImA Hn vs (es.map Ex.data) ∧ es.length = j + 1 ∧ e ≤ x.length ∧ R = gE w m (c - (j + 1)) es ((tlS x).drop e)) →
        t_er_st K n D2 [some (.str x), some (.int (k : Nat)), some (.int ((m + 1 : Nat) : Int)), some (.str w), some (.int (c : Nat)), some (.ref P), some (.int (e : Nat)), some (.int (j : Nat)), b8] Hn2 := fun pos hpos hR2 D2 hrt hnx =>
      er_st (Q := Q) hm hl fl he (by omega) hPn ivn el hpos hR2 (fun z H' c' => by rw [hrt]; exact q0 z H' (cn.same c')) fun e' vs' es' a8' H' c' h1 h2 h3 h4 h5 => by
        rw [hnx]
        exact ⟨cn.one c' nP, e', vs', es', _, _, rfl, h1, h2, h3, h4, h5⟩
    rcases Nat.lt_or_ge j 1 with hj0 | hj1
    · have j0 : j = 0 := by omega
      subst j0
      have es0 : es = [] := List.length_eq_zero_iff.mp el
      subst es0
      walk_at "w"
      refine st e (by rw [if_neg (by decide)]; rfl) ?_ _ rfl rfl
      obtain ⟨c', rfl⟩ : ∃ c', c = c' + 1 := ⟨c - 1, by omega⟩
      rw [hRn, Nat.sub_zero, show c' + 1 - (0 + 1) = c' by omega]
      rfl
    · have j1 : j = 1 := by omega
      subst j1
      have cc : c = 2 := by omega
      subst cc
      match es, el with
      | [a], _ =>
        have hRn : R = if ((tlS x).drop e).head? = some 32 then (lrE m ((tlS x).drop e).tail).bind fun b => gE w m 0 ([a] ++ [b.1]) b.2 else none := hRn
        walk_at "w"
        rw [one_sign x e 32 _ bk_stx]
        refine w_iteD (fun h => ?_) (fun h => ?_)
        · rw [if_pos h, List.tail_drop] at hRn
          refine w_next ?_
          exact st (e + 1) (by rw [if_pos rfl]) hRn _ rfl rfl
        · rw [if_neg h] at hRn
          walk_at "w"
          exact q0 hRn Hn2 cn
  · obtain ⟨cn, e, vs, es, b7, b8, rfl, hPn, ivn, el, he, hRn⟩ := z
    have ec : ((c : Nat) : Int).toNat = c := by omega
    rw [ec] at el hRn
    rw [Nat.sub_self, gE_zero] at hRn
    walk_at "w"
    rw [one_sign x e 93 _ rb_stx]
    refine w_iteD (fun h => ?_) (fun h => ?_)
    · rw [if_pos h] at hRn
      walk_at "w"
      refine w_tupL hPn fun Tp H5 nT c5 hT => ?_
      walk_at "w"
      refine k_tup (by walk_at "sz") fun T H6 nT6 c6 hT6 => ?_
      have ee : ((e : Nat) : Int) + 1 = ((e + 1 : Nat) : Int) := by omega
      rw [ee] at hT6
      refine q1 _ _ hRn T _ (e + 1) H6 ((cn.same c5).same c6) hT6 ?_ ?_ ?_
      · rw [mkE_data hw el]
        exact .tup (c6.at hT) (.cons (.str w) (ivn.im (c5.same c6)))
      · rw [List.tail_drop]
      · have : e < (tlS x).length := by
          rw [List.head?_drop] at h
          exact (List.getElem?_eq_some_iff.mp h).1
        omega
    · rw [if_neg h] at hRn
      walk_at "w"
      exact q0 hRn Hn cn
theorem pure__law_expression_read {K : PySem.W.Frag} (n : Nat) (vs : List V) (H : Hp) (Q : VK) (E : XK) (h : sp__law_expression_read (n + 1) vs H Q E) : t__law_expression_read K n (fin Q) (start ["text", "at", "most", "word", "many", "parts", "end", "j", "got"] vs) H := by
  obtain ⟨x, k, m, rfl, hm, hl, hk, fl, q0, q1⟩ := h
  show t__law_expression_read K n _ [some (.str x), some (.int (k : Nat)), some (.int (m : Nat)), none, none, none, none, none, none] H
  show tSeq _ (tSeq _ (tSeq (tFor _ _ (tIfS _ (t_er_in K n) tNext)) _)) (fin Q) _ H
  have lx : x.length ≤ sizeLine := Nat.le_trans hl (by decide)
  have ex := tl_len x
  walk_at "w"
  refine w_iteD (fun h => ?_) (fun h => ?_)
  · have h0 : m = 0 := by have := V.int.inj h; omega
    subst h0
    walk_at "w"
    exact q0 rfl H .refl
  obtain ⟨m', rfl⟩ : ∃ m', m = m' + 1 := ⟨m - 1, by
    have : m ≠ 0 := fun z => h (by rw [z]; rfl)
    omega⟩
  have cut : ∀ (d : Nat) (z : Str), decide (V.str (cutS x (some ((k : Nat) : Int)) (some (((k + d : Nat) : Nat) : Int))) = V.str z) = decide (((tlS x).drop k).take d = tlS z) := fun d z => by
    rw [cutS_nat, Nat.add_sub_cancel_left]
    by_cases h : ((tlS x).drop k).take d = tlS z
    · rw [decide_eq_true h, decide_eq_true (by rw [h, stx_of])]
    · rw [decide_eq_false h, decide_eq_false fun w => h (by
        have := V.str.inj w
        rw [← this, tl_stx])]
  walk_at "w"
  rw [show ((k : Nat) : Int) + 3 = ((k + 3 : Nat) : Int) by omega, cut 3, tl_arg]
  refine w_iteD (fun h => ?_) (fun ha => ?_)
  · have el : lrE (m' + 1) ((tlS x).drop k) = some (.arg, ((tlS x).drop k).drop 3) := by rw [lrE, if_pos h]
    walk_at "w"
    refine k_tup (by walk_at "sz") fun T H1 nT c1 hT => ?_
    walk_at "w"
    refine k_tup (by walk_at "sz") fun T2 H2 nT2 c2 hT2 => ?_
    rw [show ((k : Nat) : Int) + 3 = ((k + 3 : Nat) : Int) by omega] at hT2
    refine q1 _ _ el T2 _ (k + 3) H2 (c1.same c2) hT2 (.tup (c2.at hT) (.cons (.str _) .nil)) (by rw [List.drop_drop]) ?_
    have := congrArg List.length h
    rw [List.length_take, List.length_drop] at this
    simp only [List.length_cons, List.length_nil] at this
    omega
  obtain ⟨wm, wn⟩ := lrE_words (m := m') ha
  walk_at "w"
  refine k_tup (by walk_at "sz") fun t0 H1 n0 c1 h0 => ?_
  walk_at "w"
  refine k_tup (by walk_at "sz") fun t1 H2 n1 c2 h1 => ?_
  walk_at "w"
  refine k_tup (by walk_at "sz") fun t2 H3 n2 c3 h2 => ?_
  walk_at "w"
  refine k_tup (by walk_at "sz") fun t3 H4 n3 c4 h3 => ?_
  walk_at "w"
  refine k_lst (by walk_at "sz") fun L H5 nL c5 hL => ?_
  have c05 : Chg [] H H5 := (((c1.same c2).same c3).same c4).same c5
  have tup : ∀ (i : Nat) (v : V), ([.ref t0, .ref t1, .ref t2, .ref t3] : List V)[i]? = some v → ∃ (t : Addr) (w : Str) (c : Nat), v = .ref t ∧ wrdE[i]? = some (w, c) ∧ H5 t = some (.tup [.str w, .int (c : Nat)]) := fun i v hv => by
    match i, hv with
    | 0, hv => cases hv; exact ⟨t0, "cell", 1, rfl, rfl, c5.at (c4.at (c3.at (c2.at h0)))⟩
    | 1, hv => cases hv; exact ⟨t1, "add", 2, rfl, rfl, c5.at (c4.at (c3.at h1))⟩
    | 2, hv => cases hv; exact ⟨t2, "less", 2, rfl, rfl, c5.at (c4.at h2)⟩
    | 3, hv => cases hv; exact ⟨t3, "least", 2, rfl, rfl, c5.at h3⟩
    | i + 4, hv => simp at hv
  walk_at "w"
  refine for_it (walk_list (K := K) (a := L) (xs := [.ref t0, .ref t1, .ref t2, .ref t3])) (fun i σ Hn => Chg [] H5 Hn ∧ (∃ y3 y4 y5 y6 y7 y8, σ = [some (.str x), some (.int (k : Nat)), some (.int ((m' + 1 : Nat) : Int)), y3, y4, y5, y6, y7, y8]) ∧ ∀ (j : Nat) (w : Str) (c : Nat), j < i → wrdE[j]? = some (w, c) → ((tlS x).drop k).take (w.length + 1) ≠ tlS (w ++ "["))
    ⟨.refl, ⟨_, _, _, _, _, _, rfl⟩, fun j w c h => by omega⟩ (fun i σ Hn _ z => sqL (z.1.at hL)) (fun i y σ Hn Hn2 hi z yy => ?_) (fun σ Hn z => ?_)
  · obtain ⟨cn, ⟨y3, y4, y5, y6, y7, y8, rfl⟩, nom⟩ := z
    obtain ⟨rfl, ev⟩ := yy
    obtain ⟨t, w, c, rfl, ew, ht⟩ := tup i _ ev
    have htn := cn.at ht
    have hmem : (w, c) ∈ wrdE := List.mem_of_getElem? ew
    obtain ⟨_, _, lw⟩ := wrdE_two hmem
    have lws : w.length ≤ sizeLine := Nat.le_trans lw (by decide)
    walk_at "w"
    rw [show ((k : Nat) : Int) + ((w.length : Nat) : Int) + 1 = ((k + (w.length + 1) : Nat) : Int) by omega, cut (w.length + 1)]
    refine w_iteD (fun h => ?_) (fun h => ?_)
    · have hkl : k + w.length + 1 ≤ x.length := by
        have e1 := congrArg List.length h
        have e2 : (tlS (w ++ "[")).length = w.length + 1 := by rw [← tl_len, len_app, len_lb]
        rw [List.length_take, List.length_drop, e2] at e1
        omega
      have hR : lrE (m' + 1) ((tlS x).drop k) = gE w m' c [] ((tlS x).drop (k + w.length + 1)) := by
        rw [wm w c hmem h, List.drop_drop, Nat.add_assoc]
      exact er_in (Q := Q) hmem (by omega) hl hk fl hkl hR (fun z H' c' => q0 z H' ((c05.same cn).same c')) fun e r ee T v j H' c' hT im ed hj => q1 e r ee T v j H' ((c05.same cn).same c') hT im ed hj
    · refine w_next ?_
      refine ⟨cn, ⟨_, _, _, _, _, _, rfl⟩, fun j w2 c2 hj hj2 => ?_⟩
      rcases Nat.lt_or_ge j i with z | z
      · exact nom j w2 c2 z hj2
      · have : j = i := by omega
        subst this
        rw [ew] at hj2
        cases hj2
        exact h
  · obtain ⟨cn, ⟨y3, y4, y5, y6, y7, y8, rfl⟩, nom⟩ := z
    have en : lrE (m' + 1) ((tlS x).drop k) = (lrN ((tlS x).drop k)).map fun r => (Ex.num r.1, r.2) := wn fun w c hw => by
      obtain ⟨j, hj⟩ := List.getElem?_of_mem hw
      have hj4 : j < 4 := (List.getElem?_eq_some_iff.mp hj).1
      exact nom j w c hj4 hj
    walk_at "w"
    refine ⟨x, k, rfl, hl, hk, fl, fun eN => q0 (by rw [en, eN]; rfl) Hn (c05.same cn), fun i r ei T j H' c' hT ed hj => q1 (.num i) r (by rw [en, ei]; rfl) T (.int i) j H' ((c05.same cn).same c') hT (.int i) ed hj⟩
end
section
def sp__law_step_read : Sp := fun vs H Q _ => ∃ (x : Str) (k : Nat), vs = [.str x, .int (k : Nat)] ∧ x.length ≤ 3000 ∧ k ≤ 4000 ∧ FigL (tlS x) ∧ (lrS ((tlS x).drop k) = none → ∀ H', Chg [] H H' → Q .non H') ∧
  ∀ s r, lrS ((tlS x).drop k) = some (s, r) → ∀ (T : Addr) (v : V) (j : Nat) (H' : Hp), Chg [] H H' → H' T = some (.tup [v, .int (j : Nat)]) → Im H' v s.data → (tlS x).drop j = r → j ≤ x.length → Q (.ref T) H'
def t__law_step_read (K : PySem.W.Frag) : TS :=
    tSeq (tAsg (tCall sp__law_letters [] E0 (tCons (tVar 0) (tCons (tVar 1) (tNil)))) (gName 2))
    (tSeq (tAsg (tSl rSlS (tVar 0) (tPart (tVar 1)) (tPart (tVar 2))) (gName 3))
    (tSeq (tIfS (tTest (tOp rEq (tVar 3) (tC (.str "wait")))) (tRet (tTup (tCons (tTup (tCons (tC (.str "wait")) (tNil))) (tCons (tVar 2) (tNil))))) (tNext))
    (tSeq (tIfS (tOr (tTest (tOp (rIn K true) (tVar 3) (tLst (tCons (tC (.str "cell")) (tCons (tC (.str "give")) (tCons (tC (.str "fork")) (tCons (tC (.str "call")) (tCons (tC (.str "skip")) (tNil))))))))) (tTest (tOp rNe (tSl rSlS (tVar 0) (tPart (tVar 2)) (tPart (tOp oAdd (tVar 2) (tC (.int 1))))) (tC (.str " "))))) (tRet (tC .non)) (tNext))
    (tSeq (tAsg (tCall sp__law_letters [] E0 (tCons (tVar 0) (tCons (tOp oAdd (tVar 2) (tC (.int 1))) (tNil)))) (gName 4))
    (tSeq (tAsg (tTup (tCons (tSl rSlS (tVar 0) (tPart (tOp oAdd (tVar 2) (tC (.int 1)))) (tPart (tVar 4))) (tCons (tVar 4) (tNil)))) (gName 5))
    (tSeq (tIfS (tOr (tTest (tOp rEq (tVar 3) (tC (.str "cell")))) (tTest (tOp rEq (tVar 3) (tC (.str "skip"))))) (tAsg (tCall (sp__law_expression_read 6) [] E0 (tCons (tVar 0) (tCons (tOp oAdd (tVar 2) (tC (.int 1))) (tCons (tC (.int 5)) (tNil))))) (gName 5)) (tNext))
    (tSeq (tIfS (tOr (tTest (tOp oIsN (tVar 5) (tC .non))) (tTest (tOp rNe (tSl rSlS (tVar 0) (tPart (tOp (rIxT K) (tVar 5) (tC (.int 1)))) (tPart (tOp oAdd (tOp (rIxT K) (tVar 5) (tC (.int 1))) (tC (.int 1))))) (tC (.str " "))))) (tRet (tC .non)) (tNext))
    (tSeq (tAsg (tCall (sp__law_expression_read 6) [] E0 (tCons (tVar 0) (tCons (tOp oAdd (tOp (rIxT K) (tVar 5) (tC (.int 1))) (tC (.int 1))) (tCons (tC (.int 5)) (tNil))))) (gName 6))
    (tSeq (tIfS (tTest (tOp rEq (tVar 3) (tC (.str "skip")))) (tAsg (tCall sp__law_number_read [] E0 (tCons (tVar 0) (tCons (tOp oAdd (tOp (rIxT K) (tVar 5) (tC (.int 1))) (tC (.int 1))) (tNil)))) (gName 6)) (tNext))
    (tRet (tIf (tTest (tOp oIsN (tVar 6) (tC .non))) (tC .non) (tTup (tCons (tTup (tCons (tVar 3) (tCons (tOp (rIxT K) (tVar 5) (tC (.int 0))) (tCons (tOp (rIxT K) (tVar 6) (tC (.int 0))) (tNil))))) (tCons (tOp (rIxT K) (tVar 6) (tC (.int 1))) (tNil)))))))))))))))
def t_sr_end (K : PySem.W.Frag) : TS :=
    tSeq (tIfS (tOr (tTest (tOp oIsN (tVar 5) (tC .non))) (tTest (tOp rNe (tSl rSlS (tVar 0) (tPart (tOp (rIxT K) (tVar 5) (tC (.int 1)))) (tPart (tOp oAdd (tOp (rIxT K) (tVar 5) (tC (.int 1))) (tC (.int 1))))) (tC (.str " "))))) (tRet (tC .non)) (tNext))
    (tSeq (tAsg (tCall (sp__law_expression_read 6) [] E0 (tCons (tVar 0) (tCons (tOp oAdd (tOp (rIxT K) (tVar 5) (tC (.int 1))) (tC (.int 1))) (tCons (tC (.int 5)) (tNil))))) (gName 6))
    (tSeq (tIfS (tTest (tOp rEq (tVar 3) (tC (.str "skip")))) (tAsg (tCall sp__law_number_read [] E0 (tCons (tVar 0) (tCons (tOp oAdd (tOp (rIxT K) (tVar 5) (tC (.int 1))) (tC (.int 1))) (tNil)))) (gName 6)) (tNext))
    (tRet (tIf (tTest (tOp oIsN (tVar 6) (tC .non))) (tC .non) (tTup (tCons (tTup (tCons (tVar 3) (tCons (tOp (rIxT K) (tVar 5) (tC (.int 0))) (tCons (tOp (rIxT K) (tVar 6) (tC (.int 0))) (tNil))))) (tCons (tOp (rIxT K) (tVar 6) (tC (.int 1))) (tNil))))))))
def t_sr_mid (K : PySem.W.Frag) : TS :=
    tSeq (tAsg (tCall sp__law_letters [] E0 (tCons (tVar 0) (tCons (tOp oAdd (tVar 2) (tC (.int 1))) (tNil)))) (gName 4))
    (tSeq (tAsg (tTup (tCons (tSl rSlS (tVar 0) (tPart (tOp oAdd (tVar 2) (tC (.int 1)))) (tPart (tVar 4))) (tCons (tVar 4) (tNil)))) (gName 5))
    (tSeq (tIfS (tOr (tTest (tOp rEq (tVar 3) (tC (.str "cell")))) (tTest (tOp rEq (tVar 3) (tC (.str "skip"))))) (tAsg (tCall (sp__law_expression_read 6) [] E0 (tCons (tVar 0) (tCons (tOp oAdd (tVar 2) (tC (.int 1))) (tCons (tC (.int 5)) (tNil))))) (gName 5)) (tNext))
    (tSeq (tIfS (tOr (tTest (tOp oIsN (tVar 5) (tC .non))) (tTest (tOp rNe (tSl rSlS (tVar 0) (tPart (tOp (rIxT K) (tVar 5) (tC (.int 1)))) (tPart (tOp oAdd (tOp (rIxT K) (tVar 5) (tC (.int 1))) (tC (.int 1))))) (tC (.str " "))))) (tRet (tC .non)) (tNext))
    (tSeq (tAsg (tCall (sp__law_expression_read 6) [] E0 (tCons (tVar 0) (tCons (tOp oAdd (tOp (rIxT K) (tVar 5) (tC (.int 1))) (tC (.int 1))) (tCons (tC (.int 5)) (tNil))))) (gName 6))
    (tSeq (tIfS (tTest (tOp rEq (tVar 3) (tC (.str "skip")))) (tAsg (tCall sp__law_number_read [] E0 (tCons (tVar 0) (tCons (tOp oAdd (tOp (rIxT K) (tVar 5) (tC (.int 1))) (tC (.int 1))) (tNil)))) (gName 6)) (tNext))
    (tRet (tIf (tTest (tOp oIsN (tVar 6) (tC .non))) (tC .non) (tTup (tCons (tTup (tCons (tVar 3) (tCons (tOp (rIxT K) (tVar 5) (tC (.int 0))) (tCons (tOp (rIxT K) (tVar 6) (tC (.int 0))) (tNil))))) (tCons (tOp (rIxT K) (tVar 6) (tC (.int 1))) (tNil)))))))))))
def t_sr_r (K : PySem.W.Frag) : TS :=
    tRet (tIf (tTest (tOp oIsN (tVar 6) (tC .non))) (tC .non) (tTup (tCons (tTup (tCons (tVar 3) (tCons (tOp (rIxT K) (tVar 5) (tC (.int 0))) (tCons (tOp (rIxT K) (tVar 6) (tC (.int 0))) (tNil))))) (tCons (tOp (rIxT K) (tVar 6) (tC (.int 1))) (tNil)))))
theorem sr_ret {K : PySem.W.Frag} {Q : VK} {H H1 : Hp} {x w : Str} {k e mid p1 : Nat} {O T2 : Addr} {v1 v2 : V} {d1 d2 : PyData} {j2 : Nat} {s : Stp} {r : Tx} {R : Option (Stp × Tx)} (hO : H O = some (.tup [v1, .int (p1 : Nat)])) (im : Im H v1 d1) (c1 : Chg [] H H1) (hT2 : H1 T2 = some (.tup [v2, .int (j2 : Nat)])) (im2 : Im H1 v2 d2) (hd : s.data = .tuple [.str w, d1, d2]) (hR : R = some (s, r)) (hr : (tlS x).drop j2 = r) (hj : j2 ≤ x.length)
    (q1 : ∀ s r, R = some (s, r) → ∀ (T : Addr) (v : V) (j : Nat) (H' : Hp), Chg [] H H' → H' T = some (.tup [v, .int (j : Nat)]) → Im H' v s.data → (tlS x).drop j = r → j ≤ x.length → Q (.ref T) H') :
    t_sr_r K (fin Q) [some (.str x), some (.int (k : Nat)), some (.int (e : Nat)), some (.str w), some (.int (mid : Nat)), some (.ref O), some (.ref T2)] H1 := by
  unfold t_sr_r
  have hO1 := c1.at hO
  walk_at "w"
  refine k_tup (by walk_at "sz") fun A H2 nA c2 hA => ?_
  walk_at "w"
  refine k_tup (by walk_at "sz") fun B H3 nB c3 hB => ?_
  refine q1 s r hR B (.ref A) j2 H3 ((c1.same c2).same c3) hB ?_ hr hj
  rw [hd]
  exact .tup (c3.at hA) (.cons (.str w) (.cons (im.im ((c1.same c2).same c3)) (.cons (im2.im (c2.same c3)) .nil)))
theorem sr_end {K : PySem.W.Frag} {Q : VK} {H : Hp} {x w : Str} {k e mid p1 : Nat} {O : Addr} {v1 : V} {d1 : PyData} {a6 : Option V} {kE : Ex → Stp} {kS : Int → Stp} {R : Option (Stp × Tx)} (hl : x.length ≤ 3000) (fl : FigL (tlS x)) (hp : p1 ≤ x.length) (hO : H O = some (.tup [v1, .int (p1 : Nat)])) (im : Im H v1 d1)
    (hE : w ≠ "skip" → ∀ b, (kE b).data = .tuple [.str w, d1, b.data]) (hS : w = "skip" → ∀ i, (kS i).data = .tuple [.str w, d1, .int i])
    (hR : R = if ((tlS x).drop p1).head? = some 32 then (if w = "skip" then (lrN ((tlS x).drop (p1 + 1))).map fun b => (kS b.1, b.2) else (lrE 5 ((tlS x).drop (p1 + 1))).map fun b => (kE b.1, b.2)) else none)
    (q0 : R = none → ∀ H', Chg [] H H' → Q .non H') (q1 : ∀ s r, R = some (s, r) → ∀ (T : Addr) (v : V) (j : Nat) (H' : Hp), Chg [] H H' → H' T = some (.tup [v, .int (j : Nat)]) → Im H' v s.data → (tlS x).drop j = r → j ≤ x.length → Q (.ref T) H') :
    t_sr_end K (fin Q) [some (.str x), some (.int (k : Nat)), some (.int (e : Nat)), some (.str w), some (.int (mid : Nat)), some (.ref O), a6] H := by
  unfold t_sr_end
  have lx : x.length ≤ sizeLine := Nat.le_trans hl (by decide)
  walk_at "w"
  rw [one_sign x p1 32 _ bk_stx]
  have e1 : ((p1 : Nat) : Int) + 1 = ((p1 + 1 : Nat) : Int) := by omega
  refine w_iteD (fun h => ?_) (fun h => ?_)
  · rw [if_pos h] at hR
    walk_at "w"
    rw [e1]
    have skip : ∀ {b6 : Option V} {H1 : Hp}, Chg [] H H1 → w = "skip" → tSeq (tAsg (tCall sp__law_number_read [] E0 (tCons (tVar 0) (tCons (tOp oAdd (tOp (rIxT K) (tVar 5) (tC (.int 1))) (tC (.int 1))) tNil))) (gName 6)) (t_sr_r K) (fin Q) [some (.str x), some (.int (k : Nat)), some (.int (e : Nat)), some (.str w), some (.int (mid : Nat)), some (.ref O), b6] H1 := fun {b6 H1} c1 hw => by
      rw [if_pos hw] at hR
      have hO1 := c1.at hO
      walk_at "w"
      rw [e1]
      refine ⟨x, p1 + 1, rfl, hl, by omega, fl, fun nN => ?_, fun i r ei T3 j3 H2 c2 hT3 ed3 hj3 => ?_⟩
      · walk_at "w"
        unfold t_sr_r
        walk_at "w"
        exact q0 (by rw [hR, nN]; rfl) H1 c1
      · walk_at "w"
        exact sr_ret hO im (c1.same c2) hT3 (.int i) (hS hw i) (by rw [hR, ei]; rfl) ed3 hj3 q1
    refine ⟨x, p1 + 1, 5, rfl, by omega, hl, by omega, fl, fun eN H1 c1 => ?_, fun b r eb T2 v2 j2 H1 c1 hT2 im2 ed2 hj2 => ?_⟩
    · walk_at "w"
      refine w_iteD (fun hw => ?_) (fun hw => ?_)
      · exact skip c1 (V.str.inj hw)
      · rw [if_neg (fun z => hw (by rw [z]))] at hR
        refine w_next ?_
        show t_sr_r K (fin Q) _ H1
        unfold t_sr_r
        walk_at "w"
        exact q0 (by rw [hR, eN]; rfl) H1 c1
    · walk_at "w"
      refine w_iteD (fun hw => ?_) (fun hw => ?_)
      · exact skip c1 (V.str.inj hw)
      · have hws : w ≠ "skip" := fun z => hw (by rw [z])
        rw [if_neg hws] at hR
        refine w_next ?_
        exact sr_ret hO im c1 hT2 im2 (hE hws b) (by rw [hR, eb]; rfl) ed2 hj2 q1
  · rw [if_neg h] at hR
    walk_at "w"
    exact q0 hR H .refl
theorem sr_mid {K : PySem.W.Frag} {Q : VK} {H : Hp} {x w : Str} {k e : Nat} {a4 a5 a6 : Option V} {R : Option (Stp × Tx)} (hl : x.length ≤ 3000) (fl : FigL (tlS x)) (he : e + 1 ≤ x.length) (hw : w = "cell" ∨ w = "skip" ∨ w = "give" ∨ w = "fork" ∨ w = "call")
    (hR : R = if w = "cell" then (lrE 5 ((tlS x).drop (e + 1))).bind fun a => if a.2.head? = some 32 then (lrE 5 a.2.tail).map fun b => (Stp.cell a.1 b.1, b.2) else none
      else if w = "skip" then (lrE 5 ((tlS x).drop (e + 1))).bind fun a => if a.2.head? = some 32 then (lrN a.2.tail).map fun b => (Stp.skip a.1 b.1, b.2) else none
      else if w = "give" then lrNm .give ((tlS x).drop (e + 1)) else if w = "fork" then lrNm .fork ((tlS x).drop (e + 1)) else lrNm .call ((tlS x).drop (e + 1)))
    (q0 : R = none → ∀ H', Chg [] H H' → Q .non H') (q1 : ∀ s r, R = some (s, r) → ∀ (T : Addr) (v : V) (j : Nat) (H' : Hp), Chg [] H H' → H' T = some (.tup [v, .int (j : Nat)]) → Im H' v s.data → (tlS x).drop j = r → j ≤ x.length → Q (.ref T) H') :
    t_sr_mid K (fin Q) [some (.str x), some (.int (k : Nat)), some (.int (e : Nat)), some (.str w), a4, a5, a6] H := by
  show tSeq _ (tSeq _ (tSeq _ (t_sr_end K))) (fin Q) _ H
  have lx : x.length ≤ sizeLine := Nat.le_trans hl (by decide)
  have e1 : ((e : Nat) : Int) + 1 = ((e + 1 : Nat) : Int) := by omega
  have nw : ∀ {kk : Str → Ex → Stp} {l : Tx}, lrNm kk l = if (l.dropWhile isLow).head? = some 32 then (lrE 5 (l.dropWhile isLow).tail).map fun b => (kk (stx (l.takeWhile isLow)) b.1, b.2) else none := rfl
  obtain ⟨tk, dk⟩ := tw_take (p := isLow) ((tlS x).drop (e + 1))
  have ex := tl_len x
  have hN : (((tlS x).drop (e + 1)).takeWhile isLow).length ≤ x.length - (e + 1) := by
    have : (((tlS x).drop (e + 1)).takeWhile isLow).length ≤ ((tlS x).drop (e + 1)).length := (List.takeWhile_prefix _).length_le
    rw [List.length_drop] at this
    omega
  walk_at "w"
  rw [e1]
  refine ⟨x, e + 1, rfl, hl, by omega, ?_⟩
  walk_at "w"
  rw [e1, cutS_nat]
  generalize (((tlS x).drop (e + 1)).takeWhile isLow).length = N at tk dk hN
  rw [Nat.add_sub_cancel_left]
  refine k_tup (by walk_at "sz") fun O H1 nO c1 hO => ?_
  rw [← tk] at hO
  have named : ∀ {kk : Str → Ex → Stp}, w ≠ "skip" → (∀ y b, (kk y b).data = .tuple [.str w, .str y, b.data]) → R = lrNm kk ((tlS x).drop (e + 1)) → t_sr_end K (fin Q) [some (.str x), some (.int (k : Nat)), some (.int (e : Nat)), some (.str w), some (.int ((e + 1 + N : Nat) : Int)), some (.ref O), a6] H1 := fun {kk} hns hd hRn => by
    refine sr_end (kE := kk (stx (((tlS x).drop (e + 1)).takeWhile isLow))) (kS := fun i => kk (stx (((tlS x).drop (e + 1)).takeWhile isLow)) (.num i)) (R := R) (p1 := e + 1 + N) hl fl (by omega) hO (.str _) (fun _ b => hd _ b) (fun z => absurd z hns) ?_ (fun z H' c' => q0 z H' (c1.same c')) fun s r es T v j H' c' => q1 s r es T v j H' (c1.same c')
    rw [hRn, nw, dk, List.drop_drop, if_neg hns, List.tail_drop]
  have exq : w = "cell" ∨ w = "skip" → tSeq (tAsg (tCall (sp__law_expression_read 6) [] E0 (tCons (tVar 0) (tCons (tOp oAdd (tVar 2) (tC (.int 1))) (tCons (tC (.int 5)) tNil)))) (gName 5)) (t_sr_end K) (fin Q) [some (.str x), some (.int (k : Nat)), some (.int (e : Nat)), some (.str w), some (.int ((e + 1 + N : Nat) : Int)), some (.ref O), a6] H1 := fun hcs => by
    walk_at "w"
    rw [e1]
    refine ⟨x, e + 1, 5, rfl, by omega, hl, by omega, fl, fun eN H2 c2 => ?_, fun a r ea T2 v2 j2 H2 c2 hT2 im2 ed2 hj2 => ?_⟩
    · walk_at "w"
      unfold t_sr_end
      walk_at "w"
      refine q0 ?_ H2 (c1.same c2)
      rw [hR]
      rcases hcs with rfl | rfl
      · rw [if_pos rfl, eN]; rfl
      · rw [if_neg (by decide +kernel), if_pos rfl, eN]; rfl
    · walk_at "w"
      subst ed2
      rcases hcs with rfl | rfl
      · refine sr_end (kE := fun b => .cell a b) (kS := fun i => .cell a (.num i)) (R := R) (p1 := j2) hl fl hj2 hT2 im2 (fun _ b => rfl) (fun z => absurd z (by decide +kernel)) ?_ (fun z H' c' => q0 z H' ((c1.same c2).same c')) fun s r es T v j H' c' => q1 s r es T v j H' ((c1.same c2).same c')
        rw [hR, if_pos rfl, ea, if_neg (show ¬ ("cell" : Str) = "skip" by decide +kernel)]
        show (if ((tlS x).drop j2).head? = some 32 then (lrE 5 ((tlS x).drop j2).tail).map (fun b => (Stp.cell a b.1, b.2)) else none) = _
        rw [List.tail_drop]
      · refine sr_end (kE := fun b => .cell a b) (kS := fun i => .skip a i) (R := R) (p1 := j2) hl fl hj2 hT2 im2 (fun z => absurd rfl z) (fun _ i => rfl) ?_ (fun z H' c' => q0 z H' ((c1.same c2).same c')) fun s r es T v j H' c' => q1 s r es T v j H' ((c1.same c2).same c')
        rw [hR, if_neg (show ¬ ("skip" : Str) = "cell" by decide +kernel), if_pos rfl, ea, if_pos rfl]
        show (if ((tlS x).drop j2).head? = some 32 then (lrN ((tlS x).drop j2).tail).map (fun b => (Stp.skip a b.1, b.2)) else none) = _
        rw [List.tail_drop]
  walk_at "w"
  refine w_iteD (fun h => ?_) (fun h => ?_)
  · exact w_iteT (exq (.inl (V.str.inj h)))
  have n1 : w ≠ "cell" := fun z => h (by rw [z])
  walk_at "w"
  refine w_iteD (fun h => ?_) (fun h => ?_)
  · exact exq (.inr (V.str.inj h))
  have n2 : w ≠ "skip" := fun z => h (by rw [z])
  refine w_next ?_
  rw [if_neg n1, if_neg n2] at hR
  rcases hw with rfl | rfl | rfl | rfl | rfl
  · exact absurd rfl n1
  · exact absurd rfl n2
  · exact named (kk := .give) n2 (fun y b => rfl) (by rw [hR, if_pos rfl])
  · exact named (kk := .fork) n2 (fun y b => rfl) (by rw [hR, if_neg (by decide +kernel), if_pos rfl])
  · exact named (kk := .call) n2 (fun y b => rfl) (by rw [hR, if_neg (by decide +kernel), if_neg (by decide +kernel)])
theorem pure__law_step_read {K : PySem.W.Frag} (vs : List V) (H : Hp) (Q : VK) (E : XK) (h : sp__law_step_read vs H Q E) : t__law_step_read K (fin Q) (start ["text", "at", "end", "word", "mid", "one", "other"] vs) H := by
  obtain ⟨x, k, rfl, hl, hk, fl, q0, q1⟩ := h
  show t__law_step_read K _ [some (.str x), some (.int (k : Nat)), none, none, none, none, none] H
  show tSeq _ (tSeq _ (tSeq _ (tSeq _ (t_sr_mid K)))) (fin Q) _ H
  have lx : x.length ≤ sizeLine := Nat.le_trans hl (by decide)
  have ex := tl_len x
  obtain ⟨tk, dk⟩ := tw_take (p := isLow) ((tlS x).drop k)
  have hN : (((tlS x).drop k).takeWhile isLow).length ≤ x.length - k := by
    have : (((tlS x).drop k).takeWhile isLow).length ≤ ((tlS x).drop k).length := (List.takeWhile_prefix _).length_le
    rw [List.length_drop] at this
    omega
  generalize eR : lrS ((tlS x).drop k) = R at q0 q1
  unfold lrS at eR
  walk_at "w"
  refine ⟨x, k, rfl, hl, by omega, ?_⟩
  walk_at "w"
  rw [cutS_nat]
  generalize (((tlS x).drop k).takeWhile isLow).length = N at tk dk hN
  rw [Nat.add_sub_cancel_left, ← tk]
  rw [dk, List.drop_drop] at eR
  generalize ((tlS x).drop k).takeWhile isLow = W at eR tk ⊢
  obtain ⟨w, hw⟩ : ∃ w, w = stx W := ⟨_, rfl⟩
  have eW : W = tlS w := by rw [hw, tl_stx]
  rw [← hw]
  subst eW
  have wl : ∀ {z : Str} {t : Tx}, tlS z = t → (tlS w = t ↔ w = z) := fun e => by subst e; exact ⟨fun h => tl_inj h, fun h => by rw [h]⟩
  walk_at "w"
  refine w_iteD (fun h => ?_) (fun h => ?_)
  · have h := V.str.inj h
    rw [if_pos ((wl tl_wait).mpr h)] at eR
    walk_at "w"
    refine k_tup (by walk_at "sz") fun A H1 nA c1 hA => ?_
    walk_at "w"
    refine k_tup (by walk_at "sz") fun B H2 nB c2 hB => ?_
    have hk2 : k + N ≤ x.length := by
      rcases Nat.lt_or_ge x.length k with z | z
      · have n0 : N = 0 := by omega
        have e0 : (tlS x).drop k = [] := List.drop_of_length_le (by omega)
        rw [e0] at tk
        have : tlS w = [] := by rw [tk]; simp
        rw [h, tl_wait] at this
        cases this
      · omega
    exact q1 .wait _ eR.symm B (.ref A) (k + N) H2 (c1.same c2) hB (.tup (c2.at hA) (.cons (.str _) .nil)) rfl hk2
  have nw : w ≠ "wait" := fun z => h (by rw [z])
  rw [if_neg (fun z => nw ((wl tl_wait).mp z))] at eR
  walk_at "w"
  refine k_lst (by walk_at "sz") fun L H1 nL c1 hL => ?_
  refine w_notInL (sqL hL) rfl rfl ?_
  have ein : inV (.str w) [V.str "cell", V.str "give", V.str "fork", V.str "call", V.str "skip"] = decide (w ∈ (["cell", "give", "fork", "call", "skip"] : List Str)) := inV_str w ["cell", "give", "fork", "call", "skip"]
  rw [ein]
  refine ⟨_, rfl, ?_⟩
  refine w_iteN ?_
  have five : w ∈ (["cell", "give", "fork", "call", "skip"] : List Str) ↔ (w = "cell" ∨ w = "skip" ∨ w = "give" ∨ w = "fork" ∨ w = "call") := by
    simp only [List.mem_cons, List.not_mem_nil, or_false]
    constructor
    · rintro (h | h | h | h | h) <;> simp [h]
    · rintro (h | h | h | h | h) <;> simp [h]
  refine w_iteD (fun h5 => ?_) (fun h5 => ?_)
  · walk_at "w"
    rw [one_sign x (k + N) 32 _ bk_stx]
    refine w_iteD (fun h32 => ?_) (fun h32 => ?_)
    · rw [if_neg (fun z => z h32)] at eR
      have he : k + N + 1 ≤ x.length := by
        rw [List.head?_drop] at h32
        have := (List.getElem?_eq_some_iff.mp h32).1
        omega
      refine w_next ?_
      refine sr_mid (R := R) hl fl he (five.mp h5) ?_ (fun z H' c' => q0 z H' (c1.same c')) fun s r es T v j H' c' => q1 s r es T v j H' (c1.same c')
      rw [List.tail_drop] at eR
      rw [← eR]
      by_cases h1 : w = "cell"
      · rw [if_pos h1, if_pos ((wl tl_cell).mpr h1)]
      rw [if_neg h1, if_neg (fun z => h1 ((wl tl_cell).mp z))]
      by_cases h2 : w = "skip"
      · rw [if_pos h2, if_pos ((wl tl_skip).mpr h2)]
      rw [if_neg h2, if_neg (fun z => h2 ((wl tl_skip).mp z))]
      by_cases h3 : w = "give"
      · rw [if_pos h3, if_pos ((wl tl_give).mpr h3)]
      rw [if_neg h3, if_neg (fun z => h3 ((wl tl_give).mp z))]
      by_cases h4 : w = "fork"
      · rw [if_pos h4, if_pos ((wl tl_fork).mpr h4)]
      rw [if_neg h4, if_neg (fun z => h4 ((wl tl_fork).mp z))]
      have h6 : w = "call" := by
        rcases five.mp h5 with h | h | h | h | h
        · exact absurd h h1
        · exact absurd h h2
        · exact absurd h h3
        · exact absurd h h4
        · exact h
      rw [if_pos ((wl tl_call).mpr h6)]
    · rw [if_pos h32] at eR
      walk_at "w"
      exact q0 eR.symm H1 c1
  · walk_at "w"
    refine q0 ?_ H1 c1
    rw [← eR]
    split
    · rfl
    · rw [if_neg (fun z => h5 (five.mpr (.inl ((wl tl_cell).mp z)))), if_neg (fun z => h5 (five.mpr (.inr (.inl ((wl tl_skip).mp z))))), if_neg (fun z => h5 (five.mpr (.inr (.inr (.inl ((wl tl_give).mp z)))))), if_neg (fun z => h5 (five.mpr (.inr (.inr (.inr (.inl ((wl tl_fork).mp z))))))), if_neg (fun z => h5 (five.mpr (.inr (.inr (.inr (.inr ((wl tl_call).mp z)))))))]
end
section
theorem two_sign (x : Str) (k : Nat) (z : Str) (c d : Nat) (hz : tlS z = [c, d]) : decide (V.str (cutS x (some ((k : Nat) : Int)) (some (((k : Nat) : Int) + 2))) = V.str z) = decide (((tlS x).drop k).take 2 = [c, d]) := by
  rw [show (some (((k : Nat) : Int) + 2) : Option Int) = some ((k + 2 : Nat) : Int) from rfl, cutS_nat, Nat.add_sub_cancel_left]
  by_cases h : ((tlS x).drop k).take 2 = [c, d]
  · rw [decide_eq_true h, decide_eq_true (by rw [h, ← hz, stx_of])]
  · rw [decide_eq_false h, decide_eq_false fun w => h (by
      have := V.str.inj w
      rw [← hz, ← this, tl_stx])]
theorem col_stx : (":" : Str) = stx [58] := by decide +kernel
theorem com_stx : ("," : Str) = stx [44] := by decide +kernel
theorem lrS_adv {l r : Tx} {s : Stp} (h : lrS l = some (s, r)) : r.length < l.length := by
  have e := lrS_sound h
  have : 1 ≤ (tlS (shS s)).length := by
    rw [← tl_len]
    cases s with
    | wait => show 1 ≤ ("wait" : Str).length; decide +kernel
    | cell a b => show 1 ≤ ("cell" ++ " " ++ shE a ++ " " ++ shE b : Str).length; rw [len_app, len_app, len_app, len_app, len_bk]; omega
    | give a b => show 1 ≤ ("give" ++ " " ++ a ++ " " ++ shE b : Str).length; rw [len_app, len_app, len_app, len_app, len_bk]; omega
    | fork a b => show 1 ≤ ("fork" ++ " " ++ a ++ " " ++ shE b : Str).length; rw [len_app, len_app, len_app, len_app, len_bk]; omega
    | call a b => show 1 ≤ ("call" ++ " " ++ a ++ " " ++ shE b : Str).length; rw [len_app, len_app, len_app, len_app, len_bk]; omega
    | skip a k => show 1 ≤ ("skip" ++ " " ++ shE a ++ " " ++ Str.ofString (toString k) : Str).length; rw [len_app, len_app, len_app, len_app, len_bk]; omega
  rw [e, List.length_append]
  omega
def sp__law_helper_read : Sp := fun vs H Q _ => ∃ (x : Str) (k : Nat), vs = [.str x, .int (k : Nat)] ∧ x.length ≤ 3000 ∧ k ≤ 3002 ∧ FigL (tlS x) ∧ (lrH ((tlS x).drop k) = none → ∀ H', Chg [] H H' → Q .non H') ∧
  ∀ nm ss r, lrH ((tlS x).drop k) = some ((nm, ss), r) → ∀ (T T2 D : Addr) (us : List V) (j : Nat) (H' : Hp), Chg [] H H' → H' T = some (.tup [.ref T2, .int (j : Nat)]) → H' T2 = some (.tup [.str nm, .ref D]) → H D = none → H' D = some (.lst us) → ImA H' us (ss.map Stp.data) → (tlS x).drop j = r → j ≤ x.length → Q (.ref T) H'
def t__law_helper_read (K : PySem.W.Frag) : TS :=
    tSeq (tAsg (tCall sp__law_letters [] E0 (tCons (tVar 0) (tCons (tVar 1) (tNil)))) (gName 2))
    (tSeq (tAsg (tSl rSlS (tVar 0) (tPart (tVar 1)) (tPart (tVar 2))) (gName 3))
    (tSeq (tIfS (tTest (tOp rNe (tSl rSlS (tVar 0) (tPart (tVar 2)) (tPart (tOp oAdd (tVar 2) (tC (.int 1))))) (tC (.str ":")))) (tRet (tC .non)) (tNext))
    (tSeq (tAsg (tOp oAdd (tVar 2) (tC (.int 1))) (gName 2))
    (tSeq (tAsg (tLst (tNil)) (gName 4))
    (tSeq (tWhile (tTest (tOp rEq (tSl rSlS (tVar 0) (tPart (tVar 2)) (tPart (tOp oAdd (tVar 2) (tC (.int 1))))) (tOp (rIxL K) (tLst (tCons (tC (.str " ")) (tCons (tC (.str ",")) (tNil)))) (tCB cInt (tCons (tOp oNeE (tVar 4) (tLst (tNil))) (tNil)))))) (tSeq (tAsg (tCall sp__law_step_read [] E0 (tCons (tVar 0) (tCons (tOp oAdd (tOp oAdd (tVar 2) (tC (.int 1))) (tCB cInt (tCons (tOp oNeE (tVar 4) (tLst (tNil))) (tNil)))) (tNil)))) (gName 5))
    (tSeq (tIfS (tOr (tTest (tOp oIsN (tVar 5) (tC .non))) (tAnd (tTest (tOp oNeE (tVar 4) (tLst (tNil)))) (tTest (tOp rNe (tSl rSlS (tVar 0) (tPart (tVar 2)) (tPart (tOp oAdd (tVar 2) (tC (.int 2))))) (tC (.str ", ")))))) (tRet (tC .non)) (tNext))
    (tSeq (tDrop (tBM K "list" rAppend (tVar 4) (tCons (tOp (rIxT K) (tVar 5) (tC (.int 0))) (tNil))))
    (tAsg (tOp (rIxT K) (tVar 5) (tC (.int 1))) (gName 2))))))
    (tRet (tTup (tCons (tTup (tCons (tVar 3) (tCons (tVar 4) (tNil)))) (tCons (tVar 2) (tNil))))))))))
def t_hr_end (K : PySem.W.Frag) : TS :=
    tSeq (tWhile (tTest (tOp rEq (tSl rSlS (tVar 0) (tPart (tVar 2)) (tPart (tOp oAdd (tVar 2) (tC (.int 1))))) (tOp (rIxL K) (tLst (tCons (tC (.str " ")) (tCons (tC (.str ",")) (tNil)))) (tCB cInt (tCons (tOp oNeE (tVar 4) (tLst (tNil))) (tNil)))))) (tSeq (tAsg (tCall sp__law_step_read [] E0 (tCons (tVar 0) (tCons (tOp oAdd (tOp oAdd (tVar 2) (tC (.int 1))) (tCB cInt (tCons (tOp oNeE (tVar 4) (tLst (tNil))) (tNil)))) (tNil)))) (gName 5))
    (tSeq (tIfS (tOr (tTest (tOp oIsN (tVar 5) (tC .non))) (tAnd (tTest (tOp oNeE (tVar 4) (tLst (tNil)))) (tTest (tOp rNe (tSl rSlS (tVar 0) (tPart (tVar 2)) (tPart (tOp oAdd (tVar 2) (tC (.int 2))))) (tC (.str ", ")))))) (tRet (tC .non)) (tNext))
    (tSeq (tDrop (tBM K "list" rAppend (tVar 4) (tCons (tOp (rIxT K) (tVar 5) (tC (.int 0))) (tNil))))
    (tAsg (tOp (rIxT K) (tVar 5) (tC (.int 1))) (gName 2))))))
    (tRet (tTup (tCons (tTup (tCons (tVar 3) (tCons (tVar 4) (tNil)))) (tCons (tVar 2) (tNil)))))
def t_hr_st (K : PySem.W.Frag) : TS :=
    tSeq (tAsg (tCall sp__law_step_read [] E0 (tCons (tVar 0) (tCons (tOp oAdd (tOp oAdd (tVar 2) (tC (.int 1))) (tCB cInt (tCons (tOp oNeE (tVar 4) (tLst (tNil))) (tNil)))) (tNil)))) (gName 5))
    (tSeq (tIfS (tOr (tTest (tOp oIsN (tVar 5) (tC .non))) (tAnd (tTest (tOp oNeE (tVar 4) (tLst (tNil)))) (tTest (tOp rNe (tSl rSlS (tVar 0) (tPart (tVar 2)) (tPart (tOp oAdd (tVar 2) (tC (.int 2))))) (tC (.str ", ")))))) (tRet (tC .non)) (tNext))
    (tSeq (tDrop (tBM K "list" rAppend (tVar 4) (tCons (tOp (rIxT K) (tVar 5) (tC (.int 0))) (tNil))))
    (tAsg (tOp (rIxT K) (tVar 5) (tC (.int 1))) (gName 2))))
/-- what the loop over a helper's steps keeps -/
def HrW (x nm : Str) (k : Nat) (D : Addr) (H : Hp) (R : Option ((Str × List Stp) × Tx)) : Nat → L2.St → Hp → Prop := fun m σ Hn =>
  ∃ (e f : Nat) (ss : List Stp) (us : List V) (a5 : Option V), m = x.length - e ∧ Chg [] H Hn ∧ Hn D = some (.lst us) ∧ ImA Hn us (ss.map Stp.data) ∧ e ≤ x.length ∧ ss.length ≤ e ∧ x.length - e < f ∧ R = (lrSs f (!ss.isEmpty) ((tlS x).drop e)).map (fun t => ((nm, ss ++ t.1), t.2)) ∧ σ = [some (.str x), some (.int (k : Nat)), some (.int (e : Nat)), some (.str nm), some (.ref D), a5]
theorem hr_end {K : PySem.W.Frag} {Q : VK} {H H1 : Hp} {x nm : Str} {k e f0 : Nat} {D : Addr} {a5 : Option V} {R : Option ((Str × List Stp) × Tx)} (hf0 : x.length - e < f0) (hl : x.length ≤ 3000) (fl : FigL (tlS x)) (nD : H D = none) (c1 : Chg [] H H1) (hD : H1 D = some (.lst [])) (he : e ≤ x.length)
    (hR : R = (lrSs f0 false ((tlS x).drop e)).map fun t => ((nm, t.1), t.2)) (q0 : R = none → ∀ H', Chg [] H H' → Q .non H')
    (q1 : ∀ nm ss r, R = some ((nm, ss), r) → ∀ (T T2 D : Addr) (us : List V) (j : Nat) (H' : Hp), Chg [] H H' → H' T = some (.tup [.ref T2, .int (j : Nat)]) → H' T2 = some (.tup [.str nm, .ref D]) → H D = none → H' D = some (.lst us) → ImA H' us (ss.map Stp.data) → (tlS x).drop j = r → j ≤ x.length → Q (.ref T) H') :
    t_hr_end K (fin Q) [some (.str x), some (.int (k : Nat)), some (.int (e : Nat)), some (.str nm), some (.ref D), a5] H1 := by
  show tSeq (tWhile _ (t_hr_st K)) _ (fin Q) _ H1
  have lx : x.length ≤ sizeLine := Nat.le_trans hl (by decide)
  have ex := tl_len x
  walk_at "w"
  refine w_while ⟨HrW x nm k D H R, ⟨_, e, f0, [], [], a5, rfl, c1, hD, .nil, he, Nat.zero_le _, hf0, hR, rfl⟩, fun m σ Hn inv => ?_⟩
  obtain ⟨e, f, ss, us, a5, em, cn, hDn, imn, hen, hse, hf, hRn, rfl⟩ := inv
  obtain ⟨f, rfl⟩ : ∃ f', f = f' + 1 := ⟨f - 1, by omega⟩
  have lus : us.length = ss.length := by rw [imn.length, List.length_map]
  walk_at "w"
  refine k_lst (by walk_at "sz") fun A H2 nA c2 hA => ?_
  walk_at "w"
  refine k_lst (by walk_at "sz") fun B H3 nB c3 hB => ?_
  have c23 := c2.same c3
  have hD3 := c23.at hDn
  refine w_neE hD3 hB ?_
  walk_at "w"
  have eem : us.isEmpty = ss.isEmpty := by
    cases us with
    | nil => rw [List.length_eq_zero_iff.mp lus.symm]; rfl
    | cons _ _ => cases ss with
      | nil => simp at lus
      | cons _ _ => rfl
  rw [eem]
  have c03 := cn.same c23
  have im3 : ImA H3 us (ss.map Stp.data) := RA.im c23 imn
  have ret_ : R = some ((nm, ss), (tlS x).drop e) → tRet (tTup (tCons (tTup (tCons (tVar 3) (tCons (tVar 4) tNil))) (tCons (tVar 2) tNil))) (fin Q) [some (.str x), some (.int (k : Nat)), some (.int (e : Nat)), some (.str nm), some (.ref D), a5] H3 := fun hr => by
    walk_at "w"
    refine k_tup (by walk_at "sz") fun T2 H4 nT2 c4 hT2 => ?_
    walk_at "w"
    refine k_tup (by walk_at "sz") fun T H5 nT c5 hT => ?_
    exact q1 nm ss _ hr T T2 D us e H5 ((c03.same c4).same c5) hT (c5.at hT2) nD (c5.at (c4.at hD3)) (RA.im (c4.same c5) im3) rfl hen
  cases ss with
  | nil =>
    have us0 : us = [] := List.length_eq_zero_iff.mp lus
    subst us0
    refine w_ixL (sqL (c3.at hA)) (v := .str " ") rfl ?_
    walk_at "w"
    rw [one_sign x e 32 _ bk_stx]
    refine w_iteD (fun h => ?_) (fun h => ?_)
    · refine ⟨_, fun σ' H' z => z, ?_⟩
      have e0 : lrSs (f + 1) (!([] : List Stp).isEmpty) ((tlS x).drop e) = (lrS ((tlS x).drop (e + 1))).bind fun s => (lrSs f true s.2).map fun t => (s.1 :: t.1, t.2) := by
        show (if ((tlS x).drop e).head? = some 32 then (lrS ((tlS x).drop e).tail).bind (fun s => (lrSs f true s.2).map fun t => (s.1 :: t.1, t.2)) else some ([], (tlS x).drop e)) = _
        rw [if_pos h, List.tail_drop]
      rw [e0] at hRn
      unfold t_hr_st
      walk_at "w"
      refine k_lst (by walk_at "sz") fun B2 H4 nB2 c4 hB2 => ?_
      refine w_neE (c4.at hD3) hB2 ?_
      walk_at "w"
      have ep : ((e : Nat) : Int) + 1 + (if (!([] : List V).isEmpty) = true then 1 else 0) = ((e + 1 : Nat) : Int) := by
        show ((e : Nat) : Int) + 1 + 0 = _
        omega
      rw [ep]
      refine ⟨x, e + 1, rfl, hl, by omega, fl, fun sN H5 c5 => ?_, fun s r es T v j H5 c5 hT im ed hj => ?_⟩
      · walk_at "w"
        exact q0 (by rw [hRn, sN]; rfl) H5 ((c03.same c4).same c5)
      · have hD5 := c5.at (c4.at hD3)
        walk_at "w"
        refine k_lst (by walk_at "sz") fun B3 H6 nB3 c6 hB3 => ?_
        refine w_neE (c6.at hD5) hB3 ?_
        walk_at "w"
        refine w_append (c6.at hD5) (by decide) fun H7 c7 hD7 => ?_
        have hT6 := c6.at hT
        have neTD : T ≠ D := fun z => by rw [z, hD5] at hT; cases hT
        have hT7 := c7.at1 hT6 neTD
        walk_at "w"
        have adv := lrS_adv es
        rw [← ed, List.length_drop, List.length_drop] at adv
        refine ⟨x.length - j, by omega, j, f, [s], [v], _, rfl, (((c03.same c4).same c5).same c6).one c7 nD, hD7, .cons (im.im (c6.pre c7)) .nil, hj, by simp only [List.length_cons, List.length_nil]; omega, by omega, ?_, rfl⟩
        rw [hRn, es]
        show ((lrSs f true r).map fun t => (s :: t.1, t.2)).map _ = _
        rw [Option.map_map, ed]
        rfl
    · refine ret_ ?_
      have e0 : lrSs (f + 1) (!([] : List Stp).isEmpty) ((tlS x).drop e) = some ([], (tlS x).drop e) := by
        show (if ((tlS x).drop e).head? = some 32 then _ else some ([], (tlS x).drop e)) = _
        rw [if_neg h]
      rw [hRn, e0]
      rfl
  | cons s0 ss0 =>
    refine w_ixL (sqL (c3.at hA)) (v := .str ",") rfl ?_
    walk_at "w"
    rw [one_sign x e 44 _ com_stx]
    refine w_iteD (fun h => ?_) (fun h => ?_)
    · refine ⟨_, fun σ' H' z => z, ?_⟩
      have e0 : lrSs (f + 1) (!(s0 :: ss0).isEmpty) ((tlS x).drop e) = if ((tlS x).drop e).take 2 = [44, 32] then (lrS ((tlS x).drop (e + 2))).bind fun s => (lrSs f true s.2).map fun t => (s.1 :: t.1, t.2) else none := by
        show (if ((tlS x).drop e).head? = some 44 then (if ((tlS x).drop e).take 2 = [44, 32] then (lrS (((tlS x).drop e).drop 2)).bind (fun s => (lrSs f true s.2).map fun t => (s.1 :: t.1, t.2)) else none) else some ([], (tlS x).drop e)) = _
        rw [if_pos h, List.drop_drop]
      rw [e0] at hRn
      unfold t_hr_st
      walk_at "w"
      refine k_lst (by walk_at "sz") fun B2 H4 nB2 c4 hB2 => ?_
      refine w_neE (c4.at hD3) hB2 ?_
      walk_at "w"
      have une : us.isEmpty = false := by rw [eem]; rfl
      have ep : ((e : Nat) : Int) + 1 + (if (!us.isEmpty) = true then 1 else 0) = ((e + 2 : Nat) : Int) := by
        rw [une]
        show ((e : Nat) : Int) + 1 + 1 = _
        omega
      rw [ep]
      refine ⟨x, e + 2, rfl, hl, by omega, fl, fun sN H5 c5 => ?_, fun s r es T v j H5 c5 hT im ed hj => ?_⟩
      · walk_at "w"
        refine q0 ?_ H5 ((c03.same c4).same c5)
        rw [hRn]
        split
        · rw [sN]; rfl
        · rfl
      · have hD5 := c5.at (c4.at hD3)
        walk_at "w"
        refine k_lst (by walk_at "sz") fun B3 H6 nB3 c6 hB3 => ?_
        refine w_neE (c6.at hD5) hB3 ?_
        rw [une]
        walk_at "w"
        rw [two_sign x e _ 44 32 com_tl]
        refine w_iteD (fun h2 => ?_) (fun h2 => ?_)
        · rw [if_pos h2] at hRn
          walk_at "w"
          refine w_append (c6.at hD5) (Nat.lt_of_le_of_lt (show us.length ≤ 3000 by omega) (by decide)) fun H7 c7 hD7 => ?_
          have hT6 := c6.at hT
          have neTD : T ≠ D := fun z => by rw [z, hD5] at hT; cases hT
          have hT7 := c7.at1 hT6 neTD
          walk_at "w"
          have adv := lrS_adv es
          rw [← ed, List.length_drop, List.length_drop] at adv
          have c36 := (c4.same c5).same c6
          refine ⟨x.length - j, by omega, j, f, s0 :: ss0 ++ [s], us ++ [v], _, rfl, (c03.same c36).one c7 nD, hD7, ?_, hj, by rw [List.length_append]; simp only [List.length_cons, List.length_nil] at hse ⊢; omega, by omega, ?_, rfl⟩
          · rw [List.map_append]
            exact (RA.im (c36.pre c7) im3).snoc (im.im (c6.pre c7))
          · rw [hRn, es]
            show ((lrSs f true r).map fun t => (s :: t.1, t.2)).map _ = _
            rw [Option.map_map, ed]
            show Option.map _ (lrSs f true r) = Option.map _ (lrSs f true r)
            congr 1
            funext t
            show ((nm, (s0 :: ss0) ++ (s :: t.1)), t.2) = ((nm, (s0 :: ss0 ++ [s]) ++ t.1), t.2)
            simp
        · rw [if_neg h2] at hRn
          walk_at "w"
          exact q0 (by rw [hRn]; rfl) H6 (((c03.same c4).same c5).same c6)
    · refine ret_ ?_
      have e0 : lrSs (f + 1) (!(s0 :: ss0).isEmpty) ((tlS x).drop e) = some ([], (tlS x).drop e) := by
        show (if ((tlS x).drop e).head? = some 44 then _ else some ([], (tlS x).drop e)) = _
        rw [if_neg h]
      rw [hRn, e0]
      show some ((nm, (s0 :: ss0) ++ []), _) = _
      rw [List.append_nil]
theorem pure__law_helper_read {K : PySem.W.Frag} (vs : List V) (H : Hp) (Q : VK) (E : XK) (h : sp__law_helper_read vs H Q E) : t__law_helper_read K (fin Q) (start ["text", "at", "end", "name", "steps", "got"] vs) H := by
  obtain ⟨x, k, rfl, hl, hk, fl, q0, q1⟩ := h
  show t__law_helper_read K _ [some (.str x), some (.int (k : Nat)), none, none, none, none] H
  show tSeq _ (tSeq _ (tSeq _ (tSeq _ (tSeq _ (t_hr_end K))))) (fin Q) _ H
  have lx : x.length ≤ sizeLine := Nat.le_trans hl (by decide)
  have ex := tl_len x
  obtain ⟨tk, dk⟩ := tw_take (p := isLow) ((tlS x).drop k)
  have hN : (((tlS x).drop k).takeWhile isLow).length ≤ x.length - k := by
    have : (((tlS x).drop k).takeWhile isLow).length ≤ ((tlS x).drop k).length := (List.takeWhile_prefix _).length_le
    rw [List.length_drop] at this
    omega
  generalize eR : lrH ((tlS x).drop k) = R at q0 q1
  unfold lrH at eR
  walk_at "w"
  refine ⟨x, k, rfl, hl, by omega, ?_⟩
  walk_at "w"
  rw [cutS_nat]
  generalize (((tlS x).drop k).takeWhile isLow).length = N at tk dk hN
  rw [Nat.add_sub_cancel_left, ← tk]
  rw [dk, List.drop_drop] at eR
  generalize stx (((tlS x).drop k).takeWhile isLow) = nm at eR
  walk_at "w"
  rw [one_sign x (k + N) 58 _ col_stx]
  refine w_iteD (fun h => ?_) (fun h => ?_)
  · rw [if_pos h, List.tail_drop, List.length_drop] at eR
    have he : k + N + 1 ≤ x.length := by
      rw [List.head?_drop] at h
      have := (List.getElem?_eq_some_iff.mp h).1
      omega
    walk_at "w"
    refine k_lst (by walk_at "sz") fun D H1 nD c1 hD => ?_
    refine w_gName ?_
    have e1 : ((k + N : Nat) : Int) + 1 = ((k + N + 1 : Nat) : Int) := by omega
    rw [e1]
    exact hr_end (f0 := (tlS x).length - k + 1) (by omega) hl fl nD c1 hD he eR.symm q0 q1
  · rw [if_neg h] at eR
    walk_at "w"
    exact q0 eR.symm H .refl
end
section
def LfP (H : Hp) (M : List Addr) (D : Addr) (Ac : Nat → List V → Prop) (i : Nat) : Hp → Prop := fun H5 => ∃ acc, acc.length ≤ i ∧ H5 D = some (.lst acc) ∧ Chg M H H5 ∧ Ac i acc
def LfK (H : Hp) (M : List Addr) (D : Addr) (Ac : Nat → List V → Prop) (i : Nat) : VK := fun y H4 => ∃ acc, H4 D = some (.lst acc) ∧ acc.length < sizeLine ∧ LfP H M D Ac (i + 1) (upd H4 D (.lst (acc ++ [y])))
theorem lf_yes {H H4 : Hp} {M : List Addr} {D : Addr} {Ac : Nat → List V → Prop} {i : Nat} {acc : List V} {y : V} (nD : H D = none) (h : H4 D = some (.lst acc)) (hl : acc.length ≤ i) (hz : i ≤ 100000) (c : Chg M H H4) (q : Ac (i + 1) (acc ++ [y])) : LfK H M D Ac i y H4 :=
  ⟨acc, h, Nat.lt_of_le_of_lt (Nat.le_trans hl hz) (by decide), acc ++ [y], by rw [List.length_append, List.length_singleton]; omega, upd_same, c.go (Chg.mut h fun _ e => nomatch e) fun a ha => .inr (by rw [List.mem_singleton.mp ha]; exact nD), q⟩
theorem lf_no {H H4 : Hp} {M : List Addr} {D : Addr} {Ac : Nat → List V → Prop} {i : Nat} {acc : List V} (h : H4 D = some (.lst acc)) (hl : acc.length ≤ i) (c : Chg M H H4) (q : Ac (i + 1) acc) : LfP H M D Ac (i + 1) H4 := ⟨acc, by omega, h, c, q⟩
theorem w_lcF {J : It} {n : Nat} {G : Hp → Prop} {Y : Nat → Hp → V → Hp → Prop} {g : TG} {te : TE} {tt : TT} {vs : List Nat} {σ : L2.St} {H : Hp} {Q : Addr → Hp → Prop} (w : L2.Walk J n G Y) (M : List Addr) (Ac : Nat → List V → Prop)
    (h0 : Ac 0 []) (hG : ∀ H1, Chg M H H1 → G H1)
    (hs : ∀ D i acc x H1 H2, i < n → H D = none → H1 D = some (.lst acc) → acc.length ≤ i → Ac i acc → Chg M H H1 → Y i H1 x H2 → g x (wipe σ vs) H2 fun σ2 H3 => wipe σ2 vs = wipe σ vs ∧
      tt σ2 H3 fun b H3 => if b = true then te σ2 H3 (LfK H M D Ac i) else LfP H M D Ac (i + 1) H3)
    (hd : ∀ D acc H1, H D = none → Chg M H H1 → acc.length ≤ n → H1 D = some (.lst acc) → Ac n acc → Q D H1) :
    ∀ D, H D = none → ∃ W : Nat → Nat → Hp → Prop, (∃ m, W 0 m (upd H D (.lst []))) ∧ ∀ i m H, W i m H →
      (J.stop i H ∧ Q D H) ∨ (J.go i H ∧ ∃ Nx : Hp → Prop, (∀ H', Nx H' → ∃ m', m' < m ∧ W (i + 1) m' H') ∧ ∀ x H', J.yld i H x H' → g x (wipe σ vs) H' fun σ2 H2 => wipe σ2 vs = wipe σ vs ∧ tt σ2 H2 fun b H3 =>
        if b = true then te σ2 H3 fun y H4 => ∃ acc, H4 D = some (.lst acc) ∧ acc.length < sizeLine ∧ Nx (upd H4 D (.lst (acc ++ [y]))) else Nx H3) := by
  intro D nD
  refine lc_it w (Qd := fun H => Q D H) (LfP H M D Ac) ⟨[], Nat.le_refl _, upd_same, (Chg.new nD).wide (by simp), h0⟩ (fun i H1 hi ⟨acc, _, _, c, _⟩ => hG H1 c) (fun i x H1 H2 hi hp y => ?_) (fun H1 ⟨acc, e, h, c, q⟩ => hd D acc H1 nD c e h q)
  obtain ⟨acc, e, h, c, q⟩ := hp
  exact hs D i acc x H1 H2 hi nD h e q c y
end
end Fg
namespace Fg
open PySem PySem.Spec PyProof.Rows L2
local macro_rules | `(tactic| walk_at "hp") => `(tactic| first
  | assumption
  | exact upd_same
  | (refine Chg.at (by assumption) ?_; walk_at "hp")
  | (refine Chg.at1 (by assumption) ?_ (by walk_at "ne"); walk_at "hp"))
local macro_rules | `(tactic| walk_at "ne") => `(tactic| first | assumption | (apply Ne.symm; assumption))
local macro_rules | `(tactic| walk_at "sq") => `(tactic| first | assumption | exact sqL (by walk_at "hp") | (refine Chg.seq (by assumption) ?_; walk_at "sq"))
local macro_rules | `(tactic| walk_at "sz") => `(tactic| first | assumption | exact Nat.zero_le _ | (simp only [List.length_cons, List.length_nil]; decide) | exact Nat.le_trans (by first | omega | (simp; done) | (simp; omega)) (show 100000 ≤ sizeLine by decide) | exact Nat.lt_of_lt_of_le (by first | omega | (simp; done) | (simp; omega)) (show 100000 ≤ sizeLine by decide))
local macro_rules | `(tactic| walk_at "ix") => `(tactic| first | exact at0 | exact at1 | exact at2 | exact at3 | assumption | exact rfl | walk_at "ix2")
local macro_rules | `(tactic| walk_at "ix2") => `(tactic| fail)
local macro_rules | `(tactic| walk_at "num") => `(tactic| first | assumption | omega | decide | walk_at "num2")
local macro_rules | `(tactic| walk_at "num2") => `(tactic| fail)
local macro_rules | `(tactic| walk_at "im") => `(tactic| first | assumption | exact R.non (S := fun _ => False) | exact R.bl (S := fun _ => False) _ | exact R.int (S := fun _ => False) _ | exact R.str (S := fun _ => False) _ | (refine R.im (by assumption) ?_; walk_at "im"))
local macro_rules | `(tactic| walk_at "r") => `(tactic| first | assumption | exact R.non (S := fun _ => False) | exact R.bl (S := fun _ => False) _ | exact R.int (S := fun _ => False) _ | exact R.str (S := fun _ => False) _ | (refine R.same (by assumption) ?_; walk_at "r") | exact R.any (by walk_at "im"))
local macro_rules | `(tactic| walk_at "chg") => `(tactic| first
  | exact Chg.refl
  | assumption
  | (refine Chg.same ?_ (by assumption); walk_at "chg")
  | (refine Chg.both ?_ (by assumption); walk_at "chg")
  | (refine Chg.pre (by assumption) ?_; walk_at "chg"))
local macro_rules | `(tactic| walk_at "w1") => `(tactic| first
  | with_reducible apply w_seq
  | with_reducible apply w_asg
  | ((with_reducible apply w_var); (focus (exact rfl)))
  | with_reducible apply w_c
  | with_reducible apply w_op
  | with_reducible apply w_cons
  | with_reducible apply w_nil
  | with_reducible apply w_gName
  | with_reducible apply w_if
  | with_reducible apply w_test
  | with_reducible apply w_B
  | with_reducible apply w_isbl
  | with_reducible apply w_retN
  | with_reducible apply w_next
  | with_reducible apply w_drop
  | with_reducible apply w_cb
  | with_reducible apply w_call
  | with_reducible apply w_callN
  | with_reducible apply w_bm
  | with_reducible apply w_bm0
  | ((with_reducible apply w_tyL); (focus (walk_at "hp"; done)))
  | with_reducible apply w_dput
  | with_reducible apply w_m1
  | with_reducible apply w_isstr
  | with_reducible apply w_and
  | with_reducible apply w_or
  | with_reducible apply w_not
  | with_reducible apply w_andV
  | with_reducible apply w_orV
  | with_reducible apply w_notV
  | with_reducible apply w_ifE
  | with_reducible apply w_chain
  | with_reducible apply w_un
  | with_reducible apply w_neg
  | with_reducible apply w_add
  | with_reducible apply w_sub
  | ((with_reducible apply w_mod); (focus (walk_at "num"; done)))
  | ((with_reducible apply w_mul); (focus (walk_at "num"; done)))
  | ((with_reducible apply w_fdiv); (focus (walk_at "num"; done)))
  | ((with_reducible apply w_pow); (focus (walk_at "num"; done)))
  | with_reducible apply w_lt
  | with_reducible apply w_le
  | with_reducible apply w_gt
  | with_reducible apply w_ge
  | with_reducible apply w_ltS
  | with_reducible apply w_geS
  | with_reducible apply w_inC
  | with_reducible apply w_notInC
  | with_reducible apply w_isN
  | with_reducible apply w_notN
  | with_reducible apply w_isB
  | with_reducible apply w_notB
  | ((with_reducible apply w_addS); (focus (walk_at "sz"; done)))
  | ((with_reducible apply w_ixL); (focus (walk_at "sq"; done)); (focus (walk_at "ix"; done)))
  | ((with_reducible apply w_ixT); (focus (walk_at "hp"; done)); (focus (walk_at "ix"; done)))
  | ((with_reducible apply w_ixS); (focus (walk_at "sz"; done)); (focus (walk_at "ix"; done)))
  | with_reducible apply w_gSub
  | ((with_reducible apply w_gTup); (focus (walk_at "hp"; done)); (focus (exact rfl)))
  | with_reducible apply w_gCons
  | with_reducible apply w_gNil
  | ((with_reducible apply w_aug); (focus (exact rfl)))
  | with_reducible apply w_ipI
  | ((with_reducible apply w_eq); (focus (exact rfl)))
  | ((with_reducible apply w_ne); (focus (exact rfl)))
  | with_reducible apply w_max
  | with_reducible apply w_min
  | with_reducible apply w_abs
  | with_reducible apply w_intB
  | with_reducible apply w_intI
  | with_reducible apply w_tup1
  | with_reducible apply w_lst1
  | with_reducible apply w_sl
  | with_reducible apply w_part
  | with_reducible apply w_noPart
  | with_reducible apply w_isint
  | ((with_reducible apply w_slS); (focus (walk_at "sz"; done)))
  | with_reducible apply w_iteT
  | with_reducible apply w_iteF
  | with_reducible apply w_iteN
  | ((with_reducible apply w_iteYes); (focus (exact rfl)))
  | ((with_reducible apply w_iteNo); (focus (exact rfl)))
  | ((with_reducible apply w_lenL); (focus (walk_at "sq"; done)))
  | ((with_reducible apply w_lenT); (focus (walk_at "hp"; done)))
  | ((with_reducible apply w_lenS); (focus (walk_at "sz"; done)))
  | with_reducible apply w_lc
  | with_reducible apply w_for
  | with_reducible apply w_yes
  | ((with_reducible apply w_wipe); (focus (exact rfl)))
  | with_reducible apply w_iList
  | with_reducible apply w_iTup
  | with_reducible apply w_iStr
  | with_reducible apply w_iRng1
  | with_reducible apply w_iRng2
  | with_reducible apply w_iZip
  | with_reducible apply w_iEnum
  | ((with_reducible apply d_iList); (focus (walk_at "sq"; done)))
  | ((with_reducible apply d_iTup); (focus (walk_at "hp"; done)))
  | with_reducible apply d_iStr
  | ((with_reducible apply d_iRng1); (focus (walk_at "num"; done)); (focus (walk_at "num"; done)))
  | ((with_reducible apply d_iRng2); (focus (walk_at "num"; done)); (focus (walk_at "num"; done)); (focus (walk_at "num"; done)); (focus (walk_at "num"; done)))
  | ((with_reducible apply d_iZip); (focus (walk_at "sq"; done)); (focus (walk_at "sq"; done)))
  | ((with_reducible apply d_iEnum); (focus (walk_at "sq"; done)))
  | walk_at "w2")
local macro_rules | `(tactic| walk_at "w2") => `(tactic| fail)
local macro_rules | `(tactic| walk_at "wn") => `(tactic| repeat walk_at "w1")
local macro_rules | `(tactic| walk_at "w") => `(tactic| repeat (first | walk_at "w1" | with_reducible apply w_ret))
local macro_rules | `(tactic| walk_at "w2") => `(tactic| first
  | ((with_reducible apply w_isInt); (focus (walk_at "r"; done)))
  | ((with_reducible apply w_isBool); (focus (walk_at "r"; done)))
  | ((with_reducible apply w_isStr); (focus (walk_at "r"; done)))
  | ((with_reducible apply w_isTup); (focus (walk_at "r"; done)))
  | ((with_reducible apply w_isLst); (focus (walk_at "r"; done)))
  | ((with_reducible apply w_notInP); (focus (assumption)))
  | ((with_reducible apply w_ixP); (focus (assumption)); (focus (assumption))))
section
def t__law_is_whole (K : PySem.W.Frag) : TS :=
    tRet (tAndV (tCB (rIsi K) (tCons (tVar 0) (tCons (tC (.ty "int")) (tNil)))) (tNotV (tCB (rIsi K) (tCons (tVar 0) (tCons (tC (.ty "bool")) (tNil))))))
def sp__law_is_whole : Sp := fun vs H Q _ => ∃ (v : V) (d : PyData) (S : Addr → Prop), vs = [v] ∧ R S H v d ∧ Q (.bl (isWhole d)) H
theorem pure__law_is_whole {K : PySem.W.Frag} (vs : List V) (H : Hp) (Q : VK) (E : XK) (h : sp__law_is_whole vs H Q E) : t__law_is_whole K (fin Q) (start ["thing"] vs) H := by
  obtain ⟨v, d, S, rfl, r, q⟩ := h
  show t__law_is_whole K _ [some v] H
  unfold t__law_is_whole
  walk_at "w"
  cases d <;> (walk_at "w"; exact q)
def t__law_is_name (K : PySem.W.Frag) : TS :=
    tSeq (tIfS (tOr (tNot (tB (tCB (rIsi K) (tCons (tVar 0) (tCons (tC (.ty "str")) (tNil)))))) (tOr (tTest (tOp rEq (tVar 0) (tC (.str "")))) (tTest (tOp oGt (tCB cLenS (tCons (tVar 0) (tNil))) (tC (.int 8)))))) (tRet (tC (.bl false))) (tNext))
    (tRet (tOp oEqE (tLc (iStr (tVar 0)) (gName 1) (tTest (tOp oNotInC (tVar 1) (tC (.str "abcdefghijklmnopqrstuvwxyz")))) (tVar 1) [1]) (tLst (tNil))))
def sp__law_is_name : Sp := fun vs H Q _ => ∃ (v : V) (d : PyData) (S : Addr → Prop), vs = [v] ∧ R S H v d ∧ (∀ x, d = .str x → x.length ≤ 100000) ∧ ∀ H', Chg [] H H' → Q (.bl (isName d)) H'
theorem all_take {α : Type} (p : α → Bool) {l : List α} {i : Nat} {a : α} (h : l[i]? = some a) : (l.take (i + 1)).all p = ((l.take i).all p && p a) := by
  rw [List.take_add_one, h, List.all_append]
  simp
theorem isE_snoc {acc : List V} {y : V} : (acc ++ [y]).isEmpty = false := by cases acc <;> rfl
theorem pure__law_is_name {K : PySem.W.Frag} (vs : List V) (H : Hp) (Q : VK) (E : XK) (h : sp__law_is_name vs H Q E) : t__law_is_name K (fin Q) (start ["thing", "sign"] vs) H := by
  obtain ⟨v, d, S, rfl, r, hx, q⟩ := h
  show t__law_is_name K _ [some v, none] H
  unfold t__law_is_name
  walk_at "w"
  have q0 := q H .refl
  cases r with
  | str x =>
    have hz := hx x rfl
    walk_at "w"
    refine w_iteD (fun h => ?_) (fun h => ?_)
    · walk_at "w"
      have e : isName (.str x) = false := by
        rw [V.str.inj h]
        decide +kernel
      rw [e] at q0
      exact q0
    walk_at "w"
    refine w_iteD (fun h2 => ?_) (fun h2 => ?_)
    · walk_at "w"
      have e : isName (.str x) = false := by
        show (decide (1 ≤ x.length) && decide (x.length ≤ 8) && x.cps.toList.all isLow) = false
        rw [decide_eq_false (p := x.length ≤ 8) (by omega), Bool.and_false]
        rfl
      rw [e] at q0
      exact q0
    walk_at "w"
    have hl : x.cps.size ≤ 100000 := hz
    have h1 : 1 ≤ x.length := by
      rcases Nat.lt_or_ge 0 x.length with z | z
      · exact z
      · exfalso
        apply h
        have e : x.cps = #[] := Array.eq_empty_of_size_eq_zero (by have : x.cps.size = x.length := rfl; omega)
        show V.str x = V.str _
        congr 1
        cases x
        simp only at e
        rw [e]
        rfl
    refine w_lcF walk_str [] (fun i acc => acc.isEmpty = (x.cps.toList.take i).all isLow) rfl (fun _ _ => trivial) (fun D i acc z H1 H2 hi nD hD el ac c y => ?_) (fun D acc H1 nD c el hD ac => ?_)
    · obtain ⟨rfl, ch, ec, rfl⟩ := y
      have ec' : x.cps.toList[i]? = some ch := by rw [Array.getElem?_toList]; exact ec
      walk_at "w"
      refine w_iteD (fun hm => ?_) (fun hm => ?_)
      · refine lf_no hD el c ?_
        rw [all_take isLow ec', ac]
        have e : isLow ch = true := decide_eq_true hm
        rw [e, Bool.and_true]
      · walk_at "w"
        refine lf_yes nD hD el (by omega) c ?_
        rw [all_take isLow ec', isE_snoc]
        have e : isLow ch = false := decide_eq_false hm
        rw [e, Bool.and_false]
    · walk_at "w"
      refine k_lst (by decide) fun p H2 np c2 hp => ?_
      refine w_eqEL (c2.at hD) hp ?_
      have e2 : acc.isEmpty = isName (.str x) := by
        show _ = (decide (1 ≤ x.length) && decide (x.length ≤ 8) && x.cps.toList.all isLow)
        rw [decide_eq_true (by omega), decide_eq_true (by omega), ac, List.take_of_length_le (by simp)]
        rfl
      rw [e2]
      exact q H2 (c.same c2)
  | _ => 
    walk_at "w"
    exact q0
def partKV : List (Key × V) := mergeK [] [(.inr "arg", .int 0), (.inr "cell", .int 1), (.inr "add", .int 2), (.inr "less", .int 2), (.inr "least", .int 2)]
theorem d_parts {σ : L2.St} {H : Hp} {Q : VK} (q : ∀ p H2, Chg [] H H2 → H2 p = some (.dK partKV) → Q (.ref p) H2) :
    tDisp [(tC (.str "arg"), tC (.int 0)), (tC (.str "cell"), tC (.int 1)), (tC (.str "add"), tC (.int 2)), (tC (.str "less"), tC (.int 2)), (tC (.str "least"), tC (.int 2))] σ H Q := by
  intro p np
  refine ⟨upd_same, [(.inr "arg", .int 0), (.inr "cell", .int 1), (.inr "add", .int 2), (.inr "less", .int 2), (.inr "least", .int 2)], rfl, by decide, q p _ ?_ upd_same⟩
  exact (Chg.new np).go (Chg.mut (o := .dK partKV) (upd_same (H := H) (a := p) (o := .dK [])) fun _ e => nomatch e) fun a ha => .inr (by rw [List.mem_singleton.mp ha]; exact np)
theorem val_parts (z : Str) : valV partKV (.inr z) = (partsOf z).map fun k => V.int (k : Nat) := by
  have e : partKV = [(.inr "arg", .int 0), (.inr "cell", .int 1), (.inr "add", .int 2), (.inr "less", .int 2), (.inr "least", .int 2)] := by decide +kernel
  rw [e]
  unfold partsOf
  by_cases h0 : z = "arg"
  · rw [if_pos h0, valV_pos (by rw [h0])]
    rfl
  rw [if_neg h0, valV_neg fun q => h0 (Sum.inr.inj q).symm]
  by_cases h1 : z = "cell"
  · rw [if_pos h1, valV_pos (by rw [h1])]
    rfl
  rw [if_neg h1, valV_neg fun q => h1 (Sum.inr.inj q).symm]
  by_cases h2 : z = "add"
  · rw [if_pos h2, valV_pos (by rw [h2])]
    rfl
  rw [if_neg h2, valV_neg fun q => h2 (Sum.inr.inj q).symm]
  by_cases h3 : z = "less"
  · rw [if_pos h3, valV_pos (by rw [h3])]
    rfl
  rw [if_neg h3, valV_neg fun q => h3 (Sum.inr.inj q).symm]
  by_cases h4 : z = "least"
  · rw [if_pos h4, valV_pos (by rw [h4])]
    rfl
  rw [if_neg h4, valV_neg fun q => h4 (Sum.inr.inj q).symm]
  rfl
def sp__law_is_expression (n : Nat) : Sp := fun vs H Q _ => ∃ (v : V) (d : PyData) (S : Addr → Prop) (m : Nat), vs = [v, .int (m : Nat)] ∧ m + 1 ≤ n ∧ R S H v d ∧ ∀ H', Chg [] H H' → Q (.bl (isExpr m d)) H'
theorem no__law_is_expression (vs : List V) (H : Hp) (Q : VK) (E : XK) : ¬ sp__law_is_expression 0 vs H Q E := by
  rintro ⟨v, d, S, m, _, h, _⟩
  omega
def t__law_is_expression (K : PySem.W.Frag) (n : Nat) : TS :=
    tSeq (tIfS (tOr (tTest (tOp rEq (tVar 1) (tC (.int 0)))) (tB (tCall sp__law_is_whole [] E0 (tCons (tVar 0) (tNil))))) (tRet (tOp oGt (tVar 1) (tC (.int 0)))) (tNext))
    (tSeq (tIfS (tOr (tNot (tB (tCB (rIsi K) (tCons (tVar 0) (tCons (tC (.ty "tuple")) (tNil)))))) (tOr (tTest (tOp oEqE (tVar 0) (tTup (tNil)))) (tNot (tB (tCB (rIsi K) (tCons (tOp (rIxT K) (tVar 0) (tC (.int 0))) (tCons (tC (.ty "str")) (tNil)))))))) (tRet (tC (.bl false))) (tNext))
    (tSeq (tAsg (tDGet2 (tDisp [(tC (.str "arg"), tC (.int 0)), (tC (.str "cell"), tC (.int 1)), (tC (.str "add"), tC (.int 2)), (tC (.str "less"), tC (.int 2)), (tC (.str "least"), tC (.int 2))]) (tOp (rIxT K) (tVar 0) (tC (.int 0))) (tUn (rU fun i => .int (-i)) (tC (.int 1)))) (gName 2))
    (tSeq (tIfS (tTest (tOp rNe (tCB (cLenQ K) (tCons (tVar 0) (tNil))) (tOp oAdd (tVar 2) (tC (.int 1))))) (tRet (tC (.bl false))) (tNext))
    (tRet (tOp oEqE (tLc (iTup K (tSl (rSlA K) (tVar 0) (tPart (tC (.int 1))) (tNoPart))) (gName 3) (tNot (tB (tCall (sp__law_is_expression n) [] E0 (tCons (tVar 3) (tCons (tOp oSub (tVar 1) (tC (.int 1))) (tNil)))))) (tVar 3) [3]) (tLst (tNil)))))))
theorem partsOf_le {z : Str} {k : Nat} (ez : partsOf z = some k) : k ≤ 2 := by
  unfold partsOf at ez
  repeat (split at ez; · cases ez; omega)
  cases ez
theorem w_dget2 {td ty tx : TE} {σ : L2.St} {H : Hp} {Q : VK} (h : td σ H fun x H1 => ∃ a, x = .ref a ∧ IsD H1 a ∧ ty σ H1 fun y H2 => tx σ H2 fun z H3 => ∃ o, DGet H3 a y o ∧ Q (o.getD z) H3) : tDGet2 td ty tx σ H Q := h
theorem pure__law_is_expression {K : PySem.W.Frag} (n : Nat) (vs : List V) (H : Hp) (Q : VK) (E : XK) (h : sp__law_is_expression (n + 1) vs H Q E) : t__law_is_expression K n (fin Q) (start ["thing", "most", "parts", "one"] vs) H := by
  obtain ⟨v, d, S, m, rfl, hm, r, q⟩ := h
  show t__law_is_expression K n _ [some v, some (.int (m : Nat)), none, none] H
  unfold t__law_is_expression
  have q0 := q H .refl
  walk_at "w"
  refine w_iteD (fun h => ?_) (fun h => ?_)
  · walk_at "w"
    have e : m = 0 := by
      have := V.int.inj h
      omega
    subst e
    exact q0
  obtain ⟨k, rfl⟩ : ∃ k, m = k + 1 := ⟨m - 1, by
    have : m ≠ 0 := fun z => h (by rw [z]; rfl)
    omega⟩
  walk_at "w"
  refine ⟨v, d, S, rfl, r, ?_⟩
  walk_at "w"
  have pos : decide ((0 : Int) < ((k + 1 : Nat) : Int)) = true := decide_eq_true (by omega)
  cases r with
  | int i => walk_at "w"; rw [pos]; exact q0
  | non => walk_at "w"; exact q0
  | bl b => walk_at "w"; exact q0
  | str b => walk_at "w"; exact q0
  | lst s e a =>
    have r := R.lst s e a
    walk_at "w"; exact q0
  | dic s e =>
    have r := R.dic s e
    walk_at "w"; exact q0
  | @tup a xs ds e ra =>
    have r := R.tup e ra
    walk_at "w"
    refine k_tup (by walk_at "sz") fun p1 H1 np1 c1 hp1 => ?_
    refine w_eqET (c1.at e) hp1 ?_
    walk_at "w"
    cases ra with
    | nil =>
      walk_at "w"
      exact q H1 c1
    | @cons v0 vs0 d0 ds0 r0 rs =>
      walk_at "w"
      have q1 := q H1 c1
      have rr0 := r0
      cases r0 with
      | int i => walk_at "w"; exact q1
      | non => walk_at "w"; exact q1
      | bl b => walk_at "w"; exact q1
      | lst s1 e1 a1 =>
        have r := (R.lst s1 e1 a1).same c1
        walk_at "w"; exact q1
      | dic s1 e1 =>
        have r := (R.dic s1 e1).same c1
        walk_at "w"; exact q1
      | tup e1 a1 =>
        have r := (R.tup e1 a1).same c1
        walk_at "w"; exact q1
      | str z =>
        walk_at "w"
        refine w_dget2 ?_
        refine d_parts fun p2 H2 c2 h2 => ?_
        refine ⟨p2, rfl, .inl ⟨partKV, .inl h2⟩, ?_⟩
        have e2 := c2.at (c1.at e)
        walk_at "w"
        refine ⟨_, DGet.k (k := .inr z) h2, ?_⟩
        rw [val_parts]
        have q2 := q H2 (c1.same c2)
        have ln := rs.length
        cases ez : partsOf z with
        | none =>
          simp only [Option.map_none, Option.getD_none]
          walk_at "w"
          have e3 : isExpr (k + 1) (.tuple (.str z :: ds0)) = false := by
            unfold isExpr
            rw [ez]
          rw [e3] at q2
          exact q2
        | some pk =>
          simp only [Option.map_some, Option.getD_some]
          have hp := partsOf_le ez
          walk_at "w"
          refine w_iteD (fun h3 => ?_) (fun h3 => ?_)
          · have h' : vs0.length = pk := by
              have := V.int.inj h3
              rw [List.length_cons] at this
              omega
            walk_at "w"
            refine w_slA e2 fun p' H3 c3 h5 => ?_
            rw [cut1] at h5
            walk_at "w"
            have rs2 := rs.same ((c1.same c2).same c3)
            have h5 : H3 p' = some (.tup vs0) := h5
            refine w_lcF walk_tup [] (fun i acc => acc.isEmpty = (ds0.take i).all (isExpr k)) rfl (fun H1 c => sqT (c.at h5)) (fun D i acc z H4 H5 hi nD hD el ac c y => ?_) (fun D acc H4 nD c el hD ac => ?_)
            · obtain ⟨rfl, ey⟩ := y
              obtain ⟨d1, ed, r1⟩ := rs2.get (i := i) (v := z) ey
              walk_at "w"
              have e5 : (((k + 1 : Nat) : Int)) - 1 = (k : Nat) := by omega
              rw [e5]
              refine ⟨z, d1, S, k, rfl, by omega, r1.same c, fun H6 c6 => ?_⟩
              have hi' : i < 3 := by
                have h6 : i < vs0.length := hi
                omega
              walk_at "w"
              refine w_iteB (fun b1 => ?_) (fun b1 => ?_)
              · refine lf_no (c6.at hD) el (c.same c6) ?_
                rw [all_take (isExpr k) ed, ac, b1, Bool.and_true]
              · walk_at "w"
                refine lf_yes nD (c6.at hD) el (by omega) (c.same c6) ?_
                rw [all_take (isExpr k) ed, isE_snoc, b1, Bool.and_false]
            · walk_at "w"
              refine k_lst (by decide) fun p H5 np c5 hp => ?_
              refine w_eqEL (c5.at hD) hp ?_
              have e4 : isExpr (k + 1) (.tuple (.str z :: ds0)) = acc.isEmpty := by
                rw [isExpr, ez, ac, ln, List.take_length]
                show (decide (ds0.length = pk) && ds0.all (isExpr k)) = _
                rw [decide_eq_true (by omega)]
                rfl
              rw [← e4]
              exact q H5 ((((c1.same c2).same c3).same c).same c5)
          · walk_at "w"
            have e3 : isExpr (k + 1) (.tuple (.str z :: ds0)) = false := by
              rw [isExpr, ez]
              show (decide (ds0.length = pk) && ds0.all (isExpr k)) = false
              rw [decide_eq_false ?_]
              · rfl
              · intro h7
                apply h3
                show V.int _ = V.int _
                congr 1
                rw [List.length_cons]
                omega
            rw [e3] at q2
            exact q2
end
section
def sp__law_is_step (K : PySem.W.Frag) : Sp := fun vs H Q _ => ∃ (v : V) (d : PyData) (S : Addr → Prop) (l : Addr) (ns : List Str) (bh : Int), vs = [v, .ref l, .int bh] ∧ R S H v d ∧ smallD d = true ∧ SqL K H l (ns.map V.str) ∧ ∀ H', Chg [] H H' → Q (.bl (isStep ns bh d)) H'
def t__law_is_step (K : PySem.W.Frag) : TS :=
    tSeq (tIfS (tTest (tOp oEqT1 (tVar 0) (tTup (tCons (tC (.str "wait")) (tNil))))) (tRet (tC (.bl true))) (tNext))
    (tSeq (tIfS (tOr (tNot (tB (tCB (rIsi K) (tCons (tVar 0) (tCons (tC (.ty "tuple")) (tNil)))))) (tOr (tTest (tOp rNe (tCB (cLenQ K) (tCons (tVar 0) (tNil))) (tC (.int 3)))) (tNot (tB (tCB (rIsi K) (tCons (tOp (rIxT K) (tVar 0) (tC (.int 0))) (tCons (tC (.ty "str")) (tNil)))))))) (tRet (tC (.bl false))) (tNext))
    (tSeq (tAsg (tVar 0) (gTup K 3 (gCons (gName 3) (gCons (gName 4) (gCons (gName 5) (gNil))))))
    (tSeq (tIfS (tTest (tOp rEq (tVar 3) (tC (.str "skip")))) (tRet (tAndV (tCall (sp__law_is_expression 6) [] E0 (tCons (tVar 4) (tCons (tC (.int 5)) (tNil)))) (tAndV (tCall sp__law_is_whole [] E0 (tCons (tVar 5) (tNil))) (tAndV (tOp oGt (tVar 5) (tC (.int 0))) (tOp oLe (tVar 5) (tVar 2)))))) (tNext))
    (tSeq (tIfS (tTest (tOp rEq (tVar 3) (tC (.str "cell")))) (tRet (tAndV (tCall (sp__law_is_expression 6) [] E0 (tCons (tVar 4) (tCons (tC (.int 5)) (tNil)))) (tCall (sp__law_is_expression 6) [] E0 (tCons (tVar 5) (tCons (tC (.int 5)) (tNil)))))) (tNext))
    (tSeq (tIfS (tTest (tOp rEq (tVar 3) (tC (.str "give")))) (tRet (tAndV (tCall sp__law_is_name [] E0 (tCons (tVar 4) (tNil))) (tCall (sp__law_is_expression 6) [] E0 (tCons (tVar 5) (tCons (tC (.int 5)) (tNil)))))) (tNext))
    (tRet (tAndV (tOp (rIn K false) (tVar 3) (tLst (tCons (tC (.str "fork")) (tCons (tC (.str "call")) (tNil))))) (tAndV (tCall sp__law_is_name [] E0 (tCons (tVar 4) (tNil))) (tAndV (tOp (rIn K false) (tVar 4) (tVar 1)) (tCall (sp__law_is_expression 6) [] E0 (tCons (tVar 5) (tCons (tC (.int 5)) (tNil)))))))))))))
theorem isT1_yes {z : Str} {d : PyData} (h : isT1 z d = true) : d = .tuple [.str z] := by
  cases d with
  | tuple ds =>
    match ds, h with
    | [.str y], h => rw [eq_of_beq h]
  | _ => cases h
theorem pure__law_is_step {K : PySem.W.Frag} (vs : List V) (H : Hp) (Q : VK) (E : XK) (h : sp__law_is_step K vs H Q E) : t__law_is_step K (fin Q) (start ["thing", "names", "behind", "word", "one", "other"] vs) H := by
  obtain ⟨v, d, S, l, ns, bh, rfl, r, sm, hl0, q⟩ := h
  show t__law_is_step K _ [some v, some (.ref l), some (.int bh), none, none, none] H
  unfold t__law_is_step
  walk_at "w"
  refine k_tup (by walk_at "sz") fun p1 H1 np1 c1 hp1 => ?_
  refine w_eqT1 (r.same c1) hp1 ?_
  walk_at "w"
  refine w_iteB (fun b0 => ?_) (fun b0 => ?_)
  · walk_at "w"
    have := q H1 c1
    rw [isT1_yes b0] at this
    exact this
  walk_at "w"
  have q0 := q H1 c1
  have hl := c1.seq hl0
  have r := r.same c1
  have q : ∀ H', Chg [] H1 H' → Q (V.bl (isStep ns bh d)) H' := fun H' c => q H' (c1.same c)
  clear hl0 c1 np1 hp1
  cases r with
  | int i => walk_at "w"; exact q0
  | non => walk_at "w"; exact q0
  | bl b => walk_at "w"; exact q0
  | str b => walk_at "w"; exact q0
  | lst s e a => have r := R.lst s e a; walk_at "w"; exact q0
  | dic s e => have r := R.dic s e; walk_at "w"; exact q0
  | @tup a xs ds e ra =>
    have r := R.tup e ra
    walk_at "w"
    have ln0 := ra.length
    refine w_iteD (fun h3 => ?_) (fun h3 => ?_)
    rotate_left
    · walk_at "w"
      have e2 : isStep ns bh (.tuple ds) = false := by
        have n3 : ds.length ≠ 3 := fun z => h3 (by rw [ln0, z]; rfl)
        match ds, b0, n3 with
        | [], _, _ => rfl
        | .str z :: [], b0, _ =>
          rw [isStep_tup]
          by_cases hz : z = "wait"
          · subst hz
            cases b0
          · rw [if_neg hz]
            rfl
        | .str z :: [d1], b0, _ =>
          rw [isStep_tup]
          by_cases hz : z = "wait"
          · rw [if_pos hz]; rfl
          · rw [if_neg hz]; rfl
        | .str z :: d1 :: d2 :: d3 :: r, b0, _ =>
          rw [isStep_tup]
          by_cases hz : z = "wait"
          · rw [if_pos hz]
            simp
          · rw [if_neg hz]; rfl
        | .str z :: [d1, d2], b0, h => exact absurd rfl h
        | .none :: _, _, _ => rfl
        | .bool _ :: _, _, _ => rfl
        | .int _ :: _, _, _ => rfl
        | .list _ :: _, _, _ => rfl
        | .tuple _ :: _, _, _ => rfl
        | .dict _ :: _, _, _ => rfl
      rw [e2] at q0
      exact q0
    cases ra with
    | nil => (have := V.int.inj h3; simp only [List.length_nil] at this; omega)
    | @cons v0 vs0 d0 ds0 r0 rs =>
     cases rs with
     | nil => (have := V.int.inj h3; simp only [List.length_cons, List.length_nil] at this; omega)
     | @cons v1 vs1 d1 ds1 r1 rs1 =>
      cases rs1 with
      | nil => (have := V.int.inj h3; simp only [List.length_cons, List.length_nil] at this; omega)
      | @cons v2 vs2 d2 ds2 r2 rs2 =>
       cases rs2 with
       | cons _ _ =>
         have := V.int.inj h3
         simp only [List.length_cons] at this
         omega
       | nil =>
        walk_at "w"
        have rr0 := r0
        cases r0 with
        | int i => walk_at "w"; exact q0
        | non => walk_at "w"; exact q0
        | bl b => walk_at "w"; exact q0
        | lst s1 e1 a1 => have r := R.lst s1 e1 a1; walk_at "w"; exact q0
        | dic s1 e1 => have r := R.dic s1 e1; walk_at "w"; exact q0
        | tup e1 a1 => have r := R.tup e1 a1; walk_at "w"; exact q0
        | str z =>
          have sm1 : smallD d1 = true := smallDs_all (ds := [.str z, d1, d2]) sm d1 (by simp)
          walk_at "w"
          have q : ∀ H', Chg [] H1 H' → Q (V.bl (if z = "wait" then false else step3 ns bh z d1 d2)) H' := q
          refine w_iteD (fun hs => ?_) (fun hs => ?_)
          · have hs' : z = "skip" := V.str.inj hs
            subst hs'
            have q : ∀ H', Chg [] H1 H' → Q (V.bl (isExpr 5 d1 && skipOk bh d2)) H' := q
            walk_at "w"
            refine ⟨v1, d1, S, 5, rfl, by omega, r1, fun H2 c2 => ?_⟩
            walk_at "w"
            refine w_iteB (fun b1 => ?_) (fun b1 => ?_)
            · walk_at "w"
              refine ⟨v2, d2, S, rfl, r2.same c2, ?_⟩
              walk_at "w"
              have q1 := q H2 c2
              rw [b1] at q1
              cases r2 with
              | int i =>
                walk_at "w"
                have q1 : Q (V.bl (true && (decide (1 ≤ i) && decide (i ≤ bh)))) H2 := q1
                refine w_iteD (fun g => ?_) (fun g => ?_)
                · walk_at "w"
                  rw [decide_eq_true (show 1 ≤ i by omega)] at q1
                  exact q1
                · walk_at "w"
                  rw [decide_eq_false (show ¬ 1 ≤ i by omega)] at q1
                  exact q1
              | non => walk_at "w"; exact q1
              | bl b => walk_at "w"; exact q1
              | str b => walk_at "w"; exact q1
              | lst s1 e1 a1 => walk_at "w"; exact q1
              | dic s1 e1 => walk_at "w"; exact q1
              | tup e1 a1 => walk_at "w"; exact q1
            · walk_at "w"
              have := q H2 c2
              rw [b1] at this
              exact this
          have hs' : ¬ z = "skip" := fun h => hs (by rw [h])
          walk_at "w"
          refine w_iteD (fun hc => ?_) (fun hc => ?_)
          · have hc' : z = "cell" := V.str.inj hc
            subst hc'
            have q : ∀ H', Chg [] H1 H' → Q (V.bl (isExpr 5 d1 && isExpr 5 d2)) H' := q
            walk_at "w"
            refine ⟨v1, d1, S, 5, rfl, by omega, r1, fun H2 c2 => ?_⟩
            walk_at "w"
            refine w_iteB (fun b1 => ?_) (fun b1 => ?_)
            · walk_at "w"
              refine ⟨v2, d2, S, 5, rfl, by omega, r2.same c2, fun H3 c3 => ?_⟩
              have := q H3 (c2.same c3)
              rw [b1] at this
              exact this
            · walk_at "w"
              have := q H2 c2
              rw [b1] at this
              exact this
          have hc' : ¬ z = "cell" := fun h => hc (by rw [h])
          walk_at "w"
          refine w_iteD (fun hg => ?_) (fun hg => ?_)
          · have hg' : z = "give" := V.str.inj hg
            subst hg'
            have q : ∀ H', Chg [] H1 H' → Q (V.bl (isName d1 && isExpr 5 d2)) H' := q
            walk_at "w"
            refine ⟨v1, d1, S, rfl, r1, smallD_str sm1, fun H2 c2 => ?_⟩
            walk_at "w"
            refine w_iteB (fun b1 => ?_) (fun b1 => ?_)
            · walk_at "w"
              refine ⟨v2, d2, S, 5, rfl, by omega, r2.same c2, fun H3 c3 => ?_⟩
              have := q H3 (c2.same c3)
              rw [b1] at this
              exact this
            · walk_at "w"
              have := q H2 c2
              rw [b1] at this
              exact this
          have hg' : ¬ z = "give" := fun h => hg (by rw [h])
          walk_at "w"
          refine k_lst (by walk_at "sz") fun p2 H2 np2 c2 hp2 => ?_
          refine w_inL (sqL hp2) rfl rfl ?_
          have ein : inV (.str z) [V.str "fork", V.str "call"] = decide (z ∈ (["fork", "call"] : List Str)) := inV_str z ["fork", "call"]
          rw [ein]
          walk_at "w"
          refine w_iteD (fun hm => ?_) (fun hm => ?_)
          rotate_left
          · walk_at "w"
            have n2 : ¬ (z = "fork" ∨ z = "call") := fun h => hm (by rcases h with h | h <;> (rw [h]; simp))
            have := q H2 c2
            unfold step3 at this
            rw [if_neg hc', if_neg hs', if_neg hg', if_neg n2, ite_self] at this
            exact this
          have hf : z = "fork" ∨ z = "call" := by
            simp only [List.mem_cons, List.not_mem_nil, or_false] at hm
            exact hm
          have hw : ¬ z = "wait" := fun h => by
            rw [h] at hf
            revert hf
            decide
          have q : ∀ H', Chg [] H1 H' → Q (V.bl (isName d1 && isExpr 5 d2 && inNm ns d1)) H' := fun H' c => by
            have := q H' c
            unfold step3 at this
            rw [if_neg hw, if_neg hc', if_neg hs', if_neg hg', if_pos hf] at this
            exact this
          walk_at "w"
          refine ⟨v1, d1, S, rfl, r1.same c2, smallD_str sm1, fun H3 c3 => ?_⟩
          walk_at "w"
          refine w_iteB (fun b1 => ?_) (fun b1 => ?_)
          rotate_left
          · walk_at "w"
            have := q H3 (c2.same c3)
            rw [b1] at this
            exact this
          walk_at "w"
          cases r1 with
          | str x1 =>
            refine w_inL ((c2.same c3).seq hl) rfl (flat_strs ns) ?_
            rw [inV_str]
            walk_at "w"
            refine w_iteD (fun hi => ?_) (fun hi => ?_)
            · walk_at "w"
              refine ⟨v2, d2, S, 5, rfl, by omega, r2.same (c2.same c3), fun H4 c4 => ?_⟩
              have := q H4 ((c2.same c3).same c4)
              rw [b1, show inNm ns (.str x1) = true from decide_eq_true hi, Bool.and_true] at this
              exact this
            · walk_at "w"
              have := q H3 (c2.same c3)
              rw [show inNm ns (.str x1) = false from decide_eq_false hi, Bool.and_false] at this
              exact this
          | int i => cases b1
          | non => cases b1
          | bl b => cases b1
          | lst s1 e1 a1 => cases b1
          | dic s1 e1 => cases b1
          | tup e1 a1 => cases b1
end
section
def formFrom : Str → List PyData → Bool
  | _, [] => true
  | a, r :: rs => rowOk r && (ltS a (rowName r) && formFrom (rowName r) rs)
theorem formFrom_eq : ∀ (ds : List PyData) (a : Str), formFrom a ds = (ds.all rowOk && rising (a :: ds.map rowName))
  | [], _ => rfl
  | r :: rs, a => by
    show (rowOk r && (ltS a (rowName r) && formFrom (rowName r) rs)) = ((rowOk r && rs.all rowOk) && (ltS a (rowName r) && rising (rowName r :: rs.map rowName)))
    rw [formFrom_eq rs (rowName r)]
    cases rowOk r <;> cases ltS a (rowName r) <;> cases rs.all rowOk <;> rfl
theorem ltS_empty {x : Str} (h : nameS x = true) : ltS "" x = true := by
  have h1 : 1 ≤ x.length := by
    unfold nameS at h
    simp only [Bool.and_eq_true, decide_eq_true_eq] at h
    exact h.1.1
  unfold ltS
  refine decide_eq_true ?_
  have e : (("" : Str).cps.toList) = [] := by decide +kernel
  rw [e]
  cases hx : x.cps.toList with
  | nil =>
    have : x.cps.size = 0 := by rw [← Array.length_toList, hx]; rfl
    have h2 : x.cps.size = x.length := rfl
    omega
  | cons a b => exact List.nil_lt_cons a b
theorem hasForm_from (ds : List PyData) : hasForm (.list ds) = formFrom "" ds := by
  rw [formFrom_eq]
  show (ds.all rowOk && rising (ds.map rowName)) = _
  cases ds with
  | nil => rfl
  | cons r rs =>
    show _ = ((r :: rs).all rowOk && (ltS "" (rowName r) && rising (rowName r :: rs.map rowName)))
    by_cases h : rowOk r = true
    · obtain ⟨x, ds, rfl, hx⟩ := rowOk_true h
      rw [show ltS "" (rowName (.tuple [.str x, .list ds])) = true from ltS_empty hx]
      rfl
    · have h' : rowOk r = false := by
        cases e : rowOk r with
        | true => exact absurd e h
        | false => rfl
      rw [List.all_cons, h']
      rfl
def lenRows : PyData → Bool
  | .list ds => ds.all fun r => decide ((rowSteps r).length ≤ 100000)
  | _ => true
def sp__law_wrong : Sp := fun vs H Q _ => ∃ (v : V) (d : PyData) (S : Addr → Prop), vs = [v] ∧ R S H v d ∧ smallD d = true ∧ lenOk d = true ∧ lenRows d = true ∧ (firstWrong d = none → ∀ H', Chg [] H H' → Q .non H') ∧
  ∀ o, firstWrong d = some o → ∀ p H', Chg [] H H' → H' p = some (.tup (fwV o)) → Q (.ref p) H'
def t__law_wrong (K : PySem.W.Frag) : TS :=
    tSeq (tIfS (tNot (tB (tCB (rIsi K) (tCons (tVar 0) (tCons (tC (.ty "list")) (tNil)))))) (tRet (tTup (tCons (tC .non) (tCons (tC .non) (tNil))))) (tNext))
    (tSeq (tAsg (tC (.str "")) (gName 1))
    (tSeq (tFor (iList K (tVar 0)) (gName 2) (tSeq (tIfS (tOr (tNot (tB (tCB (rIsi K) (tCons (tVar 2) (tCons (tC (.ty "tuple")) (tNil)))))) (tOr (tTest (tOp rNe (tCB (cLenQ K) (tCons (tVar 2) (tNil))) (tC (.int 2)))) (tNot (tB (tCall sp__law_is_name [] E0 (tCons (tOp (rIxT K) (tVar 2) (tC (.int 0))) (tNil))))))) (tRet (tTup (tCons (tC .non) (tCons (tC .non) (tNil))))) (tNext))
    (tSeq (tIfS (tOr (tNot (tB (tCB (rIsi K) (tCons (tOp (rIxT K) (tVar 2) (tC (.int 1))) (tCons (tC (.ty "list")) (tNil)))))) (tTest (tOp oGeS (tVar 1) (tOp (rIxT K) (tVar 2) (tC (.int 0)))))) (tRet (tTup (tCons (tC .non) (tCons (tC .non) (tNil))))) (tNext))
    (tAsg (tOp (rIxT K) (tVar 2) (tC (.int 0))) (gName 1)))))
    (tSeq (tAsg (tLc (iList K (tVar 0)) (gTup K 2 (gCons (gName 4) (gCons (gName 5) (gNil)))) (tYes) (tVar 4) [4, 5]) (gName 3))
    (tSeq (tFor (iList K (tVar 0)) (gTup K 2 (gCons (gName 4) (gCons (gName 5) (gNil)))) (tFor (iRng1 (tCons (tCB (cLenQ K) (tCons (tVar 5) (tNil))) (tNil))) (gName 6) (tIfS (tNot (tB (tCall (sp__law_is_step K) [] E0 (tCons (tOp (rIxL K) (tVar 5) (tVar 6)) (tCons (tVar 3) (tCons (tOp oSub (tOp oSub (tCB (cLenQ K) (tCons (tVar 5) (tNil))) (tC (.int 1))) (tVar 6)) (tNil))))))) (tRet (tTup (tCons (tVar 4) (tCons (tVar 6) (tNil))))) (tNext))))
    (tRet (tC .non))))))
theorem fw_bad {d : PyData} (h : hasForm d = false) : firstWrong d = some none := by
  unfold firstWrong
  rw [if_neg (by rw [h]; decide)]
theorem pure__law_wrong {K : PySem.W.Frag} (vs : List V) (H : Hp) (Q : VK) (E : XK) (h : sp__law_wrong vs H Q E) : t__law_wrong K (fin Q) (start ["program", "ahead", "row", "names", "name", "steps", "k"] vs) H := by
  obtain ⟨v, d, S, rfl, r, sm, lo, lr, qn, qs⟩ := h
  show t__law_wrong K _ [some v, none, none, none, none, none, none] H
  unfold t__law_wrong
  walk_at "w"
  cases r with
  | int i => walk_at "w"; exact k_tup (by decide) fun p H2 np c2 hp => qs none (fw_bad rfl) p H2 c2 hp
  | non => walk_at "w"; exact k_tup (by decide) fun p H2 np c2 hp => qs none (fw_bad rfl) p H2 c2 hp
  | bl b => walk_at "w"; exact k_tup (by decide) fun p H2 np c2 hp => qs none (fw_bad rfl) p H2 c2 hp
  | str b => walk_at "w"; exact k_tup (by decide) fun p H2 np c2 hp => qs none (fw_bad rfl) p H2 c2 hp
  | tup e1 a1 => walk_at "w"; exact k_tup (by decide) fun p H2 np c2 hp => qs none (fw_bad rfl) p H2 c2 hp
  | dic s e => walk_at "w"; exact k_tup (by decide) fun p H2 np c2 hp => qs none (fw_bad rfl) p H2 c2 hp
  | @lst a xs ds s e ra =>
    have ln := ra.length
    have lo' : ds.length ≤ 1000 := of_decide_eq_true lo
    walk_at "w"
    refine for_it (walk_list (K := K) (a := a) (xs := xs)) (fun i σ H1 => Chg [] H H1 ∧ ∃ ah y, hasForm (.list ds) = formFrom ah (ds.drop i) ∧ σ = [some (.ref a), some (.str ah), y, none, none, none, none]) ⟨.refl, "", none, hasForm_from ds, rfl⟩ (fun i σ H1 _ p => sqL (p.1.at e)) (fun i x σ H1 H2 hi p y => ?_) (fun σ H1 p => ?_)
    · obtain ⟨c1, ah, y1, ff, rfl⟩ := p
      obtain ⟨rfl, ex⟩ := y
      obtain ⟨d1, ed, r1⟩ := ra.get ex
      have r1 := r1.same c1
      have sm1 : smallD d1 = true := smallDs_all (ds := ds) sm _ (List.mem_of_getElem? ed)
      obtain ⟨hli, edi⟩ := List.getElem?_eq_some_iff.mp ed
      rw [List.drop_eq_getElem_cons hli, edi] at ff
      have bad : ∀ {H3 : Hp}, (rowOk d1 && (ltS ah (rowName d1) && formFrom (rowName d1) (ds.drop (i + 1)))) = false → Chg [] H2 H3 → KTup (fin Q).rt [.non, .non] H3 := fun {H3} hb c3 =>
        k_tup (by decide) fun p H4 np c4 hp => qs none (fw_bad (ff.trans hb)) p H4 ((c1.same c3).same c4) hp
      have bad0 : ∀ {H3 : Hp}, rowOk d1 = false → Chg [] H2 H3 → KTup (fin Q).rt [.non, .non] H3 := fun {H3} hb c3 => bad (by rw [hb]; rfl) c3
      walk_at "w"
      cases r1 with
      | int i => walk_at "w"; exact bad0 rfl .refl
      | non => walk_at "w"; exact bad0 rfl .refl
      | bl b => walk_at "w"; exact bad0 rfl .refl
      | str b => walk_at "w"; exact bad0 rfl .refl
      | lst s1 e1 a1 => walk_at "w"; exact bad0 rfl .refl
      | dic s1 e1 => walk_at "w"; exact bad0 rfl .refl
      | @tup b ys dt e1 ra1 =>
        have ln1 := ra1.length
        walk_at "w"
        refine w_iteD (fun h2 => ?_) (fun h2 => ?_)
        rotate_left
        · walk_at "w"
          refine bad0 (rowOk_false fun x0 ds0 e0 => ?_) .refl
          exfalso
          apply h2
          rw [ln1, PyData.tuple.inj e0]
          rfl
        cases ra1 with
        | nil => (have := V.int.inj h2; simp only [List.length_nil] at this; omega)
        | @cons v0 vs0 d0 ds0 r0 rs0 =>
          cases rs0 with
          | nil => (have := V.int.inj h2; simp only [List.length_cons, List.length_nil] at this; omega)
          | @cons v1 vs1 dd1 ds1 rr1 rs1 =>
            cases rs1 with
            | cons _ _ =>
              have := V.int.inj h2
              simp only [List.length_cons] at this
              omega
            | nil =>
              have smn : smallD d0 = true := smallDs_all (ds := [d0, dd1]) sm1 d0 (by simp)
              walk_at "w"
              refine ⟨v0, d0, S, rfl, r0, smallD_str smn, fun H3 c3 => ?_⟩
              walk_at "w"
              refine w_iteB (fun b1 => ?_) (fun b1 => ?_)
              rotate_left
              · walk_at "w"
                refine bad0 (rowOk_false fun x0 ds0 e0 => ?_) c3
                have e9 := PyData.tuple.inj e0
                simp only [List.cons.injEq, and_true] at e9
                rw [e9.1] at b1
                exact b1
              cases r0 with
              | int i => cases b1
              | non => cases b1
              | bl b => cases b1
              | lst s1 e1 a1 => cases b1
              | dic s1 e1 => cases b1
              | tup e1 a1 => cases b1
              | str x0 =>
                have e4 := c3.at e1
                have rr2 := rr1.same c3
                walk_at "w"
                cases rr1 with
                | int i => walk_at "w"; exact bad0 rfl c3
                | non => walk_at "w"; exact bad0 rfl c3
                | bl b => walk_at "w"; exact bad0 rfl c3
                | str b => walk_at "w"; exact bad0 rfl c3
                | tup e5 a5 => walk_at "w"; exact bad0 rfl c3
                | dic s5 e5 => walk_at "w"; exact bad0 rfl c3
                | @lst l5 ys5 ds5 s5 e5 ra5 =>
                  walk_at "w"
                  refine w_iteD (fun h5 => ?_) (fun h5 => ?_)
                  · walk_at "w"
                    refine ⟨c1.same c3, x0, _, ?_, rfl⟩
                    have ff : hasForm (.list ds) = (nameS x0 && (ltS ah x0 && formFrom x0 (ds.drop (i + 1)))) := ff
                    rw [show nameS x0 = true from b1, show ltS ah x0 = true from decide_eq_true h5] at ff
                    exact ff
                  · walk_at "w"
                    refine bad ?_ c3
                    show (nameS x0 && (ltS ah x0 && formFrom x0 (ds.drop (i + 1)))) = false
                    rw [show ltS ah x0 = false from decide_eq_false h5, Bool.false_and, Bool.and_false]
    · obtain ⟨c1, ah, y1, ff, rfl⟩ := p
      have hf : hasForm (.list ds) = true := by
        rw [ff, List.drop_eq_nil_of_le (by omega)]
        rfl
      have efw : firstWrong (.list ds) = (wrongIn (ds.map rowName) ds).map some := by
        unfold firstWrong
        rw [if_pos hf]
        rfl
      have allok : ds.all rowOk = true := (Bool.and_eq_true_iff.mp (show (ds.all rowOk && rising (ds.map rowName)) = true from hf)).1
      have ra1 := ra.same c1
      have e1 := c1.at e
      walk_at "w"
      refine w_lcP walk_list [] (fun _ _ => True) (fun i y _ => ∃ d, ds[i]? = some d ∧ y = .str (rowName d)) trivial (fun _ _ _ _ _ _ _ => trivial) (fun H2 c => sqL (c.at e1)) (fun D i acc z H2 H3 hi nD hD el iv c _ y => ?_) (fun D acc H2 nD c _ el hD ys => ?_)
      · obtain ⟨rfl, ex⟩ := y
        obtain ⟨d1, ed, r1⟩ := ra1.get ex
        obtain ⟨x, ds1, rfl, hx⟩ := rowOk_true (List.all_eq_true.mp allok d1 (List.mem_of_getElem? ed))
        cases r1 with
        | tup e2 ra2 =>
          cases ra2 with
          | cons r0 rs0 =>
            cases rs0 with
            | cons r3 rs3 =>
              cases rs3
              cases r0
              have e3 := c.at e2
              walk_at "w"
              exact lcp_end (fun _ _ _ _ _ _ _ => trivial) (fun _ _ _ _ _ _ _ h => h) nD (by simp) hD el (by omega) iv .refl trivial ⟨_, ed, rfl⟩
      · have e3 : acc = (ds.map rowName).map V.str := by
          apply List.ext_getElem?
          intro i
          rw [List.getElem?_map, List.getElem?_map]
          by_cases hi : i < xs.length
          · have e4 : acc[i]? = some acc[i] := List.getElem?_eq_getElem (by omega)
            obtain ⟨d1, ed, e5⟩ := ys i _ e4
            rw [e4, ed, e5]
            rfl
          · rw [List.getElem?_eq_none (by omega), List.getElem?_eq_none (by omega)]
            rfl
        subst e3
        walk_at "w"
        have e2 := c.at e1
        have ra2 := ra1.same c
        have c12 := c1.same c
        refine for_it (walk_list (K := K) (a := a) (xs := xs)) (fun i σ H3 => Chg [] H2 H3 ∧ wrongIn (ds.map rowName) ds = wrongIn (ds.map rowName) (ds.drop i) ∧ ∃ y2 y3 y4 y5 y6, σ = [some (.ref a), y5, y6, some (.ref D), y2, y3, y4]) ⟨.refl, rfl, _, _, _, _, _, rfl⟩ (fun i σ H3 _ p => sqL (p.1.at e2)) (fun i x σ H3 H4 hi p y => ?_) (fun σ H3 p => ?_)
        · obtain ⟨c3, wr, y2, y3, y4, y5, y6, rfl⟩ := p
          obtain ⟨rfl, ex⟩ := y
          obtain ⟨d1, ed, r1⟩ := ra2.get ex
          obtain ⟨x1, ds1, rfl, hx⟩ := rowOk_true (List.all_eq_true.mp allok d1 (List.mem_of_getElem? ed))
          have sm1 : smallD (.tuple [.str x1, .list ds1]) = true := smallDs_all (ds := ds) sm _ (List.mem_of_getElem? ed)
          have sm2 : smallDs ds1 = true := smallDs_all (ds := [.str x1, .list ds1]) sm1 (.list ds1) (by simp)
          obtain ⟨hli, edi⟩ := List.getElem?_eq_some_iff.mp ed
          have wr1 : wrongIn (ds.map rowName) ds = (match wrongAt (ds.map rowName) 0 ds1 with
              | some k => some (x1, k)
              | none => wrongIn (ds.map rowName) (ds.drop (i + 1))) := by
            rw [wr, List.drop_eq_getElem_cons hli, edi]
            rfl
          cases r1 with
          | tup e4 ra4 =>
            cases ra4 with
            | cons r0 rs0 =>
              cases rs0 with
              | cons r3 rs3 =>
                cases rs3
                cases r0
                cases r3 with
                | @lst l5 ys5 _ s5 e5 ra5 =>
                  have e6 := c3.at e4
                  have e7 := c3.at e5
                  have ln5 := ra5.length
                  have lr5 : ds1.length ≤ 100000 := of_decide_eq_true (List.all_eq_true.mp lr _ (List.mem_of_getElem? ed))
                  walk_at "w"
                  refine for_it (walk_range (lo := 0) (n := ((ys5.length : Nat) : Int).toNat)) (fun j σ H5 => Chg [] H4 H5 ∧ wrongAt (ds.map rowName) 0 ds1 = wrongAt (ds.map rowName) j (ds1.drop j) ∧ ∃ y4 y5 y6, σ = [some (.ref a), y5, y6, some (.ref D), some (.str x1), some (.ref l5), y4]) ⟨.refl, rfl, _, _, _, rfl⟩ (fun _ _ _ _ _ => trivial) (fun j x σ H5 H6 hj p y => ?_) (fun σ H5 p => ?_)
                  · obtain ⟨c5, wa, z4, z5, z6, rfl⟩ := p
                    obtain ⟨rfl, rfl⟩ := y
                    have hj' : j < ys5.length := by omega
                    have ey : ys5[j]? = some ys5[j] := List.getElem?_eq_getElem hj'
                    obtain ⟨d6, ed6, r6⟩ := ra5.get ey
                    have e8 := c5.at e7
                    have ej : (0 : Int) + (j : Nat) = (j : Nat) := by omega
                    show gName 6 (V.int (0 + ((j : Nat) : Int))) _ _ _
                    rw [ej]
                    have ea : atI ys5 ((j : Nat) : Int) = some ys5[j] := atI_nat ey
                    walk_at "w"
                    have c6 := c3.same c5
                    refine ⟨ys5[j], d6, S, D, ds.map rowName, (ys5.length : Int) - 1 - (j : Nat), rfl, r6.same c6, smallDs_all sm2 d6 (List.mem_of_getElem? ed6), sqL (c6.at hD), fun H7 c7 => ?_⟩
                    have eln : ((ys5.length : Int) - 1 - (j : Nat)) = ((ds1.length : Int) - (j : Nat) - 1) := by omega
                    rw [eln]
                    walk_at "w"
                    refine w_iteB (fun b1 => ?_) (fun b1 => ?_)
                    · walk_at "w"
                      exact ⟨c5.same c7, by rw [wa, wrongAt_skip ed6 b1], _, _, _, rfl⟩
                    · walk_at "w"
                      refine k_tup (by walk_at "sz") fun p H8 np c8 hp => ?_
                      refine qs (some (x1, j)) ?_ p H8 ((c12.same (c6.same c7)).same c8) hp
                      rw [efw, wr1, wa, wrongAt_here ed6 b1]
                      rfl
                  · obtain ⟨c5, wa, z4, z5, z6, rfl⟩ := p
                    refine ⟨c3.same c5, ?_, _, _, _, _, _, rfl⟩
                    rw [wr1, wa, List.drop_eq_nil_of_le (by omega)]
                    rfl
        · obtain ⟨c3, wr, y2, y3, y4, y5, y6, rfl⟩ := p
          walk_at "w"
          refine qn ?_ H3 (c12.same c3)
          rw [efw, wr, List.drop_eq_nil_of_le (by omega)]
          rfl
end
section
theorem st_smallN {s : Stp} (h : (shS s).length ≤ 3000) : smallD s.data = true := by
  have nm : ∀ x a b : Str, (a ++ " " ++ x ++ " " ++ b : Str).length ≤ 3000 → smallD (.str x) = true := fun x a b h => by
    rw [len_app, len_app, len_app, len_app] at h
    exact decide_eq_true (by omega)
  cases s with
  | cell a b =>
    show (smallD (.str "cell") && (smallD a.data && (smallD b.data && true))) = true
    rw [Ex.small a, Ex.small b]; decide +kernel
  | give x a =>
    show (smallD (.str "give") && (smallD (.str x) && (smallD a.data && true))) = true
    rw [Ex.small a, nm x _ _ h]; decide +kernel
  | fork x a =>
    show (smallD (.str "fork") && (smallD (.str x) && (smallD a.data && true))) = true
    rw [Ex.small a, nm x _ _ h]; decide +kernel
  | call x a =>
    show (smallD (.str "call") && (smallD (.str x) && (smallD a.data && true))) = true
    rw [Ex.small a, nm x _ _ h]; decide +kernel
  | wait => decide +kernel
  | skip a k =>
    show (smallD (.str "skip") && (smallD a.data && (smallD (.int k) && true))) = true
    rw [Ex.small a]
    show (smallD (.str "skip") && (true && (true && true))) = true
    decide +kernel
theorem prg_smT {p : Prg} (h : (shP p).length ≤ 3000) : smallD (prgD p) = true ∧ lenOk (prgD p) = true ∧ lenRows (prgD p) = true := by
  have row : ∀ r ∈ p, r.1.length ≤ 3000 ∧ r.2.length ≤ 3000 ∧ ∀ s ∈ r.2, (shS s).length ≤ 3000 := fun r hr => by
    have h1 := shP_row hr
    have h2 := shH_len r.1 r.2
    have h3 : shH (r.1, r.2) = shH r := rfl
    rw [h3] at h2
    refine ⟨by split at h2 <;> omega, by split at h2 <;> omega, fun s hs => ?_⟩
    have := shH_step hs
    omega
  refine ⟨smallDs_of fun d hd => ?_, decide_eq_true ?_, List.all_eq_true.mpr fun d hd => ?_⟩
  · obtain ⟨r, hr, rfl⟩ := List.mem_map.mp hd
    obtain ⟨a, _, c⟩ := row r hr
    show (smallD (.str r.1) && (smallDs (r.2.map Stp.data) && true)) = true
    rw [show smallD (.str r.1) = true from decide_eq_true (by omega), smallDs_of fun d hd => by
      obtain ⟨s, hs, rfl⟩ := List.mem_map.mp hd
      exact st_smallN (c s hs)]
    rfl
  · rw [List.length_map]
    have := join_few (y := "; ") (ps := p.map shH) (k := 1) fun q hq => by
      obtain ⟨r, _, rfl⟩ := List.mem_map.mp hq
      have := List.length_pos_of_mem (shH_ne r)
      rw [tl_len]
      omega
    rw [List.length_map, len_sm] at this
    have e : (shP p).length = (Txt.join "; " (p.map shH)).length := rfl
    omega
  · obtain ⟨r, hr, rfl⟩ := List.mem_map.mp hd
    obtain ⟨_, b, _⟩ := row r hr
    refine decide_eq_true ?_
    show (r.2.map Stp.data).length ≤ 100000
    rw [List.length_map]
    omega
def sp__law_read : Sp := fun vs H Q _ => ∃ (v : V) (d : PyData) (S : Addr → Prop), vs = [v] ∧ R S H v d ∧ (∀ x, d = .str x → x.length ≤ 3000 ∧ FigL (tlS x)) ∧ (rdV d = none → ∀ H', Chg [] H H' → Q .non H') ∧
  ∀ ds, rdV d = some ds → ∀ (F : Addr) (H' : Hp), Chg [] H H' → H F = none → R (fun _ => True) H' (.ref F) (.list ds) → Q (.ref F) H'
def t__law_read (K : PySem.W.Frag) : TS :=
    tSeq (tIfS (tNot (tB (tCB (rIsi K) (tCons (tVar 0) (tCons (tC (.ty "str")) (tNil)))))) (tRet (tC .non)) (tNext))
    (tSeq (tAsg (tLst (tNil)) (gName 1))
    (tSeq (tAsg (tC (.int 0)) (gName 2))
    (tSeq (tWhile (tAnd (tTest (tOp rNe (tVar 0) (tC (.str "")))) (tTest (tOp oGe (tVar 2) (tC (.int 0))))) (tSeq (tAsg (tCall sp__law_helper_read [] E0 (tCons (tVar 0) (tCons (tVar 2) (tNil)))) (gName 3))
    (tSeq (tIfS (tOr (tTest (tOp oIsN (tVar 3) (tC .non))) (tAnd (tTest (tOp oLt (tOp (rIxT K) (tVar 3) (tC (.int 1))) (tCB cLenS (tCons (tVar 0) (tNil))))) (tTest (tOp rNe (tSl rSlS (tVar 0) (tPart (tOp (rIxT K) (tVar 3) (tC (.int 1)))) (tPart (tOp oAdd (tOp (rIxT K) (tVar 3) (tC (.int 1))) (tC (.int 2))))) (tC (.str "; ")))))) (tRet (tC .non)) (tNext))
    (tSeq (tDrop (tBM K "list" rAppend (tVar 1) (tCons (tOp (rIxT K) (tVar 3) (tC (.int 0))) (tNil))))
    (tAsg (tIf (tTest (tOp oLt (tOp (rIxT K) (tVar 3) (tC (.int 1))) (tCB cLenS (tCons (tVar 0) (tNil))))) (tOp oAdd (tOp (rIxT K) (tVar 3) (tC (.int 1))) (tC (.int 2))) (tUn (rU fun i => .int (-i)) (tC (.int 1)))) (gName 2))))))
    (tRet (tIf (tTest (tOp oIsN (tCall sp__law_wrong [] E0 (tCons (tVar 1) (tNil))) (tC .non))) (tVar 1) (tC .non))))))
def t_lr_st (K : PySem.W.Frag) : TS :=
    tSeq (tAsg (tCall sp__law_helper_read [] E0 (tCons (tVar 0) (tCons (tVar 2) (tNil)))) (gName 3))
    (tSeq (tIfS (tOr (tTest (tOp oIsN (tVar 3) (tC .non))) (tAnd (tTest (tOp oLt (tOp (rIxT K) (tVar 3) (tC (.int 1))) (tCB cLenS (tCons (tVar 0) (tNil))))) (tTest (tOp rNe (tSl rSlS (tVar 0) (tPart (tOp (rIxT K) (tVar 3) (tC (.int 1)))) (tPart (tOp oAdd (tOp (rIxT K) (tVar 3) (tC (.int 1))) (tC (.int 2))))) (tC (.str "; ")))))) (tRet (tC .non)) (tNext))
    (tSeq (tDrop (tBM K "list" rAppend (tVar 1) (tCons (tOp (rIxT K) (tVar 3) (tC (.int 0))) (tNil))))
    (tAsg (tIf (tTest (tOp oLt (tOp (rIxT K) (tVar 3) (tC (.int 1))) (tCB cLenS (tCons (tVar 0) (tNil))))) (tOp oAdd (tOp (rIxT K) (tVar 3) (tC (.int 1))) (tC (.int 2))) (tUn (rU fun i => .int (-i)) (tC (.int 1)))) (gName 2))))
def t_lr_ret  : TS :=
    tRet (tIf (tTest (tOp oIsN (tCall sp__law_wrong [] E0 (tCons (tVar 1) (tNil))) (tC .non))) (tVar 1) (tC .non))
/-- what the loop over the helpers keeps -/
def LrW (x : Str) (F : Addr) (H : Hp) (R : Option Prg) : Nat → L2.St → Hp → Prop := fun m σ Hn =>
  ∃ (z : Int) (p : Prg) (rows : List V) (a3 : Option V), Chg [] H Hn ∧ Hn F = some (.lst rows) ∧ PRows H Hn F rows (p.map rowP) ∧ σ = [some (.str x), some (.ref F), some (.int z), a3] ∧
    ((z = -1 ∧ m = 0 ∧ R = some p) ∨ ∃ e f : Nat, z = (e : Nat) ∧ m = x.length + 1 - e ∧ e ≤ x.length ∧ p.length ≤ e ∧ x.length - e < f ∧ R = (lrPs f ((tlS x).drop e)).map fun q => p ++ q)
theorem lr_ret {K : PySem.W.Frag} {Q : VK} {H Hn : Hp} {x : Str} {F : Addr} {p : Prg} {rows : List V} {z : Int} {a3 : Option V} (hl : x.length ≤ 3000) (fl : FigL (tlS x)) (hp : lrP (tlS x) = some p) (cn : Chg [] H Hn) (nF : H F = none) (hF : Hn F = some (.lst rows)) (pr : PRows H Hn F rows (p.map rowP))
    (q0 : Fg.rdP x = none → ∀ H', Chg [] H H' → Q .non H') (q1 : ∀ ds, Fg.rdP x = some ds → ∀ (F : Addr) (H' : Hp), Chg [] H H' → H F = none → R (fun _ => True) H' (.ref F) (.list ds) → Q (.ref F) H') :
    t_lr_ret (fin Q) [some (.str x), some (.ref F), some (.int z), a3] Hn := by
  unfold t_lr_ret
  have ex : x = shP p := tl_inj (lrP_sound hp)
  obtain ⟨s1, s2, s3⟩ := prg_smT (p := p) (by rw [← ex]; exact hl)
  have rs := read_same (x := x) (by omega) fl
  rw [hp] at rs
  have rs : Fg.rdP x = if firstWrong (prgD p) = none then some (p.map rowD) else none := rs
  have rr : R (fun _ => True) Hn (.ref F) (prgD p) := by
    obtain ⟨ts, ds, rfl, _, pp⟩ := pr
    have := PRX.r pp hF
    rw [prgDP_of] at this
    exact this
  walk_at "w"
  refine ⟨.ref F, prgD p, _, rfl, rr, s1, s2, s3, fun hf H2 c2 => ?_, fun o ho P H2 c2 hP => ?_⟩
  · rw [if_pos hf] at rs
    walk_at "w"
    exact q1 _ rs F H2 (cn.same c2) nF (rr.same c2)
  · rw [if_neg (by rw [ho]; simp)] at rs
    walk_at "w"
    exact q0 rs H2 (cn.same c2)
theorem pure__law_read {K : PySem.W.Frag} (vs : List V) (H : Hp) (Q : VK) (E : XK) (h : sp__law_read vs H Q E) : t__law_read K (fin Q) (start ["text", "found", "at", "got"] vs) H := by
  obtain ⟨v, d, S, rfl, r, hx, q0, q1⟩ := h
  show t__law_read K _ [some v, none, none, none] H
  show tSeq _ (tSeq _ (tSeq _ (tSeq (tWhile _ (t_lr_st K)) t_lr_ret))) (fin Q) _ H
  by_cases hd : dStr d = true
  · cases r with
    | str x =>
      have r : R S H (.str x) (.str x) := .str x
      obtain ⟨hl, fl⟩ := hx x rfl
      have q0 : Fg.rdP x = none → ∀ H', Chg [] H H' → Q .non H' := q0
      have q1 : ∀ ds, Fg.rdP x = some ds → ∀ (F : Addr) (H' : Hp), Chg [] H H' → H F = none → R (fun _ => True) H' (.ref F) (.list ds) → Q (.ref F) H' := q1
      have lx : x.length ≤ sizeLine := Nat.le_trans hl (by decide)
      have ex := tl_len x
      walk_at "w"
      refine k_lst (by walk_at "sz") fun F H0 nF c0 hF => ?_
      walk_at "w"
      by_cases x0 : x = ""
      · subst x0
        refine w_while ⟨fun m σ Hn => Hn = H0 ∧ σ = [some (.str ""), some (.ref F), some (.int 0), none], ⟨0, rfl, rfl⟩, fun m σ Hn inv => ?_⟩
        obtain ⟨rfl, rfl⟩ := inv
        have nx : decide (V.str "" = V.str "") = true := decide_eq_true rfl
        have lp0 : lrP (tlS "") = some [] := if_pos (by decide +kernel)
        walk_at "w"
        exact lr_ret (K := K) (p := []) hl fl lp0 c0 nF hF .nil q0 q1
      · refine w_while ⟨LrW x F H (lrP (tlS x)), ⟨x.length + 1, 0, [], [], none, c0, hF, .nil, rfl, .inr ⟨0, (tlS x).length + 1, rfl, rfl, by omega, by simp, by omega, by
            unfold lrP
            rw [if_neg (fun z => x0 (tl_inj (by rw [z]; rfl))), List.drop_zero]
            cases lrPs ((tlS x).length + 1) (tlS x) <;> rfl⟩⟩, fun m σ Hn inv => ?_⟩
        obtain ⟨z, p, rows, a3, cn, hFn, pr, rfl, hz⟩ := inv
        have nx : decide (V.str x = V.str "") = false := decide_eq_false fun z => x0 (V.str.inj z)
        walk_at "w"
        rw [nx]
        walk_at "w"
        rcases hz with ⟨rfl, rfl, hR⟩ | ⟨e, f, rfl, rfl, he, hpe, hf, hR⟩
        · refine w_iteNo (by decide) ?_
          exact lr_ret (K := K) hl fl hR cn nF hFn pr q0 q1
        · refine w_iteYes (decide_eq_true (by omega)) ⟨_, fun σ' H' z => z, ?_⟩
          obtain ⟨f, rfl⟩ : ∃ f', f = f' + 1 := ⟨f - 1, by omega⟩
          have bad : lrP (tlS x) = none → Fg.rdP x = none := fun hn => by rw [read_same (by omega) fl, hn]; rfl
          rw [show lrPs (f + 1) ((tlS x).drop e) = (lrH ((tlS x).drop e)).bind fun h => if h.2 = [] then some [h.1] else if h.2.take 2 = [59, 32] then (lrPs f (h.2.drop 2)).map (h.1 :: ·) else none from rfl] at hR
          unfold t_lr_st
          walk_at "w"
          refine ⟨x, e, rfl, hl, by omega, fl, fun hn H2 c2 => ?_, fun nm ss r es T T2 D us j H2 c2 hT hT2 nD hD im ed hj => ?_⟩
          · walk_at "w"
            exact q0 (bad (by rw [hR, hn]; rfl)) H2 (cn.same c2)
          · rw [es] at hR
            have hR : lrP (tlS x) = (if r = [] then some [(nm, ss)] else if r.take 2 = [59, 32] then (lrPs f (r.drop 2)).map ((nm, ss) :: ·) else none).map fun q => p ++ q := hR
            have adv : e < j := by
              have e1 := lrH_sound es
              have h1 := congrArg List.length e1
              rw [List.length_drop, List.length_append, ← ed, List.length_drop] at h1
              have := List.length_pos_of_mem (shH_ne (nm, ss))
              omega
            have hF2 := c2.at hFn
            have nD0 : H D = none := cn.dom D nD
            have neT2F : T2 ≠ F := fun z => by rw [z, hF2] at hT2; cases hT2
            have neTF : T ≠ F := fun z => by rw [z, hF2] at hT; cases hT
            have neDF : D ≠ F := fun z => by rw [z, hFn] at nD; cases nD
            have lrows : rows.length = p.length := by rw [pr.len, List.length_map]
            have app_ : ∀ {H3 : Hp}, Chg [F] H2 H3 → H3 F = some (.lst (rows ++ [.ref T2])) → PRows H H3 F (rows ++ [.ref T2]) ((p ++ [(nm, ss)]).map rowP) := fun c3 h3 => by
              rw [List.map_append]
              exact pr.snoc (r := rowP (nm, ss)) (fun ts ds h1 q => (q.keep c2 (by simp)).keep c3 fun d hd hm => (h1 d hd).2 (List.mem_singleton.mp hm)) nD (c3.at1 hT2 neT2F) ⟨nD0, neDF⟩ (c3.at1 hD neDF) (RA.im c3 im)
            have fit : rows.length < sizeLine := Nat.lt_of_le_of_lt (show rows.length ≤ 3000 by omega) (by decide)
            walk_at "w"
            refine w_iteD (fun hj1 => ?_) (fun hj1 => ?_)
            · have hj1 : j < x.length := by omega
              have rne : r ≠ [] := fun z => by
                have := congrArg List.length ed
                rw [z, List.length_drop] at this
                simp only [List.length_nil] at this
                omega
              rw [if_neg rne] at hR
              walk_at "w"
              rw [two_sign x j _ 59 32 sem_tl]
              refine w_iteD (fun h2 => ?_) (fun h2 => ?_)
              · rw [ed] at h2
                rw [if_pos h2] at hR
                have hj2 : j + 2 ≤ x.length := by
                  have := congrArg List.length h2
                  rw [← ed, List.length_take, List.length_drop] at this
                  simp only [List.length_cons, List.length_nil] at this
                  omega
                walk_at "w"
                refine w_append hF2 fit fun H3 c3 hF3 => ?_
                have hT3 := c3.at1 hT neTF
                walk_at "w"
                refine w_iteYes (decide_eq_true (by omega)) ?_
                walk_at "w"
                refine ⟨x.length + 1 - (j + 2), by omega, _, p ++ [(nm, ss)], _, _, (cn.same c2).one c3 nF, hF3, app_ c3 hF3, rfl, .inr ⟨j + 2, f, by omega, rfl, hj2, by rw [List.length_append]; simp only [List.length_cons, List.length_nil]; omega, by omega, ?_⟩⟩
                rw [hR, ← ed, List.drop_drop, Option.map_map]
                congr 1
                funext q
                show p ++ ((nm, ss) :: q) = (p ++ [(nm, ss)]) ++ q
                simp
              · rw [ed] at h2
                rw [if_neg h2] at hR
                walk_at "w"
                exact q0 (bad hR) H2 (cn.same c2)
            · have hj1 : j = x.length := by omega
              have r0 : r = [] := by rw [← ed]; exact List.drop_of_length_le (by omega)
              rw [if_pos r0] at hR
              walk_at "w"
              refine w_append hF2 fit fun H3 c3 hF3 => ?_
              have hT3 := c3.at1 hT neTF
              walk_at "w"
              refine w_iteNo (decide_eq_false (by omega)) ?_
              walk_at "w"
              exact ⟨0, by omega, _, p ++ [(nm, ss)], _, _, (cn.same c2).one c3 nF, hF3, app_ c3 hF3, rfl, .inl ⟨rfl, rfl, hR⟩⟩
    | _ => cases hd
  · have hd : dStr d = false := by simpa using hd
    walk_at "w"
    refine w_iteNo hd ?_
    walk_at "w"
    exact q0 (by cases d <;> first | rfl | cases hd) H .refl
end
section
theorem rowDP_inj {a b : List RowP} (h : a.map rowDP = b.map rowDP) : a = b := by
  refine (List.map_inj_right (f := rowDP) fun x y e => ?_).mp h
  have e : PyData.tuple [.str x.1, .list x.2] = .tuple [.str y.1, .list y.2] := e
  injection e with e
  injection e with e1 e2
  injection e2 with e2 _
  injection e1 with e1
  injection e2 with e2
  exact Prod.ext e1 e2
theorem rowDP_of (p : Prg) : p.map rowD = (p.map rowP).map rowDP := by
  rw [List.map_map]
  rfl
def sp__law_plain_refusal (K : PySem.W.Frag) : Sp := fun vs H Q _ => ∃ a : Addr, vs = [.ref a] ∧ H a = some (ExH (.ref (He.ga K "NoText")) none a) ∧ ∀ H', Chg [] H H' → Q (.bl true) H'
def t__law_plain_refusal (K : PySem.W.Frag) : TS :=
    tSeq (tIfS (tB (tCB (rIsNT K) (tCons (tVar 0) (tCons (tTup (tCons (tC (.ref (He.ga K "NoHand"))) (tCons (tC (.ref (He.ga K "NoHelper"))) (tCons (tC (.ref (He.ga K "NoMark"))) (tCons (tC (.ref (He.ga K "NoProgram"))) (tCons (tC (.ref (He.ga K "NotOver"))) (tCons (tC (.ref (He.ga K "TooLong"))) (tNil)))))))) (tNil))))) (tRet (tC (.bl false))) (tNext))
    (tRet (tAndV (tCB (rIsN K) (tCons (tVar 0) (tCons (tC (.ref (He.ga K "NoText"))) (tNil)))) (tCB (rIsN K) (tCons (tVar 0) (tCons (tC (.ty "ValueError")) (tNil))))))
theorem pure__law_plain_refusal {K : PySem.W.Frag} (NT : NTf K) (vs : List V) (H : Hp) (Q : VK) (E : XK) (h : sp__law_plain_refusal K vs H Q E) : t__law_plain_refusal K (fin Q) (start ["caught"] vs) H := by
  obtain ⟨a, rfl, ha, q⟩ := h
  show t__law_plain_refusal K _ [some (.ref a)] H
  unfold t__law_plain_refusal
  walk_at "w"
  refine k_tup (by walk_at "sz") fun T H1 nT c1 hT => ?_
  walk_at "w"
  refine .inl ⟨a, He.ga K "NoText", T, _, _, false, rfl, hT, sixT_paired, c1.at ha, NT.is, NT.no, ?_⟩
  walk_at "w"
  refine .inl ⟨a, He.ga K "NoText", _, _, true, rfl, .own _, c1.at ha, NT.is, NT.yes, ?_⟩
  walk_at "w"
  refine .inl ⟨a, He.ga K "NoText", _, _, true, rfl, .ty _, c1.at ha, NT.is, NT.ve, ?_⟩
  walk_at "w"
  exact q H1 c1
theorem prg_depthW {p : Prg} (h : PrgW p) : (prgD p).depth ≤ 10 := by
  have : PyData.depthAll (p.map rowD) ≤ 9 := depthAll_le fun d hd => by
    obtain ⟨r, hr, rfl⟩ := List.mem_map.mp hd
    have : PyData.depthAll (r.2.map Stp.data) ≤ 6 := depthAll_le fun d hd => by
      obtain ⟨s, hs, rfl⟩ := List.mem_map.mp hd
      obtain ⟨bh, hb⟩ := stepsOk_mem (h.steps r hr) s hs
      exact Stp.depth_le hb
    show max 0 (max (PyData.depthAll (r.2.map Stp.data) + 1) 0) + 1 ≤ 9
    omega
  show PyData.depthAll (p.map rowD) + 1 ≤ 10
  omega
def sp__law_asked53 (K : PySem.W.Frag) : Sp := fun vs H Q _ => ∃ (v : V) (d : PyData) (S : Addr → Prop), vs = [v] ∧ R S H v d ∧ (∀ x, d = .str x → x.length ≤ 3000 ∧ FigL (tlS x)) ∧ ∀ H', Chg [] H H' → Q (.bl true) H'
def t__law_asked53 (K : PySem.W.Frag) : TS :=
    tSeq (tAsg (tC .non) (gName 1))
    (tSeq (tAsg (tC .non) (gName 2))
    (tSeq (tTryH K (.ref (He.ga K "WorkError")) 3 (fun W => tAsg (tCallSD (sp_read_program K) [] (WE (W)) (tCons (tVar 0) (tNil))) (gName 1)) (fun a cls d => tAsg (tVar 3) (gName 2)) (fun _ _ _ _ => False))
    (tSeq (tAsg (tCall sp__law_read [] E0 (tCons (tVar 0) (tNil))) (gName 4))
    (tSeq (tIfS (tTest (tOp oIsN (tVar 4) (tC .non))) (tRet (tAndV (tOp oNotN (tVar 2) (tC .non)) (tCall (sp__law_plain_refusal K) [] E0 (tCons (tVar 2) (tNil))))) (tNext))
    (tRet (tAndV (tOp oIsN (tVar 2) (tC .non)) (tAndV (tCB (rIsi K) (tCons (tVar 1) (tCons (tC (.ty "list")) (tNil)))) (tOp oEqD (tVar 1) (tVar 4)))))))))
def t_asked53_end (K : PySem.W.Frag) : TS :=
    tSeq (tAsg (tCall sp__law_read [] E0 (tCons (tVar 0) (tNil))) (gName 4))
    (tSeq (tIfS (tTest (tOp oIsN (tVar 4) (tC .non))) (tRet (tAndV (tOp oNotN (tVar 2) (tC .non)) (tCall (sp__law_plain_refusal K) [] E0 (tCons (tVar 2) (tNil))))) (tNext))
    (tRet (tAndV (tOp oIsN (tVar 2) (tC .non)) (tAndV (tCB (rIsi K) (tCons (tVar 1) (tCons (tC (.ty "list")) (tNil)))) (tOp oEqD (tVar 1) (tVar 4))))))
theorem pure__law_asked53 {K : PySem.W.Frag} (NT : NTf K) (vs : List V) (H : Hp) (Q : VK) (E : XK) (h : sp__law_asked53 K vs H Q E) : t__law_asked53 K (fin Q) (start ["text", "found", "caught", "e", "due"] vs) H := by
  obtain ⟨v, d, S, rfl, r, hx, q⟩ := h
  show t__law_asked53 K _ [some v, none, none, none, none] H
  show tSeq _ (tSeq _ (tSeq _ (t_asked53_end K))) (fin Q) _ H
  walk_at "w"
  refine w_tryH ?_
  generalize hW : wHold K _ _ _ _ _ = W
  show tAsg (tCallSD (sp_read_program K) [] (WE W) (tCons (tVar 0) (tNil))) (gName 1) _ _ _
  refine w_asg (w_callX (w_cons (w_var rfl (w_nil ?_))))
  refine ⟨v, d, S, rfl, r, fun y e => ?_, fun rs ers G rows H8 c8 nG hG prw => ?_, fun eN H' c' => ?_⟩
  · obtain ⟨h1, h2⟩ := hx y e
    exact ⟨by omega, h2, rowsSm_of h1⟩
  · cases d with
    | str x =>
      obtain ⟨h1, h2⟩ := hx x rfl
      have ers : Fg.rdP x = some (rs.map rowDP) := ers
      obtain ⟨p, ep, ex, pw⟩ := rdP_sound ers (by omega)
      have e2 : rs = p.map rowP := rowDP_inj (by rw [ep, rowDP_of])
      subst e2
      have r8 : R (fun _ => True) H8 (.ref G) (prgD p) := by
        obtain ⟨ts2, ds2, rfl, _, pr6⟩ := prw
        have r6 := PRX.r pr6 hG
        rw [prgDP_of] at r6
        exact r6
      walk_at "w"
      unfold t_asked53_end
      walk_at "w"
      refine ⟨v, .str x, S, rfl, r.same c8, fun z ez => by cases ez; exact ⟨h1, h2⟩, fun e0 => ?_, fun ds eds F H9 c9 nF r9 => ?_⟩
      · have e0 : Fg.rdP x = none := e0
        rw [e0] at ers; cases ers
      · have eds : Fg.rdP x = some ds := eds
        rw [ep] at ers
        rw [ers] at eds
        have eds := Option.some.inj eds
        subst eds
        have r9 : R (fun _ => True) H9 (.ref F) (prgD p) := r9
        have r89 := r8.same c9
        walk_at "w"
        refine w_eqD r89 r9 (prg_noDic p) (prg_noDic p) (by have := prg_depthW pw; omega) ?_
        rw [eqv_self _ (prg_noDic p)]
        exact q H9 (c8.same c9)
    | _ => cases ers
  · subst hW
    refine ⟨true, NT.exm, fun _ a na => ?_, fun z => by cases z⟩
    walk_at "w"
    intro _
    unfold t_asked53_end
    have ha : upd H' a (ExH (.ref (He.ga K "NoText")) none a) a = some (ExH (.ref (He.ga K "NoText")) none a) := upd_same
    have c2 : Chg [] H (upd H' a (ExH (.ref (He.ga K "NoText")) none a)) := c'.same (.new na)
    walk_at "w"
    refine ⟨v, d, S, rfl, r.same c2, hx, fun e0 H9 c9 => ?_, fun ds eds => by rw [eN] at eds; cases eds⟩
    walk_at "w"
    refine ⟨a, rfl, c9.at ha, fun H10 c10 => ?_⟩
    walk_at "w"
    exact q H10 ((c2.same c9).same c10)
end
end Fg
namespace Fg
open PySem PySem.Spec PyProof.Rows L2
theorem rep_len (c : Array Nat) : ∀ (n : Nat) (a : Array Nat), ((List.replicate n c).foldl (· ++ ·) a).size = a.size + n * c.size
  | 0, a => by simp
  | n + 1, a => by
    rw [List.replicate_succ, List.foldl_cons, rep_len c n (a ++ c), Array.size_append, Nat.succ_mul]
    omega
def rMulA : R2 := fun x y H Q => ∃ (z : Str) (n : Nat), x = .str z ∧ y = .int (n : Nat) ∧ n ≤ 3000 ∧ 1 ≤ z.length ∧ z.length ≤ 1000 ∧ ∀ w : Str, w.length = n * z.length → Q (.str w) H
theorem p_mulA {X : Cx} : OpR X (binaryOp .Mult) rMulA := by
  intro pins s σ H x y v u Q I rx ry h
  obtain ⟨z, n, rfl, rfl, hn, hz, hz1, q⟩ := h
  obtain ⟨t, rfl⟩ := rx
  obtain ⟨t', rfl⟩ := ry
  refine PySem.P.mul_str (by
      have a1 : ¬ ((n : Nat) : Int) < -(2 ^ 63 : Int) := by omega
      have a2 : ¬ ((n : Nat) : Int) ≥ 2 ^ 63 := by omega
      rw [decide_eq_false a1, decide_eq_false a2]; rfl) (fun h1 _ => ?_) (fun _ _ => ?_) ?_
  · have : (1000 : Int) ≤ (2 ^ 63 - 1) / ((n : Nat) : Int) := by
      rw [Int.le_ediv_iff_mul_le (by omega)]
      omega
    omega
  · have : z.length * n ≤ 1000 * 3000 := Nat.mul_le_mul hz1 hn
    rw [Int.toNat_natCast]
    exact decide_eq_false (by have := (show 1000 * 3000 ≤ sizeLine by decide); omega)
  · by_cases h0 : ((n : Nat) : Int) < 1
    · rw [if_pos h0]
      have e0 : n = 0 := by omega
      subst e0
      exact ⟨by decide, ⟨.str _, H, I.tok _, ⟨_, rfl⟩, q _ (by rw [Nat.zero_mul]; rfl)⟩⟩
    · rw [if_neg h0]
      by_cases h1 : (((n : Nat) : Int) == 1 || z.length == 0) = true
      · rw [if_pos h1]
        have e1 : n = 1 := by
          rcases Bool.or_eq_true_iff.mp h1 with h | h
          · have := eq_of_beq h; omega
          · have := eq_of_beq h; omega
        subst e1
        exact ⟨.str _, H, I, ⟨_, rfl⟩, q _ (by rw [Nat.one_mul])⟩
      · rw [if_neg h1, Int.toNat_natCast]
        have hl : (⟨(List.replicate n z.cps).foldl (· ++ ·) #[]⟩ : Str).length = n * z.length := by
          show ((List.replicate n z.cps).foldl (· ++ ·) #[]).size = n * z.cps.size
          rw [rep_len]
          simp
        refine ⟨?_, ⟨.str _, H, I.tok _, ⟨_, rfl⟩, q _ hl⟩⟩
        have : n * z.length ≤ 3000 * 1000 := Nat.mul_le_mul hn hz1
        rw [hl]
        exact Nat.le_trans this (by decide)
theorem w_mulA {z : Str} {n : Nat} {H : Hp} {Q : VK} (hn : n ≤ 3000) (hz : 1 ≤ z.length) (hz1 : z.length ≤ 1000) (q : ∀ w : Str, w.length = n * z.length → Q (.str w) H) : rMulA (.str z) (.int (n : Nat)) H Q := ⟨z, n, rfl, rfl, hn, hz, hz1, q⟩
end Fg
namespace LmX
open PySem PySem.Spec PyProof.Rows L2 LamX NdefX
/-- a lambda's words, the cells that it captured, its code object -/
structure LF where
  qual : Str
  params : Arguments
  body : Expr
  scope : Scope
  cl : List (Str × Addr)
  c : Addr
abbrev LF.fd (F : LF) (pm ctv : Value) : FuncData := PySem.W.kla_fn "<lambda>" F.qual F.params F.body F.scope F.cl pm (.ref F.c) ctv
/-- the object at f is the lambda F -/
def LmO (f : Addr) (F : LF) : HO := .ext fun h => ∃ (od : Option Addr) (sl : Array (Option Value)) (pm ctv : Value), h.get? f = some (⟨.type "function", od, .func (F.fd pm ctv), sl⟩ : Obj)
end LmX
namespace LmX
open PySem PySem.Spec PyProof.Rows L2 LamX NdefX
structure LmOk (P : Program) (w : World) (K : PySem.W.Frag) (mg : Str → Option Value) (base : Heap) (k : Nat) (mk : Addr → LF) (sp : Sp) : Prop where
  run : ∀ (f c' : Addr) (A : Around) (outer : List Env) (s : Shared) (H : Hp) (us : List Value) (vs : List V) (Q : VK), Room k A → Env0 P w K mg base A outer s H → H f = some (LmO f (mk c')) → H c' = some (CodeO c' (mk c').qual) →
    Vals vs us → sp vs H Q L2.E0 → codeAny (model P w) A (.call (.ref f) ⟨us, []⟩) (CR L2.CX0 outer P w H s Q L2.E0) s
section
variable {P : Program} {w : World} {K : PySem.W.Frag} {mg : Str → Option Value} {base : Heap} {k j : Nat} {mk : Addr → LF} {sp : Sp}
theorem LmOk.mono (o : LmOk P w K mg base j mk sp) (h : j ≤ k) : LmOk P w K mg base k mk sp := ⟨fun f c' A outer s H us vs Q hr => o.run f c' A outer s H us vs Q (hr.mono h)⟩
end
end LmX
namespace LmX
open PySem PySem.Spec PyProof.Rows L2 LamX NdefX
abbrev tJoin (ts : List TE) : TE := fun σ H Q => tJs ts Str.empty σ H fun out H1 => Q (.str out) H1
end LmX
namespace Fg
open PySem PySem.Spec PyProof.Rows L2 LmX
local macro_rules | `(tactic| walk_at "hp") => `(tactic| first
  | assumption
  | exact upd_same
  | (refine Chg.at (by assumption) ?_; walk_at "hp")
  | (refine Chg.at1 (by assumption) ?_ (by walk_at "ne"); walk_at "hp"))
local macro_rules | `(tactic| walk_at "ne") => `(tactic| first | assumption | (apply Ne.symm; assumption))
local macro_rules | `(tactic| walk_at "sq") => `(tactic| first | assumption | exact sqL (by walk_at "hp") | (refine Chg.seq (by assumption) ?_; walk_at "sq"))
local macro_rules | `(tactic| walk_at "sz") => `(tactic| first | assumption | exact Nat.zero_le _ | (simp only [List.length_cons, List.length_nil]; decide) | exact Nat.le_trans (by first | omega | (simp; done) | (simp; omega)) (show 100000 ≤ sizeLine by decide) | exact Nat.lt_of_lt_of_le (by first | omega | (simp; done) | (simp; omega)) (show 100000 ≤ sizeLine by decide))
local macro_rules | `(tactic| walk_at "ix") => `(tactic| first | exact at0 | exact at1 | exact at2 | exact at3 | assumption | exact rfl | walk_at "ix2")
local macro_rules | `(tactic| walk_at "ix2") => `(tactic| fail)
local macro_rules | `(tactic| walk_at "num") => `(tactic| first | assumption | omega | decide | walk_at "num2")
local macro_rules | `(tactic| walk_at "num2") => `(tactic| fail)
local macro_rules | `(tactic| walk_at "im") => `(tactic| first | assumption | exact R.non (S := fun _ => False) | exact R.bl (S := fun _ => False) _ | exact R.int (S := fun _ => False) _ | exact R.str (S := fun _ => False) _ | (refine R.im (by assumption) ?_; walk_at "im"))
local macro_rules | `(tactic| walk_at "r") => `(tactic| first | assumption | exact R.non (S := fun _ => False) | exact R.bl (S := fun _ => False) _ | exact R.int (S := fun _ => False) _ | exact R.str (S := fun _ => False) _ | (refine R.same (by assumption) ?_; walk_at "r") | exact R.any (by walk_at "im"))
local macro_rules | `(tactic| walk_at "chg") => `(tactic| first
  | exact Chg.refl
  | assumption
  | (refine Chg.same ?_ (by assumption); walk_at "chg")
  | (refine Chg.both ?_ (by assumption); walk_at "chg")
  | (refine Chg.pre (by assumption) ?_; walk_at "chg"))
local macro_rules | `(tactic| walk_at "w1") => `(tactic| first
  | with_reducible apply w_seq
  | with_reducible apply w_asg
  | ((with_reducible apply w_var); (focus (exact rfl)))
  | with_reducible apply w_c
  | with_reducible apply w_op
  | with_reducible apply w_cons
  | with_reducible apply w_nil
  | with_reducible apply w_gName
  | with_reducible apply w_if
  | with_reducible apply w_test
  | with_reducible apply w_B
  | with_reducible apply w_isbl
  | with_reducible apply w_retN
  | with_reducible apply w_next
  | with_reducible apply w_drop
  | with_reducible apply w_cb
  | with_reducible apply w_call
  | with_reducible apply w_callN
  | with_reducible apply w_bm
  | with_reducible apply w_bm0
  | ((with_reducible apply w_tyL); (focus (walk_at "hp"; done)))
  | with_reducible apply w_dput
  | with_reducible apply w_m1
  | with_reducible apply w_isstr
  | with_reducible apply w_and
  | with_reducible apply w_or
  | with_reducible apply w_not
  | with_reducible apply w_andV
  | with_reducible apply w_orV
  | with_reducible apply w_notV
  | with_reducible apply w_ifE
  | with_reducible apply w_chain
  | with_reducible apply w_un
  | with_reducible apply w_neg
  | with_reducible apply w_add
  | with_reducible apply w_sub
  | ((with_reducible apply w_mod); (focus (walk_at "num"; done)))
  | ((with_reducible apply w_mul); (focus (walk_at "num"; done)))
  | ((with_reducible apply w_fdiv); (focus (walk_at "num"; done)))
  | ((with_reducible apply w_pow); (focus (walk_at "num"; done)))
  | with_reducible apply w_lt
  | with_reducible apply w_le
  | with_reducible apply w_gt
  | with_reducible apply w_ge
  | with_reducible apply w_ltS
  | with_reducible apply w_geS
  | with_reducible apply w_inC
  | with_reducible apply w_notInC
  | with_reducible apply w_isN
  | with_reducible apply w_notN
  | with_reducible apply w_isB
  | with_reducible apply w_notB
  | ((with_reducible apply w_addS); (focus (walk_at "sz"; done)))
  | ((with_reducible apply w_ixL); (focus (walk_at "sq"; done)); (focus (walk_at "ix"; done)))
  | ((with_reducible apply w_ixT); (focus (walk_at "hp"; done)); (focus (walk_at "ix"; done)))
  | ((with_reducible apply w_ixS); (focus (walk_at "sz"; done)); (focus (walk_at "ix"; done)))
  | with_reducible apply w_gSub
  | ((with_reducible apply w_gTup); (focus (walk_at "hp"; done)); (focus (exact rfl)))
  | with_reducible apply w_gCons
  | with_reducible apply w_gNil
  | ((with_reducible apply w_aug); (focus (exact rfl)))
  | with_reducible apply w_ipI
  | ((with_reducible apply w_eq); (focus (exact rfl)))
  | ((with_reducible apply w_ne); (focus (exact rfl)))
  | with_reducible apply w_max
  | with_reducible apply w_min
  | with_reducible apply w_abs
  | with_reducible apply w_intB
  | with_reducible apply w_intI
  | with_reducible apply w_tup1
  | with_reducible apply w_lst1
  | with_reducible apply w_sl
  | with_reducible apply w_part
  | with_reducible apply w_noPart
  | with_reducible apply w_isint
  | ((with_reducible apply w_slS); (focus (walk_at "sz"; done)))
  | with_reducible apply w_iteT
  | with_reducible apply w_iteF
  | with_reducible apply w_iteN
  | ((with_reducible apply w_iteYes); (focus (exact rfl)))
  | ((with_reducible apply w_iteNo); (focus (exact rfl)))
  | ((with_reducible apply w_lenL); (focus (walk_at "sq"; done)))
  | ((with_reducible apply w_lenT); (focus (walk_at "hp"; done)))
  | ((with_reducible apply w_lenS); (focus (walk_at "sz"; done)))
  | with_reducible apply w_lc
  | with_reducible apply w_for
  | with_reducible apply w_yes
  | ((with_reducible apply w_wipe); (focus (exact rfl)))
  | with_reducible apply w_iList
  | with_reducible apply w_iTup
  | with_reducible apply w_iStr
  | with_reducible apply w_iRng1
  | with_reducible apply w_iRng2
  | with_reducible apply w_iZip
  | with_reducible apply w_iEnum
  | ((with_reducible apply d_iList); (focus (walk_at "sq"; done)))
  | ((with_reducible apply d_iTup); (focus (walk_at "hp"; done)))
  | with_reducible apply d_iStr
  | ((with_reducible apply d_iRng1); (focus (walk_at "num"; done)); (focus (walk_at "num"; done)))
  | ((with_reducible apply d_iRng2); (focus (walk_at "num"; done)); (focus (walk_at "num"; done)); (focus (walk_at "num"; done)); (focus (walk_at "num"; done)))
  | ((with_reducible apply d_iZip); (focus (walk_at "sq"; done)); (focus (walk_at "sq"; done)))
  | ((with_reducible apply d_iEnum); (focus (walk_at "sq"; done)))
  | walk_at "w2")
local macro_rules | `(tactic| walk_at "w2") => `(tactic| fail)
local macro_rules | `(tactic| walk_at "wn") => `(tactic| repeat walk_at "w1")
local macro_rules | `(tactic| walk_at "w") => `(tactic| repeat (first | walk_at "w1" | with_reducible apply w_ret))
local macro_rules | `(tactic| walk_at "w2") => `(tactic| first
  | ((with_reducible apply w_isInt); (focus (walk_at "r"; done)))
  | ((with_reducible apply w_isBool); (focus (walk_at "r"; done)))
  | ((with_reducible apply w_isStr); (focus (walk_at "r"; done)))
  | ((with_reducible apply w_isTup); (focus (walk_at "r"; done)))
  | ((with_reducible apply w_isLst); (focus (walk_at "r"; done)))
  | ((with_reducible apply w_notInP); (focus (assumption)))
  | ((with_reducible apply w_ixP); (focus (assumption)); (focus (assumption))))
theorem sum_leH {l : List Nat} {k : Nat} (h : ∀ a ∈ l, a ≤ k) : l.sum ≤ l.length * k := by
  induction l with
  | nil => simp
  | cons b r ih =>
    rw [List.sum_cons, List.length_cons, Nat.succ_mul]
    have := h b (by simp)
    have := ih fun a ha => h a (List.mem_cons_of_mem _ ha)
    omega
theorem txts_of {acc : List V} {k : Nat} (h : ∀ (i : Nat) (v : V), acc[i]? = some v → ∃ w : Str, v = V.str w ∧ w.length ≤ k) : ∃ us : List Str, acc = us.map V.str ∧ (us.map (·.length)).sum ≤ acc.length * k ∧ ∀ u ∈ us, u.length ≤ k := by
  have key : ∀ l : List V, (∀ v ∈ l, ∃ w : Str, v = V.str w ∧ w.length ≤ k) → ∃ us : List Str, l = us.map V.str ∧ ∀ u ∈ us, u.length ≤ k := fun l => by
    induction l with
    | nil => exact fun _ => ⟨[], rfl, fun u h => by cases h⟩
    | cons v r ih =>
      intro h
      obtain ⟨w, rfl, hw⟩ := h v (by simp)
      obtain ⟨us, rfl, hu⟩ := ih fun v hv => h v (List.mem_cons_of_mem _ hv)
      refine ⟨w :: us, rfl, fun u hu' => ?_⟩
      rcases List.mem_cons.mp hu' with rfl | hu'
      · exact hw
      · exact hu u hu'
  obtain ⟨us, e, hu⟩ := key acc fun v hv => by
    obtain ⟨i, hi⟩ := List.getElem?_of_mem hv
    exact h i v hi
  refine ⟨us, e, ?_, hu⟩
  have := sum_leH (l := us.map (·.length)) (k := k) fun a ha => by
    obtain ⟨u, hm, rfl⟩ := List.mem_map.mp ha
    exact hu u hm
  rw [List.length_map] at this
  rw [e, List.length_map]
  exact this
theorem join_leH {y : Str} {ps : List Str} {s : Nat} (h : (ps.map (·.length)).sum ≤ s) : (Txt.join y ps).length ≤ s + ps.length * y.length := by
  by_cases h0 : ps = []
  · subst h0; rw [TL.join_eq]; exact Nat.zero_le _
  · have := join_len (y := y) h0
    omega
def longPs : List Str := ["; ", ", ", "a: ", "wait, ", "[", "]", "cell[", "arg ", " ", "a:; ", "-"]
theorem longPs_ok : ∀ w ∈ longPs, 1 ≤ w.length ∧ w.length ≤ 10 := fun w hw => by
  have h : longPs.all (fun w => decide (1 ≤ w.length) && decide (w.length ≤ 10)) = true := by decide +kernel
  have h := List.all_eq_true.mp h w hw
  rw [Bool.and_eq_true, decide_eq_true_eq, decide_eq_true_eq] at h
  exact h
def sp__law_long : Sp := fun vs H Q _ => ∃ (b : Addr) (n : Nat), vs = [.ref b] ∧ Bag H b n ∧ 3 ≤ n ∧ ∀ (y : Str) (H' : Hp), Chg [b] H H' → Bag H' b (n - 3) → y.length ≤ 3000 → Q (.str y) H'
def t__law_long (K : PySem.W.Frag) : TS :=
    tSeq (tAsg (tC (.str "abcdefghijklmnopqrstuvwxyz")) (gName 1))
    (tSeq (tAsg (tOp oAdd (tC (.int 1)) (tCall sp__law_draw [] E0 (tCons (tVar 0) (tCons (tC (.int 3000)) (tNil))))) (gName 2))
    (tSeq (tAsg (tCall sp__law_draw [] E0 (tCons (tVar 0) (tCons (tC (.int 6)) (tNil)))) (gName 3))
    (tSeq (tIfS (tTest (tOp rEq (tVar 3) (tC (.int 0)))) (tSeq (tAsg (tOp (rIxL K) (tLst (tCons (tC (.str "; ")) (tCons (tC (.str ", ")) (tCons (tC (.str "a: ")) (tCons (tC (.str "wait, ")) (tCons (tC (.str "[")) (tCons (tC (.str "]")) (tCons (tC (.str "cell[")) (tCons (tC (.str "arg ")) (tCons (tC (.str " ")) (tCons (tC (.str "a:; ")) (tCons (tC (.str "-")) (tNil))))))))))))) (tCall sp__law_draw [] E0 (tCons (tVar 0) (tCons (tC (.int 11)) (tNil))))) (gName 4))
    (tRet (tSl rSlS (tOp rMulA (tVar 4) (tVar 2)) (tNoPart) (tPart (tC (.int 3000)))))) (tNext))
    (tSeq (tIfS (tTest (tOp rEq (tVar 3) (tC (.int 1)))) (tSeq (tAsg (tOp oMod (tVar 2) (tC (.int 590))) (gName 5))
    (tRet (tSl rSlS (tOp oAddS (tOp oAddS (tOp oAddS (tOp oAddS (tC (.str "a: cell ")) (tOp rMulA (tC (.str "cell[")) (tVar 5))) (tC (.str "1"))) (tOp rMulA (tC (.str "]")) (tVar 5))) (tC (.str " 2"))) (tNoPart) (tPart (tC (.int 3000)))))) (tNext))
    (tSeq (tIfS (tTest (tOp rEq (tVar 3) (tC (.int 2)))) (tRet (tOp oAddS (tOp oAddS (tC (.str "a: give b ")) (tOp rMulA (tC (.str "-")) (tOp oMod (tVar 2) (tC (.int 2))))) (tOp rMulA (tC (.str "7")) (tOp oMod (tVar 2) (tC (.int 2980)))))) (tNext))
    (tSeq (tIfS (tTest (tOp rEq (tVar 3) (tC (.int 3)))) (tRet (tOp oAddS (tC (.str "a: ")) (tM1 (mJoin K) (tC (.str ", ")) (tOp rCat (tLc (iRng1 (tCons (tOp oMod (tVar 2) (tC (.int 300))) (tNil))) (gName 7) (tYes) (tOp (rIxL K) (tLst (tCons (tC (.str "wait")) (tCons (tC (.str "give b 1")) (tCons (tC (.str "call a 0")) (tNil))))) (tOp oMod (tVar 7) (tC (.int 3)))) [7]) (tLst (tCons (tC (.str "wait")) (tNil))))))) (tNext))
    (tSeq (tIfS (tTest (tOp rEq (tVar 3) (tC (.int 4)))) (tRet (tM1 (mJoin K) (tC (.str "; ")) (tLc (iRng1 (tCons (tOp oMod (tVar 2) (tC (.int 590))) (tNil))) (gName 7) (tYes) (tOp oAddS (tOp oAddS (tOp rIxS (tVar 1) (tOp oFdiv (tVar 7) (tC (.int 26)))) (tOp rIxS (tVar 1) (tOp oMod (tVar 7) (tC (.int 26))))) (tC (.str ":"))) [7]))) (tNext))
    (tSeq (tAsg (tOp oMod (tVar 2) (tC (.int 240))) (gName 6))
    (tSeq (tIfS (tTest (tOp oLt (tVar 6) (tC (.int 120)))) (tRet (tOp oAddS (tC (.str "a: ")) (tM1 (mJoin K) (tC (.str ", ")) (tOp rCat (tLc (iRng1 (tCons (tVar 6) (tNil))) (gName 7) (tYes) (tJoin [tC (.str "skip arg "), tFmt (tOp oAdd (tC (.int 1)) (tOp oMod (tOp oMul (tVar 7) (tVar 7)) (tOp oSub (tVar 6) (tVar 7))))]) [7]) (tLst (tCons (tC (.str "wait")) (tNil))))))) (tNext))
    (tRet (tOp oAddS (tOp oAddS (tC (.str "a: ")) (tOp rMulA (tC (.str "skip arg 1, ")) (tVar 6))) (tC (.str "wait")))))))))))))
theorem pure__law_long {K : PySem.W.Frag} (vs : List V) (H : Hp) (Q : VK) (E : XK) (h : sp__law_long vs H Q E) : t__law_long K (fin Q) (start ["bag", "letters", "many", "pick", "piece", "deep", "long", "k"] vs) H := by
  obtain ⟨b, n, rfl, bag, hn, q⟩ := h
  show t__law_long K _ [some (.ref b), none, none, none, none, none, none, none] H
  unfold t__law_long
  have fit : ∀ {k : Nat}, k ≤ 50000 → k ≤ sizeLine := fun h => Nat.le_trans h (by decide)
  have l26 : ("abcdefghijklmnopqrstuvwxyz" : Str).length = 26 := by decide +kernel
  walk_at "w"
  refine u_draw bag (by omega) (by decide) (by decide) fun mn H1 c1 bag1 m0 m1 => ?_
  walk_at "w"
  refine u_draw bag1 (by omega) (by decide) (by decide) fun pk H2 c2 bag2 p0 p1 => ?_
  have c12 := c1.both c2
  generalize hm : 1 + mn = many
  have hm0 : 1 ≤ many := by omega
  have hm1 : many ≤ 3000 := by omega
  have b2 := bag2.some
  have done_ : ∀ (y : Str) (H' : Hp), Chg [] H2 H' → y.length ≤ 3000 → Q (.str y) H' := fun y H' c h => q y H' (c12.same c) ((bag2.same c).le (by omega)) h
  walk_at "w"
  refine w_iteD (fun _ => ?_) (fun n0 => ?_)
  · walk_at "w"
    refine k_lst (by walk_at "sz") fun L H3 nL c3 hL => ?_
    have neL : L ≠ b := fun z => b2 (by rw [← z]; exact nL)
    walk_at "w"
    refine u_draw (bag2.same c3) (by omega) (by decide) (by decide) fun g H4 c4 bag4 g0 g1 => ?_
    obtain ⟨v, ev, hv⟩ := atD (xs := longPs.map V.str) g0 (by show g < 11; exact g1)
    obtain ⟨w, hw, rfl⟩ := List.mem_map.mp hv
    refine w_ixL (sqL (c4.at1 hL neL)) ev ?_
    obtain ⟨w1, w2⟩ := longPs_ok w hw
    obtain ⟨k, rfl⟩ := Int.eq_ofNat_of_zero_le (show 0 ≤ many by omega)
    walk_at "w"
    refine w_mulA (by omega) w1 (by omega) fun y hy => ?_
    have ly : y.length ≤ 30000 := by
      have : k * w.length ≤ 3000 * 10 := Nat.mul_le_mul (by omega) w2
      omega
    walk_at "w"
    refine q _ H4 ((c12.same c3).both c4) (bag4.le (by omega)) ?_
    have := cutS_take y 3000
    rw [show (some ((3000 : Nat) : Int)) = some (3000 : Int) from rfl] at this
    rw [this, stx_len, List.length_take]
    omega
  walk_at "w"
  refine w_iteD (fun _ => ?_) (fun n1 => ?_)
  · walk_at "w"
    obtain ⟨k, hk⟩ := Int.eq_ofNat_of_zero_le (show 0 ≤ many % 590 by omega)
    have hk1 : k < 590 := by omega
    rw [hk]
    walk_at "w"
    refine w_mulA (by omega) (by decide +kernel) (by decide +kernel) fun y hy => ?_
    have e1 : ("a: cell " : Str).length = 8 := by decide +kernel
    have e2 : ("cell[" : Str).length = 5 := by decide +kernel
    have e3 : ("1" : Str).length = 1 := by decide +kernel
    have e4 : ("]" : Str).length = 1 := by decide +kernel
    have e5 : (" 2" : Str).length = 2 := by decide +kernel
    rw [e2] at hy
    refine w_addS (fit (by rw [e1]; omega)) ?_
    walk_at "w"
    refine w_addS (fit (by rw [len_app, e1, e3]; omega)) ?_
    walk_at "w"
    refine w_mulA (by omega) (by decide +kernel) (by decide +kernel) fun z hz => ?_
    rw [e4] at hz
    refine w_addS (fit (by rw [len_app, len_app, e1, e3]; omega)) ?_
    walk_at "w"
    refine w_addS (fit (by rw [len_app, len_app, len_app, e1, e3, e5]; omega)) ?_
    walk_at "w"
    generalize hx : ("a: cell " : Str) ++ y ++ "1" ++ z ++ " 2" = x
    have lx : x.length ≤ 10000 := by rw [← hx]; rw [len_app, len_app, len_app, len_app, e1, e3, e5]; omega
    refine w_slS (fit (by omega)) ?_
    refine done_ _ H2 .refl ?_
    have := cutS_take x 3000
    rw [show (some ((3000 : Nat) : Int)) = some (3000 : Int) from rfl] at this
    rw [this, stx_len, List.length_take]
    omega
  walk_at "w"
  refine w_iteD (fun _ => ?_) (fun n2 => ?_)
  · walk_at "w"
    obtain ⟨k, hk⟩ := Int.eq_ofNat_of_zero_le (show 0 ≤ many % 2 by omega)
    obtain ⟨j, hj⟩ := Int.eq_ofNat_of_zero_le (show 0 ≤ many % 2980 by omega)
    rw [hk]
    walk_at "w"
    refine w_mulA (by omega) (by decide +kernel) (by decide +kernel) fun y hy => ?_
    have e1 : ("a: give b " : Str).length = 10 := by decide +kernel
    have e2 : ("-" : Str).length = 1 := by decide +kernel
    have e3 : ("7" : Str).length = 1 := by decide +kernel
    rw [e2] at hy
    refine w_addS (fit (by rw [e1]; omega)) ?_
    walk_at "w"
    rw [hj]
    refine w_mulA (by omega) (by decide +kernel) (by decide +kernel) fun z hz => ?_
    rw [e3] at hz
    refine w_addS (fit (by rw [len_app, e1]; omega)) ?_
    exact done_ _ H2 .refl (by rw [len_app, len_app, e1]; omega)
  walk_at "w"
  refine w_iteD (fun _ => ?_) (fun n3 => ?_)
  · walk_at "w"
    have e1 : ("a: " : Str).length = 3 := by decide +kernel
    have e3 : ("wait" : Str).length = 4 := by decide +kernel
    have e4 : (", " : Str).length = 2 := by decide +kernel
    refine w_lcP walk_range [] (fun i H => True) (fun i y _ => ∃ w : Str, y = V.str w ∧ w.length ≤ 8) trivial (fun _ _ _ _ _ _ _ => trivial) (fun _ _ => trivial) (fun D i acc z H4 H5 hi nD hD el iv c4 _ y => ?_) (fun D acc H4 nD c4 _ el hD ys => ?_)
    · obtain ⟨rfl, rfl⟩ := y
      walk_at "w"
      refine k_lst (by walk_at "sz") fun L H6 nL c6 hL => ?_
      walk_at "w"
      obtain ⟨v, ev, hv⟩ := atD (xs := (["wait", "give b 1", "call a 0"] : List Str).map V.str) (i := (0 + ((i : Nat) : Int)) % 3) (by omega) (by show (0 + ((i : Nat) : Int)) % 3 < 3; omega)
      obtain ⟨w, hw, rfl⟩ := List.mem_map.mp hv
      refine w_ixL (sqL hL) ev ?_
      have lw : w.length ≤ 8 := by
        have h : (["wait", "give b 1", "call a 0"] : List Str).all (fun w => decide (w.length ≤ 8)) = true := by decide +kernel
        exact of_decide_eq_true (List.all_eq_true.mp h w hw)
      exact lcp_end (fun _ _ _ _ _ _ _ => trivial) (fun _ _ _ _ _ _ _ h => h) nD (fun a ha => by cases ha) hD el (by omega) iv c6 trivial ⟨w, rfl, lw⟩
    · obtain ⟨us, eu, su, lu⟩ := txts_of ys
      subst eu
      walk_at "w"
      refine k_lst (by walk_at "sz") fun L H5 nL c5 hL => ?_
      walk_at "w"
      rw [List.length_map] at el su
      have lus : us.length ≤ 299 := by omega
      refine w_cat (c5.at hD) hL (by rw [List.length_map]; simp only [List.length_cons, List.length_nil]; omega) fun P H6 nP c6 hP => ?_
      have hP : H6 P = some (.lst ((us ++ [("wait" : Str)]).map V.str)) := by rw [List.map_append]; exact hP
      have sm : ((us ++ [("wait" : Str)]).map (·.length)).sum ≤ 8 * 299 + 4 := by
        rw [List.map_append, List.sum_append]
        show _ + (("wait" : Str).length + 0) ≤ _
        rw [e3]
        have : us.length * 8 ≤ 299 * 8 := Nat.mul_le_mul_right 8 lus
        omega
      have ln : (us ++ [("wait" : Str)]).length ≤ 300 := by rw [List.length_append]; simp only [List.length_cons, List.length_nil]; omega
      have jl := join_leH (y := ", ") sm
      rw [e4] at jl
      walk_at "w"
      refine w_join (sqL hP) (by rw [e4]; omega) ?_
      refine w_addS (fit (by rw [e1]; omega)) ?_
      exact done_ _ H6 ((c4.same c5).same c6) (by rw [len_app, e1]; have := List.length_append (as := us) (bs := [("wait" : Str)]); simp only [List.length_cons, List.length_nil] at this; omega)
  walk_at "w"
  refine w_iteD (fun _ => ?_) (fun n4 => ?_)
  · walk_at "w"
    have e1 : (":" : Str).length = 1 := by decide +kernel
    have e4 : ("; " : Str).length = 2 := by decide +kernel
    have lc : ("abcdefghijklmnopqrstuvwxyz" : Str).cps.toList.length = 26 := by decide +kernel
    refine w_lcP walk_range [] (fun i H => True) (fun i y _ => ∃ w : Str, y = V.str w ∧ w.length ≤ 3) trivial (fun _ _ _ _ _ _ _ => trivial) (fun _ _ => trivial) (fun D i acc z H4 H5 hi nD hD el iv c4 _ y => ?_) (fun D acc H4 nD c4 _ el hD ys => ?_)
    · obtain ⟨rfl, rfl⟩ := y
      have hi5 : ((i : Nat) : Int) < 590 := by omega
      walk_at "w"
      obtain ⟨s1, ev1, _⟩ := atD (xs := ("abcdefghijklmnopqrstuvwxyz" : Str).cps.toList) (i := (0 + ((i : Nat) : Int)) / 26) (by omega) (by rw [lc]; omega)
      obtain ⟨s2, ev2, _⟩ := atD (xs := ("abcdefghijklmnopqrstuvwxyz" : Str).cps.toList) (i := (0 + ((i : Nat) : Int)) % 26) (by omega) (by rw [lc]; omega)
      dsimp only
      refine w_fdiv (cdivS (by decide) (by decide)) ?_
      refine w_ixS (fit (by rw [l26]; omega)) ev1 ?_
      walk_at "w"
      have z1 : (⟨#[s1]⟩ : Str).length = 1 := rfl
      have z2 : (⟨#[s2]⟩ : Str).length = 1 := rfl
      refine w_addS (fit (by rw [z1, z2]; omega)) ?_
      walk_at "w"
      refine w_addS (fit (by rw [len_app, z1, z2, e1]; omega)) ?_
      exact lcp_end (fun _ _ _ _ _ _ _ => trivial) (fun _ _ _ _ _ _ _ h => h) nD (fun a ha => by cases ha) hD el (by omega) iv .refl trivial ⟨_, rfl, by rw [len_app, len_app, z1, z2, e1]; omega⟩
    · obtain ⟨us, eu, su, lu⟩ := txts_of ys
      subst eu
      rw [List.length_map] at el su
      have lus : us.length ≤ 589 := by omega
      have sm : (us.map (·.length)).sum ≤ 3 * 589 := by
        have : us.length * 3 ≤ 589 * 3 := Nat.mul_le_mul_right 3 lus
        omega
      have jl := join_leH (y := "; ") sm
      rw [e4] at jl
      refine w_join (sqL hD) (by rw [e4]; omega) ?_
      exact done_ _ H4 c4 (by omega)
  walk_at "w"
  refine w_iteD (fun _ => ?_) (fun n5 => ?_)
  · walk_at "w"
    have e1 : ("a: " : Str).length = 3 := by decide +kernel
    have e3 : ("wait" : Str).length = 4 := by decide +kernel
    have e4 : (", " : Str).length = 2 := by decide +kernel
    have e9 : ("skip arg " : Str).length = 9 := by decide +kernel
    have e0 : Str.empty.length = 0 := rfl
    rename_i hlong
    generalize hlg : many % 240 = lg at hlong
    have lg0 : 0 ≤ lg := by omega
    refine w_lcP walk_range [] (fun i H => True) (fun i y _ => ∃ w : Str, y = V.str w ∧ w.length ≤ 14) trivial (fun _ _ _ _ _ _ _ => trivial) (fun _ _ => trivial) (fun D i acc z H4 H5 hi nD hD el iv c4 _ y => ?_) (fun D acc H4 nD c4 _ el hD ys => ?_)
    · obtain ⟨rfl, rfl⟩ := y
      have hlt : lg < 120 := hlong
      have hi5 : ((i : Nat) : Int) < lg := by omega
      walk_at "w"
      refine ⟨_, rfl, by rw [len_append, e0, e9]; exact fit (by omega), ?_⟩
      dsimp only
      generalize hk : 0 + ((i : Nat) : Int) = k
      have hk0 : 0 ≤ k := by omega
      have hd : 0 < lg - k := by omega
      generalize hr : k * k % (lg - k) = r
      have r0 : 0 ≤ r := by rw [← hr]; exact Int.emod_nonneg _ (by omega)
      have r1 : r < lg - k := by rw [← hr]; exact Int.emod_lt_of_pos _ hd
      have lt : (Str.ofString (toString (1 + r))).length ≤ 4 := by
        rw [PySem.ofString_length]
        exact int_text_length_le10 (k := 3) (by decide) (by omega)
      have lg2 : (1 + r).natAbs.log2 < 1920 := (Nat.log2_lt (by omega)).mpr (Nat.lt_of_lt_of_le (show (1 + r).natAbs < 2 ^ 10 by omega) (Nat.pow_le_pow_right (by decide) (by decide)))
      have hdz : lg - k ≠ 0 := by omega
      show tOp oAdd (tC (V.int 1)) (tOp oMod (tOp oMul (tVar 7) (tVar 7)) (tOp oSub (tVar 6) (tVar 7))) _ _ _
      walk_at "w"
      refine w_mul (cmulL (by omega) (by omega)) ?_
      walk_at "w"
      rw [hr]
      refine .inr ⟨1 + r, rfl, lg2, _, rfl, by rw [len_append, len_append, e0, e9]; exact fit (by omega), ?_⟩
      exact lcp_end (fun _ _ _ _ _ _ _ => trivial) (fun _ _ _ _ _ _ _ h => h) nD (fun a ha => by cases ha) hD el (by omega) iv .refl trivial ⟨_, rfl, by rw [len_append, len_append, e0, e9]; omega⟩
    · obtain ⟨us, eu, su, lu⟩ := txts_of ys
      subst eu
      walk_at "w"
      refine k_lst (by walk_at "sz") fun L H5 nL c5 hL => ?_
      walk_at "w"
      rw [List.length_map] at el su
      have hlt : lg < 120 := hlong
      have lus : us.length ≤ 119 := by omega
      refine w_cat (c5.at hD) hL (by rw [List.length_map]; simp only [List.length_cons, List.length_nil]; omega) fun P H6 nP c6 hP => ?_
      have hP : H6 P = some (.lst ((us ++ [("wait" : Str)]).map V.str)) := by rw [List.map_append]; exact hP
      have sm : ((us ++ [("wait" : Str)]).map (·.length)).sum ≤ 14 * 119 + 4 := by
        rw [List.map_append, List.sum_append]
        show _ + (("wait" : Str).length + 0) ≤ _
        rw [e3]
        have : us.length * 14 ≤ 119 * 14 := Nat.mul_le_mul_right 14 lus
        omega
      have ln : (us ++ [("wait" : Str)]).length ≤ 120 := by rw [List.length_append]; simp only [List.length_cons, List.length_nil]; omega
      have jl := join_leH (y := ", ") sm
      rw [e4] at jl
      walk_at "w"
      refine w_join (sqL hP) (by rw [e4]; omega) ?_
      refine w_addS (fit (by rw [e1]; omega)) ?_
      exact done_ _ H6 ((c4.same c5).same c6) (by rw [len_app, e1]; omega)
  · walk_at "w"
    obtain ⟨k, hk⟩ := Int.eq_ofNat_of_zero_le (show 0 ≤ many % 240 by omega)
    rw [hk]
    refine w_mulA (by omega) (by decide +kernel) (by decide +kernel) fun y hy => ?_
    have e1 : ("a: " : Str).length = 3 := by decide +kernel
    have e2 : ("skip arg 1, " : Str).length = 12 := by decide +kernel
    have e3 : ("wait" : Str).length = 4 := by decide +kernel
    rw [e2] at hy
    refine w_addS (fit (by rw [e1]; omega)) ?_
    walk_at "w"
    refine w_addS (fit (by rw [len_app, e1, e3]; omega)) ?_
    exact done_ _ H2 .refl (by rw [len_app, len_app, e1, e3]; omega)
end Fg
namespace Fg
open PySem PySem.Spec PyProof.Rows L2 LmX
local macro_rules | `(tactic| walk_at "hp") => `(tactic| first
  | assumption
  | exact upd_same
  | (refine Chg.at (by assumption) ?_; walk_at "hp")
  | (refine Chg.at1 (by assumption) ?_ (by walk_at "ne"); walk_at "hp"))
local macro_rules | `(tactic| walk_at "ne") => `(tactic| first | assumption | (apply Ne.symm; assumption))
local macro_rules | `(tactic| walk_at "sq") => `(tactic| first | assumption | exact sqL (by walk_at "hp") | (refine Chg.seq (by assumption) ?_; walk_at "sq"))
local macro_rules | `(tactic| walk_at "sz") => `(tactic| first | assumption | exact Nat.zero_le _ | (simp only [List.length_cons, List.length_nil]; decide) | exact Nat.le_trans (by first | omega | (simp; done) | (simp; omega)) (show 100000 ≤ sizeLine by decide) | exact Nat.lt_of_lt_of_le (by first | omega | (simp; done) | (simp; omega)) (show 100000 ≤ sizeLine by decide))
local macro_rules | `(tactic| walk_at "ix") => `(tactic| first | exact at0 | exact at1 | exact at2 | exact at3 | assumption | exact rfl | walk_at "ix2")
local macro_rules | `(tactic| walk_at "ix2") => `(tactic| fail)
local macro_rules | `(tactic| walk_at "num") => `(tactic| first | assumption | omega | decide | walk_at "num2")
local macro_rules | `(tactic| walk_at "num2") => `(tactic| fail)
local macro_rules | `(tactic| walk_at "im") => `(tactic| first | assumption | exact R.non (S := fun _ => False) | exact R.bl (S := fun _ => False) _ | exact R.int (S := fun _ => False) _ | exact R.str (S := fun _ => False) _ | (refine R.im (by assumption) ?_; walk_at "im"))
local macro_rules | `(tactic| walk_at "r") => `(tactic| first | assumption | exact R.non (S := fun _ => False) | exact R.bl (S := fun _ => False) _ | exact R.int (S := fun _ => False) _ | exact R.str (S := fun _ => False) _ | (refine R.same (by assumption) ?_; walk_at "r") | exact R.any (by walk_at "im"))
local macro_rules | `(tactic| walk_at "chg") => `(tactic| first
  | exact Chg.refl
  | assumption
  | (refine Chg.same ?_ (by assumption); walk_at "chg")
  | (refine Chg.both ?_ (by assumption); walk_at "chg")
  | (refine Chg.pre (by assumption) ?_; walk_at "chg"))
local macro_rules | `(tactic| walk_at "w1") => `(tactic| first
  | with_reducible apply w_seq
  | with_reducible apply w_asg
  | ((with_reducible apply w_var); (focus (exact rfl)))
  | with_reducible apply w_c
  | with_reducible apply w_op
  | with_reducible apply w_cons
  | with_reducible apply w_nil
  | with_reducible apply w_gName
  | with_reducible apply w_if
  | with_reducible apply w_test
  | with_reducible apply w_B
  | with_reducible apply w_isbl
  | with_reducible apply w_retN
  | with_reducible apply w_next
  | with_reducible apply w_drop
  | with_reducible apply w_cb
  | with_reducible apply w_call
  | with_reducible apply w_callN
  | with_reducible apply w_bm
  | with_reducible apply w_bm0
  | ((with_reducible apply w_tyL); (focus (walk_at "hp"; done)))
  | with_reducible apply w_dput
  | with_reducible apply w_m1
  | with_reducible apply w_isstr
  | with_reducible apply w_and
  | with_reducible apply w_or
  | with_reducible apply w_not
  | with_reducible apply w_andV
  | with_reducible apply w_orV
  | with_reducible apply w_notV
  | with_reducible apply w_ifE
  | with_reducible apply w_chain
  | with_reducible apply w_un
  | with_reducible apply w_neg
  | with_reducible apply w_add
  | with_reducible apply w_sub
  | ((with_reducible apply w_mod); (focus (walk_at "num"; done)))
  | ((with_reducible apply w_mul); (focus (walk_at "num"; done)))
  | ((with_reducible apply w_fdiv); (focus (walk_at "num"; done)))
  | ((with_reducible apply w_pow); (focus (walk_at "num"; done)))
  | with_reducible apply w_lt
  | with_reducible apply w_le
  | with_reducible apply w_gt
  | with_reducible apply w_ge
  | with_reducible apply w_ltS
  | with_reducible apply w_geS
  | with_reducible apply w_inC
  | with_reducible apply w_notInC
  | with_reducible apply w_isN
  | with_reducible apply w_notN
  | with_reducible apply w_isB
  | with_reducible apply w_notB
  | ((with_reducible apply w_addS); (focus (walk_at "sz"; done)))
  | ((with_reducible apply w_ixL); (focus (walk_at "sq"; done)); (focus (walk_at "ix"; done)))
  | ((with_reducible apply w_ixT); (focus (walk_at "hp"; done)); (focus (walk_at "ix"; done)))
  | ((with_reducible apply w_ixS); (focus (walk_at "sz"; done)); (focus (walk_at "ix"; done)))
  | with_reducible apply w_gSub
  | ((with_reducible apply w_gTup); (focus (walk_at "hp"; done)); (focus (exact rfl)))
  | with_reducible apply w_gCons
  | with_reducible apply w_gNil
  | ((with_reducible apply w_aug); (focus (exact rfl)))
  | with_reducible apply w_ipI
  | ((with_reducible apply w_eq); (focus (exact rfl)))
  | ((with_reducible apply w_ne); (focus (exact rfl)))
  | with_reducible apply w_max
  | with_reducible apply w_min
  | with_reducible apply w_abs
  | with_reducible apply w_intB
  | with_reducible apply w_intI
  | with_reducible apply w_tup1
  | with_reducible apply w_lst1
  | with_reducible apply w_sl
  | with_reducible apply w_part
  | with_reducible apply w_noPart
  | with_reducible apply w_isint
  | ((with_reducible apply w_slS); (focus (walk_at "sz"; done)))
  | with_reducible apply w_iteT
  | with_reducible apply w_iteF
  | with_reducible apply w_iteN
  | ((with_reducible apply w_iteYes); (focus (exact rfl)))
  | ((with_reducible apply w_iteNo); (focus (exact rfl)))
  | ((with_reducible apply w_lenL); (focus (walk_at "sq"; done)))
  | ((with_reducible apply w_lenT); (focus (walk_at "hp"; done)))
  | ((with_reducible apply w_lenS); (focus (walk_at "sz"; done)))
  | with_reducible apply w_lc
  | with_reducible apply w_for
  | with_reducible apply w_yes
  | ((with_reducible apply w_wipe); (focus (exact rfl)))
  | with_reducible apply w_iList
  | with_reducible apply w_iTup
  | with_reducible apply w_iStr
  | with_reducible apply w_iRng1
  | with_reducible apply w_iRng2
  | with_reducible apply w_iZip
  | with_reducible apply w_iEnum
  | ((with_reducible apply d_iList); (focus (walk_at "sq"; done)))
  | ((with_reducible apply d_iTup); (focus (walk_at "hp"; done)))
  | with_reducible apply d_iStr
  | ((with_reducible apply d_iRng1); (focus (walk_at "num"; done)); (focus (walk_at "num"; done)))
  | ((with_reducible apply d_iRng2); (focus (walk_at "num"; done)); (focus (walk_at "num"; done)); (focus (walk_at "num"; done)); (focus (walk_at "num"; done)))
  | ((with_reducible apply d_iZip); (focus (walk_at "sq"; done)); (focus (walk_at "sq"; done)))
  | ((with_reducible apply d_iEnum); (focus (walk_at "sq"; done)))
  | walk_at "w2")
local macro_rules | `(tactic| walk_at "w2") => `(tactic| fail)
local macro_rules | `(tactic| walk_at "wn") => `(tactic| repeat walk_at "w1")
local macro_rules | `(tactic| walk_at "w") => `(tactic| repeat (first | walk_at "w1" | with_reducible apply w_ret))
local macro_rules | `(tactic| walk_at "w2") => `(tactic| first
  | ((with_reducible apply w_isInt); (focus (walk_at "r"; done)))
  | ((with_reducible apply w_isBool); (focus (walk_at "r"; done)))
  | ((with_reducible apply w_isStr); (focus (walk_at "r"; done)))
  | ((with_reducible apply w_isTup); (focus (walk_at "r"; done)))
  | ((with_reducible apply w_isLst); (focus (walk_at "r"; done)))
  | ((with_reducible apply w_notInP); (focus (assumption)))
  | ((with_reducible apply w_ixP); (focus (assumption)); (focus (assumption))))
/-- any sign -/
def sgn1 : Str := "abcdefghijklmnopqrstuvwxyzABCDEFGHIJKLMNOPQRSTUVWXYZ0123456789"
def sgn2 : Str := " !\"#$&'()*+,-./:;<=>?@\x5b\\]^_`{|}~\n\t"
theorem sgn_len : sgn1.length = 62 ∧ sgn2.length = 34 := by
  refine ⟨by decide +kernel, by decide +kernel⟩
def sp__law_sign : Sp := fun vs H Q _ => ∃ (b : Addr) (n : Nat), vs = [.ref b] ∧ Bag H b n ∧ 1 ≤ n ∧ ∀ (c : Nat) (H' : Hp), Chg [b] H H' → Bag H' b (n - 1) → Q (.str ⟨#[c]⟩) H'
def t__law_sign  : TS :=
    tSeq (tAsg (tC (.str "abcdefghijklmnopqrstuvwxyzABCDEFGHIJKLMNOPQRSTUVWXYZ0123456789")) (gName 1))
    (tSeq (tAsg (tOp oAddS (tVar 1) (tC (.str " !\"#$&'()*+,-./:;<=>?@\x5b\\]^_`{|}~\n\t"))) (gName 1))
    (tRet (tOp rIxS (tVar 1) (tCall sp__law_draw [] E0 (tCons (tVar 0) (tCons (tC (.int 96)) (tNil)))))))
theorem pure__law_sign {K : PySem.W.Frag} (vs : List V) (H : Hp) (Q : VK) (E : XK) (h : sp__law_sign vs H Q E) : t__law_sign (fin Q) (start ["bag", "some"] vs) H := by
  obtain ⟨b, n, rfl, bag, hn, q⟩ := h
  show t__law_sign _ [some (.ref b), none] H
  unfold t__law_sign
  obtain ⟨l1, l2⟩ := sgn_len
  refine w_seq (w_asg (w_c (w_gName ?_)))
  refine w_seq (w_asg (w_op (w_var rfl (w_c (w_addS (z := sgn1) (z' := sgn2) (by rw [l1, l2]; decide) (w_gName ?_))))))
  refine w_ret (w_op (w_var rfl (w_call (w_cons (w_var rfl (w_cons (w_c (w_nil ?_))))))))
  refine u_draw bag hn (by decide) (by decide) fun g H1 c1 bag1 g0 g1 => ?_
  have hl : (sgn1 ++ sgn2).cps.toList.length = 96 := by
    have := len_app sgn1 sgn2
    rw [l1, l2, tl_len] at this
    exact this
  obtain ⟨c, e, _⟩ := atD (xs := (sgn1 ++ sgn2).cps.toList) g0 (by rw [hl]; exact g1)
  exact w_ixS (by rw [len_app, l1, l2]; decide) e (q c H1 c1 bag1)
theorem fig3000 {x : Str} (h : x.length ≤ 3000) : FigL (tlS x) := fun b hb _ => by
  have h1 := hb.length_le
  have h2 := tl_len x
  have : (3002 : Nat) ≤ rdL := by decide
  omega
def sp_law (K : PySem.W.Frag) : Sp := fun vs H Q _ => ∃ (a : Addr) (ns : List Int), vs = [.ref a] ∧ SqL K H a (ns.map V.int) ∧ ns.length ≤ 63 ∧ ∀ H', Q (.bl true) H'
def t_law (K : PySem.W.Frag) : TS :=
    tSeq (tAsg (tCall sp__law_bag [] E0 (tCons (tCall (sp__law_cell_at K) [] E0 (tCons (tVar 0) (tCons (tC (.int 0)) (tNil)))) (tCons (tC (.int 0)) (tNil)))) (gName 1))
    (tSeq (tAsg (tCall sp__law_long [] E0 (tCons (tVar 1) (tNil))) (gName 2))
    (tSeq (tAsg (tCall sp__law_draw [] E0 (tCons (tVar 1) (tCons (tOp oAdd (tCB cLenS (tCons (tVar 2) (tNil))) (tC (.int 1))) (tNil)))) (gName 3))
    (tSeq (tAsg (tOp oAddS (tOp oAddS (tSl rSlS (tVar 2) (tNoPart) (tPart (tVar 3))) (tCall sp__law_sign [] E0 (tCons (tVar 1) (tNil)))) (tSl rSlS (tVar 2) (tPart (tOp oAdd (tVar 3) (tC (.int 1)))) (tNoPart))) (gName 4))
    (tSeq (tFor (iList K (tLst (tCons (tVar 2) (tCons (tSl rSlS (tVar 4) (tNoPart) (tPart (tC (.int 3000)))) (tNil))))) (gName 5) (tSeq (tIfS (tNot (tB (tCall (sp__law_asked53 K) [] E0 (tCons (tVar 5) (tNil))))) (tRet (tC (.bl false))) (tNext))
    (tSeq (tAsg (tCall sp__law_read [] E0 (tCons (tVar 5) (tNil))) (gName 6))
    (tIfS (tAnd (tTest (tOp oNotN (tVar 6) (tC .non))) (tTest (tOp rNe (tCall (sp_show_program K) [] E0 (tCons (tVar 6) (tNil))) (tVar 5)))) (tRet (tC (.bl false))) (tNext)))))
    (tRet (tC (.bl true)))))))
theorem pure_law {K : PySem.W.Frag} (vs : List V) (H : Hp) (Q : VK) (E : XK) (h : sp_law K vs H Q E) : t_law K (fin Q) (start ["script", "bag", "text", "at", "other", "one", "due"] vs) H := by
  obtain ⟨a, ns, rfl, hS, hlen, q⟩ := h
  show t_law K _ [some (.ref a), none, none, none, none, none, none] H
  unfold t_law
  walk_at "w"
  refine ⟨a, ns, 0, rfl, hS, by omega, fun c => ?_⟩
  walk_at "w"
  refine ⟨c, 0, rfl, by omega, by omega, fun b H1 nb c1 bag => ?_⟩
  walk_at "w"
  refine ⟨b, 10 ^ 12 - 1, rfl, bag.le (by decide), by decide, fun x H2 c2 bag2 lx => ?_⟩
  walk_at "w"
  refine u_draw bag2 (by decide) (by omega) (by omega) fun at' H3 c3 bag3 a0 a1 => ?_
  walk_at "w"
  refine ⟨b, _, rfl, bag3, by decide, fun s H4 c4 bag4 => ?_⟩
  have z1 : (⟨#[s]⟩ : Str).length = 1 := rfl
  have s1 := cutS_length x none (some at')
  have s2 := cutS_length x (some (at' + 1)) none
  have fit : ∀ {k : Nat}, k ≤ 50000 → k ≤ sizeLine := fun h => Nat.le_trans h (by decide)
  refine w_addS (fit (by rw [z1]; omega)) ?_
  walk_at "w"
  refine w_addS (fit (by rw [len_app, z1]; omega)) ?_
  walk_at "w"
  generalize hy : cutS x none (some at') ++ ⟨#[s]⟩ ++ cutS x (some (at' + 1)) none = y
  have ly : y.length ≤ 10000 := by rw [← hy, len_app, len_app, z1]; omega
  walk_at "w"
  have lz : (cutS y none (some 3000)).length ≤ 3000 := by
    have := cutS_take y 3000
    rw [show (some ((3000 : Nat) : Int)) = some (3000 : Int) from rfl] at this
    rw [this, stx_len, List.length_take]
    omega
  generalize cutS y none (some 3000) = z at lz ⊢
  refine k_lst (by walk_at "sz") fun L H5 nL c5 hL => ?_
  walk_at "w"
  refine for_it (walk_list (K := K) (a := L) (xs := [.str x, .str z])) (fun i σ H' => Chg [] H5 H' ∧ ∃ y5 y6, σ = [some (.ref a), some (.ref b), some (.str x), some (.int at'), some (.str y), y5, y6]) ⟨.refl, _, _, rfl⟩ (fun i σ H' _ p => sqL (p.1.at hL)) (fun i v σ H6 H7 hi p w => ?_) (fun σ H6 p => ?_)
  · obtain ⟨c6, y5, y6, rfl⟩ := p
    obtain ⟨rfl, ev⟩ := w
    obtain ⟨t, rfl, lt⟩ : ∃ t : Str, v = .str t ∧ t.length ≤ 3000 := by
      have hm := List.mem_of_getElem? ev
      simp only [List.mem_cons, List.not_mem_nil, or_false] at hm
      rcases hm with rfl | rfl
      · exact ⟨_, rfl, lx⟩
      · exact ⟨_, rfl, lz⟩
    walk_at "w"
    refine ⟨.str t, .str t, fun _ => True, rfl, .str _, fun u e => by cases e; exact ⟨lt, fig3000 lt⟩, fun H8 c8 => ⟨_, rfl, ?_⟩⟩
    walk_at "w"
    refine ⟨.str t, .str t, fun _ => True, rfl, .str _, fun u e => by cases e; exact ⟨lt, fig3000 lt⟩, fun e0 H9 c9 => ?_, fun ds eds F H9 c9 nF r9 => ?_⟩
    · walk_at "w"
      exact ⟨(c6.same c8).same c9, _, _, rfl⟩
    · have eds : Fg.rdP t = some ds := eds
      obtain ⟨p, ep, ex, pw⟩ := rdP_sound eds (by omega)
      subst ep
      have r9 : R (fun _ => True) H9 (.ref F) (prgD p) := r9
      have sh : ShOk p := shOk_of pw (by rw [← ex]; exact fig3000 lt) (by rw [← ex]; exact lt)
      walk_at "w"
      refine ⟨.ref F, p, _, rfl, r9, sh, fun H10 c10 => ?_⟩
      rw [← ex]
      walk_at "w"
      refine w_iteD (fun _ => ?_) (fun h => absurd rfl h)
      walk_at "w"
      exact ⟨((c6.same c8).same c9).same c10, _, _, rfl⟩
  · obtain ⟨c6, y5, y6, rfl⟩ := p
    walk_at "w"
    exact q H6
end Fg
namespace Fg
open PySem PySem.Spec PyProof.Rows L2
section
section
variable {P : Program} {w : World} {K : PySem.W.Frag} {mg : Str → Option Value} {base : Heap} {x qual : Str} {st : Stmt} {f : Addr} {fd : FuncData} {sp : Sp} {k : Nat} {ps : List Str} {dvs : List V}
theorem FnP.caldX (n j : Nat) (F : FnP K x st dvs f fd) (ok : FnOk P w K mg base (L2.CX P w) k f fd ps sp) (g : mg x = some (.ref f)) (hd : dvs ≠ []) (hn : n + (dvs.length - j) = ps.length)
    (h : ∀ (T : Addr) (kV doc pm : Value) (an : Option Addr) (cdv ct : Value) (us its : List Value), us.length = n → its.length = dvs.length →
      ∃ k, bindArgs (PySem.W.fnOf x x (defArgs st) (defBody st) (defScope st) (.ref T) kV doc pm an cdv ct) ⟨us, []⟩ = seqItems? (.ref T) >>= k ∧ k (some its.toArray) = pure (ps.zip (us ++ its.drop j))) : CalX P w K mg base k x sp (dvs.drop j) := by
  obtain ⟨ds, v, b⟩ := F.binds1 n j hd hn h
  exact ⟨f, fd, ps, ds, ok, g, F.kp, b, v⟩
end
end
end Fg
namespace Fg
open PySem PySem.Spec PyProof.Rows L2
local macro_rules | `(tactic| walk_at "len") => `(tactic| first | exact (fun ⟨e, _⟩ => by rw [e]; rfl) | (refine exL ?_; intro _; walk_at "len"))
theorem sc_is_whole : FnScope ["thing"] ["thing"] (defScope s_is_whole) := ⟨rfl, rfl, rfl, by decide +kernel, rfl, by decide +kernel, by decide +kernel⟩
theorem sc_is_name : FnScope ["thing", "sign"] ["thing"] (defScope s_is_name) := ⟨rfl, rfl, rfl, by decide +kernel, rfl, by decide +kernel, by decide +kernel⟩
theorem sc_is_expression : FnScope ["thing", "most", "one"] ["thing", "most"] (defScope s_is_expression) := ⟨rfl, rfl, rfl, by decide +kernel, rfl, by decide +kernel, by decide +kernel⟩
theorem sc_is_step : FnScope ["thing", "names", "behind", "word"] ["thing", "names", "behind"] (defScope s_is_step) := ⟨rfl, rfl, rfl, by decide +kernel, rfl, by decide +kernel, by decide +kernel⟩
theorem sc_has_form : FnScope ["thing", "row", "names", "name", "steps", "one", "other"] ["thing"] (defScope s_has_form) := ⟨rfl, rfl, rfl, by decide +kernel, rfl, by decide +kernel, by decide +kernel⟩
theorem sc_first_wrong : FnScope ["program", "names", "name", "steps", "at", "step"] ["program"] (defScope s_first_wrong) := ⟨rfl, rfl, rfl, by decide +kernel, rfl, by decide +kernel, by decide +kernel⟩
theorem sc_is_program : FnScope ["thing"] ["thing"] (defScope s_is_program) := ⟨rfl, rfl, rfl, by decide +kernel, rfl, by decide +kernel, by decide +kernel⟩
theorem sc_show_expression : FnScope ["expression", "one"] ["expression"] (defScope s_show_expression) := ⟨rfl, rfl, rfl, by decide +kernel, rfl, by decide +kernel, by decide +kernel⟩
theorem sc_show_step : FnScope ["step", "one"] ["step"] (defScope s_show_step) := ⟨rfl, rfl, rfl, by decide +kernel, rfl, by decide +kernel, by decide +kernel⟩
theorem sc_show_program : FnScope ["program", "rows", "name", "steps", "step"] ["program"] (defScope s_show_program) := ⟨rfl, rfl, rfl, by decide +kernel, rfl, by decide +kernel, by decide +kernel⟩
theorem sc_read_number : FnScope ["text", "figures", "sign"] ["text"] (defScope s_read_number) := ⟨rfl, rfl, rfl, by decide +kernel, rfl, by decide +kernel, by decide +kernel⟩
theorem sc_parted : FnScope ["text", "found", "level", "sign"] ["text"] (defScope s_parted) := ⟨rfl, rfl, rfl, by decide +kernel, rfl, by decide +kernel, by decide +kernel⟩
theorem sc_read_expression : FnScope ["text", "most", "word", "inner", "one"] ["text", "most"] (defScope s_read_expression) := ⟨rfl, rfl, rfl, by decide +kernel, rfl, by decide +kernel, by decide +kernel⟩
theorem sc_read_step : FnScope ["text", "words"] ["text"] (defScope s_read_step) := ⟨rfl, rfl, rfl, by decide +kernel, rfl, by decide +kernel, by decide +kernel⟩
theorem sc_read_helper : FnScope ["text", "name", "between", "further", "one"] ["text"] (defScope s_read_helper) := ⟨rfl, rfl, rfl, by decide +kernel, rfl, by decide +kernel, by decide +kernel⟩
theorem sc_read_program : FnScope ["text", "program", "one"] ["text"] (defScope s_read_program) := ⟨rfl, rfl, rfl, by decide +kernel, rfl, by decide +kernel, by decide +kernel⟩
theorem sc__law_cell_at : FnScope ["script", "k"] ["script", "k"] (defScope s__law_cell_at) := ⟨rfl, rfl, rfl, by decide +kernel, rfl, by decide +kernel, by decide +kernel⟩
theorem sc__law_bag : FnScope ["cell", "place"] ["cell", "place"] (defScope s__law_bag) := ⟨rfl, rfl, rfl, by decide +kernel, rfl, by decide +kernel, by decide +kernel⟩
theorem sc__law_draw : FnScope ["bag", "many", "found", "mixed"] ["bag", "many"] (defScope s__law_draw) := ⟨rfl, rfl, rfl, by decide +kernel, rfl, by decide +kernel, by decide +kernel⟩
theorem sc__law_sign : FnScope ["bag", "some"] ["bag"] (defScope s__law_sign) := ⟨rfl, rfl, rfl, by decide +kernel, rfl, by decide +kernel, by decide +kernel⟩
theorem sc__law_is_name : FnScope ["thing", "sign"] ["thing"] (defScope s__law_is_name) := ⟨rfl, rfl, rfl, by decide +kernel, rfl, by decide +kernel, by decide +kernel⟩
theorem sc__law_is_whole : FnScope ["thing"] ["thing"] (defScope s__law_is_whole) := ⟨rfl, rfl, rfl, by decide +kernel, rfl, by decide +kernel, by decide +kernel⟩
theorem sc__law_is_expression : FnScope ["thing", "most", "parts", "one"] ["thing", "most"] (defScope s__law_is_expression) := ⟨rfl, rfl, rfl, by decide +kernel, rfl, by decide +kernel, by decide +kernel⟩
theorem sc__law_is_step : FnScope ["thing", "names", "behind", "word", "one", "other"] ["thing", "names", "behind"] (defScope s__law_is_step) := ⟨rfl, rfl, rfl, by decide +kernel, rfl, by decide +kernel, by decide +kernel⟩
theorem sc__law_wrong : FnScope ["program", "ahead", "row", "names", "name", "steps", "k"] ["program"] (defScope s__law_wrong) := ⟨rfl, rfl, rfl, by decide +kernel, rfl, by decide +kernel, by decide +kernel⟩
theorem sc__law_number_read : FnScope ["text", "at", "end", "first"] ["text", "at"] (defScope s__law_number_read) := ⟨rfl, rfl, rfl, by decide +kernel, rfl, by decide +kernel, by decide +kernel⟩
theorem sc__law_expression_read : FnScope ["text", "at", "most", "word", "many", "parts", "end", "j", "got"] ["text", "at", "most"] (defScope s__law_expression_read) := ⟨rfl, rfl, rfl, by decide +kernel, rfl, by decide +kernel, by decide +kernel⟩
theorem sc__law_letters : FnScope ["text", "at"] ["text", "at"] (defScope s__law_letters) := ⟨rfl, rfl, rfl, by decide +kernel, rfl, by decide +kernel, by decide +kernel⟩
theorem sc__law_step_read : FnScope ["text", "at", "end", "word", "mid", "one", "other"] ["text", "at"] (defScope s__law_step_read) := ⟨rfl, rfl, rfl, by decide +kernel, rfl, by decide +kernel, by decide +kernel⟩
theorem sc__law_helper_read : FnScope ["text", "at", "end", "name", "steps", "got"] ["text", "at"] (defScope s__law_helper_read) := ⟨rfl, rfl, rfl, by decide +kernel, rfl, by decide +kernel, by decide +kernel⟩
theorem sc__law_read : FnScope ["text", "found", "at", "got"] ["text"] (defScope s__law_read) := ⟨rfl, rfl, rfl, by decide +kernel, rfl, by decide +kernel, by decide +kernel⟩
theorem sc__law_plain_refusal : FnScope ["caught"] ["caught"] (defScope s__law_plain_refusal) := ⟨rfl, rfl, rfl, by decide +kernel, rfl, by decide +kernel, by decide +kernel⟩
theorem sc__law_asked : FnScope ["text", "found", "caught", "e", "due"] ["text"] (defScope s__law_asked) := ⟨rfl, rfl, rfl, by decide +kernel, rfl, by decide +kernel, by decide +kernel⟩
theorem sc__law_long : FnScope ["bag", "letters", "many", "pick", "piece", "deep", "long", "k"] ["bag"] (defScope s__law_long) := ⟨rfl, rfl, rfl, by decide +kernel, rfl, by decide +kernel, by decide +kernel⟩
theorem sc_law : FnScope ["script", "bag", "text", "at", "other", "one", "due"] ["script"] (defScope s_law) := ⟨rfl, rfl, rfl, by decide +kernel, rfl, by decide +kernel, by decide +kernel⟩
structure Gm (w : World) (K : PySem.W.Frag) (mg : Str → Option Value) (dP : Addr) (es : Array DictEntry) (nn : Nat) : Prop where
  ValueError : mg "ValueError" = none
  all : mg "all" = none
  isinstance : mg "isinstance" = none
  int : mg "int" = none
  tuple : mg "tuple" = none
  len : mg "len" = none
  list : mg "list" = none
  enumerate : mg "enumerate" = none
  str : mg "str" = none
  max : mg "max" = none
  range : mg "range" = none
  bool : mg "bool" = none
  zip : mg "zip" = none
  LETTERS : ∃ u, mg "LETTERS" = some u ∧ RelV (.str letters) u
  LONGEST_NAME : ∃ u, mg "LONGEST_NAME" = some u ∧ RelV (.int 8) u
  PARTS : ∃ u, mg "PARTS" = some u ∧ RelV (.ref dP) u
  FIGURES : ∃ u, mg "FIGURES" = some u ∧ RelV (.str figs) u
  WorkError : mg "WorkError" = some (.ref (He.ga K "WorkError"))
  NoProgram : mg "NoProgram" = some (.ref (He.ga K "NoProgram"))
  NoHelper : mg "NoHelper" = some (.ref (He.ga K "NoHelper"))
  TooLong : mg "TooLong" = some (.ref (He.ga K "TooLong"))
  NoMark : mg "NoMark" = some (.ref (He.ga K "NoMark"))
  NoHand : mg "NoHand" = some (.ref (He.ga K "NoHand"))
  NotOver : mg "NotOver" = some (.ref (He.ga K "NotOver"))
  NoText : mg "NoText" = some (.ref (He.ga K "NoText"))
  dP : KDict K w dP es nn
  DG : DgK K
section
variable {P : Program} {w : World} {K : PySem.W.Frag} {mg : Str → Option Value} {base : Heap} {dP : Addr} {es : Array DictEntry} {nn : Nat} {f : Addr} {fd : FuncData}
theorem ok_is_whole (F : FnP K "is_whole" s_is_whole [] f fd) (G : Gm w K mg dP es nn)  : FnOk P w K mg base CX0 1 f fd ["thing"] sp_is_whole :=
  FnP.go (k := 0) F sc_is_whole (fun vs H Q E => by first | (unfold sp_is_whole; walk_at "len") | walk_at "len") (t_is_whole K) (fun vs H Q E h => pure_is_whole (K := K) vs H Q E h) fun cdv A outer s H E hr =>
    (pss_one (ps_ret (pe_and (pe_callB call_isi (by rfl) G.isinstance (by decide +kernel) (pa_cons (pv 0) (pa_cons (pe_bltn (v := .ty "int") (by rfl) G.int (by decide +kernel) rfl) pa_nil))) (pe_one (pe_not (pe_callB call_isi (by rfl) G.isinstance (by decide +kernel) (pa_cons (pv 0) (pa_cons (pe_bltn (v := .ty "bool") (by rfl) G.bool (by decide +kernel) rfl) pa_nil))))))))
theorem ok_is_name (F : FnP K "is_name" s_is_name [] f fd) (G : Gm w K mg dP es nn)  : FnOk P w K mg base CX0 1 f fd ["thing"] sp_is_name :=
  FnP.go (k := 0) F sc_is_name (fun vs H Q E => by first | (unfold sp_is_name; walk_at "len") | walk_at "len") (t_is_name K) (fun vs H Q E h => pure_is_name (K := K) vs H Q E h) fun cdv A outer s H E hr =>
    (pss_cons (ps_if (PW.pt (pw_or (pt_not (pt_val (pe_callB call_isi (by rfl) G.isinstance (by decide +kernel) (pa_cons (pv 0) (pa_cons (pe_bltn (v := .ty "str") (by rfl) G.str (by decide +kernel) rfl) pa_nil))))) (pw_or (pt_cmpR p_lt (pe_callB p_lenS (by rfl) G.len (by decide +kernel) (pa_cons (pv 0) pa_nil)) pe_int (nomark _)) (pw_or1 (pt_cmpR p_gt (pe_callB p_lenS (by rfl) G.len (by decide +kernel) (pa_cons (pv 0) pa_nil)) (pe_gc (by rfl) G.LONGEST_NAME) (nomark _)))))) (pss_one (ps_ret pe_bl)) pss_nil)
      (pss_one (ps_ret (pe_callB (cr_all rfl) (by rfl) G.all (by decide +kernel) (pa_cons (pe_lc (own := [("sign", 1)]) (g := gName 1) (tt := tYes) (by rfl) sc_is_name.nd (pi_str (pv 0)) (blkOk_by (own := [("sign", 1)]) (N := ["thing", "sign"]) (sc := defScope s_is_name) (by decide +kernel)) (fun _ _ _ _ _ => (pg_name (i := 1) sc_is_name.nd rfl (by first | exact Or.inl rfl | exact Or.inr rfl))) (fun _ _ _ _ _ => pts_nil) (fun _ _ _ _ _ => (pe_cmpR p_inC (pv 1) (pe_gc (by rfl) G.LETTERS) (by rfl)))) pa_nil)))))
theorem ok_is_expression (F : FnP K "is_expression" s_is_expression [.int 5] f fd) (G : Gm w K mg dP es nn) (T : Parts K w dP) (g : mg "is_expression" = some (.ref f)) (c_is_whole : Cal P w K mg base 1 "is_whole" sp_is_whole []) : ∀ n : Nat, FnOk P w K mg base CX0 (n + 2) f fd ["thing", "most"] ((sp_is_expression n))
  | 0 => ⟨fun vs H Q E h => absurd h (no_is_expression vs H Q E), fun A outer s H args us vs Q E _ _ _ _ h => absurd h (no_is_expression vs H Q E)⟩
  | n + 1 => by
    have ih := ok_is_expression F G T g c_is_whole n
    have c_is_expression : Cal P w K mg base (n + 2) "is_expression" ((sp_is_expression n)) [] := FnP.cald 2 1 F ih g (by simp) rfl fun _ _ _ _ _ _ _ us its h1 h2 => match us, its, h1, h2 with | [_, _], [_], _, _ => ⟨_, rfl, rfl⟩
    exact FnP.go (k := n + 2) F sc_is_expression (fun vs H Q E => by first | (unfold sp_is_expression; walk_at "len") | walk_at "len") (t_is_expression K w dP n) (fun vs H Q E h => pure_is_expression (K := K) T n vs H Q E h) fun cdv A outer s H E hr =>
      (pss_cons (ps_if (pt_cmpR p_lt (pv 1) pe_int (nomark _)) (pss_one (ps_ret pe_bl)) pss_nil)
      (pss_cons (ps_if (pt_val (pe_c c_is_whole hr (by omega) (by rfl) (pa_cons (pv 0) pa_nil))) (pss_one (ps_ret pe_bl)) pss_nil)
      (pss_cons (ps_if (PW.pt (pw_or (pt_not (pt_val (pe_callB call_isi (by rfl) G.isinstance (by decide +kernel) (pa_cons (pv 0) (pa_cons (pe_bltn (v := .ty "tuple") (by rfl) G.tuple (by decide +kernel) rfl) pa_nil))))) (pw_or (pt_cmpR p_lt (pe_callB p_lenQ (by rfl) G.len (by decide +kernel) (pa_cons (pv 0) pa_nil)) pe_int (nomark _)) (pw_or1 (pt_not (pt_val (pe_callB call_isi (by rfl) G.isinstance (by decide +kernel) (pa_cons (pe_ix ix_tup (pv 0) pe_int (fun _ _ => rfl)) (pa_cons (pe_bltn (v := .ty "str") (by rfl) G.str (by decide +kernel) rfl) pa_nil))))))))) (pss_one (ps_ret pe_bl)) pss_nil)
      (pss_cons (ps_if (PW.pt (pw_or (pt_cmpR (op_notIn_kd G.dP) (pe_ix ix_tup (pv 0) pe_int (fun _ _ => rfl)) (pe_gc (by rfl) G.PARTS) (by rfl)) (pw_or1 (pt_cmpR op_ne (pe_callB p_lenQ (by rfl) G.len (by decide +kernel) (pa_cons (pv 0) pa_nil)) (pe_op p_add (pe_ix ix_kdict (pe_gc (by rfl) G.PARTS) (pe_ix ix_tup (pv 0) pe_int (fun _ _ => rfl)) (fun _ _ => rfl)) pe_int) (nomark _))))) (pss_one (ps_ret pe_bl)) pss_nil)
      (pss_one (ps_ret (pe_callB (cr_all rfl) (by rfl) G.all (by decide +kernel) (pa_cons (pe_lc (own := [("one", 2)]) (g := gName 2) (tt := tYes) (by rfl) sc_is_expression.nd (pi_tup (pe_slice sl_tupA (pv 0) (po_some pe_int) po_none)) (blkOk_by (own := [("one", 2)]) (N := ["thing", "most", "one"]) (sc := defScope s_is_expression) (by decide +kernel)) (fun _ _ _ _ _ => (pg_name (i := 2) sc_is_expression.nd rfl (by first | exact Or.inl rfl | exact Or.inr rfl))) (fun _ _ _ _ _ => pts_nil) (fun _ _ _ _ _ => (pe_c c_is_expression hr (by omega) (by rfl) (pa_cons (pv 2) (pa_cons (pe_op p_sub (pv 1) pe_int) pa_nil))))) pa_nil))))))))
theorem ok_is_step (F : FnP K "is_step" s_is_step [] f fd) (G : Gm w K mg dP es nn) (c_is_expression_d : Cal P w K mg base 8 "is_expression" (sp_is_expression 6) [.int 5]) (c_is_whole : Cal P w K mg base 1 "is_whole" sp_is_whole []) (c_is_name : Cal P w K mg base 1 "is_name" sp_is_name []) : FnOk P w K mg base CX0 9 f fd ["thing", "names", "behind"] (sp_is_step K) :=
  FnP.go (k := 8) F sc_is_step (fun vs H Q E => by first | (unfold sp_is_step; walk_at "len") | walk_at "len") (t_is_step K) (fun vs H Q E h => pure_is_step (K := K) vs H Q E h) fun cdv A outer s H E hr =>
    (pss_cons (ps_if (PW.pt (pw_or (pt_not (pt_val (pe_callB call_isi (by rfl) G.isinstance (by decide +kernel) (pa_cons (pv 0) (pa_cons (pe_bltn (v := .ty "tuple") (by rfl) G.tuple (by decide +kernel) rfl) pa_nil))))) (pw_or (pt_cmpR p_lt (pe_callB p_lenQ (by rfl) G.len (by decide +kernel) (pa_cons (pv 0) pa_nil)) pe_int (nomark _)) (pw_or1 (pt_not (pt_val (pe_callB call_isi (by rfl) G.isinstance (by decide +kernel) (pa_cons (pe_ix ix_tup (pv 0) pe_int (fun _ _ => rfl)) (pa_cons (pe_bltn (v := .ty "str") (by rfl) G.str (by decide +kernel) rfl) pa_nil))))))))) (pss_one (ps_ret pe_bl)) pss_nil)
      (pss_cons (ps_set (i := 3) sc_is_step.nd rfl (by first | exact Or.inl rfl | exact Or.inr rfl) (pe_ix ix_tup (pv 0) pe_int (fun _ _ => rfl)))
      (pss_cons (ps_if (pt_cmpR op_eq (pv 3) pe_str (nomark _)) (pss_one (ps_ret (pe_cmpR op_eq (pe_callB p_lenQ (by rfl) G.len (by decide +kernel) (pa_cons (pv 0) pa_nil)) pe_int (nomark _)))) pss_nil)
      (pss_cons (ps_if (pt_cmpR op_ne (pe_callB p_lenQ (by rfl) G.len (by decide +kernel) (pa_cons (pv 0) pa_nil)) pe_int (nomark _)) (pss_one (ps_ret pe_bl)) pss_nil)
      (pss_cons (ps_if (pt_cmpR op_eq (pv 3) pe_str (nomark _)) (pss_one (ps_ret (pe_and (pe_c c_is_expression_d hr (by omega) (by rfl) (pa_cons (pe_ix ix_tup (pv 0) pe_int (fun _ _ => rfl)) pa_nil)) (pe_one (pe_c c_is_expression_d hr (by omega) (by rfl) (pa_cons (pe_ix ix_tup (pv 0) pe_int (fun _ _ => rfl)) pa_nil)))))) pss_nil)
      (pss_cons (ps_if (pt_cmpR op_eq (pv 3) pe_str (nomark _)) (pss_one (ps_ret (pe_and (pe_c c_is_expression_d hr (by omega) (by rfl) (pa_cons (pe_ix ix_tup (pv 0) pe_int (fun _ _ => rfl)) pa_nil)) (pe_and (pe_c c_is_whole hr (by omega) (by rfl) (pa_cons (pe_ix ix_tup (pv 0) pe_int (fun _ _ => rfl)) pa_nil)) (pe_one (pe_chain p_le p_le pe_int (pe_ix ix_tup (pv 0) pe_int (fun _ _ => rfl)) (pv 2))))))) pss_nil)
      (pss_cons (ps_if (PW.pt (pw_or (pt_cmpR op_notIn_seq (pv 3) (pe_tup (pa_cons pe_str (pa_cons pe_str (pa_cons pe_str pa_nil)))) (by rfl)) (pw_or (pt_not (pt_val (pe_c c_is_name hr (by omega) (by rfl) (pa_cons (pe_ix ix_tup (pv 0) pe_int (fun _ _ => rfl)) pa_nil)))) (pw_or1 (pt_not (pt_val (pe_c c_is_expression_d hr (by omega) (by rfl) (pa_cons (pe_ix ix_tup (pv 0) pe_int (fun _ _ => rfl)) pa_nil)))))))) (pss_one (ps_ret pe_bl)) pss_nil)
      (pss_one (ps_ret (pe_or (pe_cmpR op_eq (pv 3) pe_str (nomark _)) (pe_one (pe_cmpR op_in_seq (pe_ix ix_tup (pv 0) pe_int (fun _ _ => rfl)) (pv 1) (by rfl)))))))))))))
theorem ok_has_form (F : FnP K "has_form" s_has_form [] f fd) (G : Gm w K mg dP es nn) (c_is_name : Cal P w K mg base 1 "is_name" sp_is_name []) : FnOk P w K mg base CX0 2 f fd ["thing"] sp_has_form :=
  FnP.go (k := 1) F sc_has_form (fun vs H Q E => by first | (unfold sp_has_form; walk_at "len") | walk_at "len") (t_has_form K) (fun vs H Q E h => pure_has_form (K := K) vs H Q E h) fun cdv A outer s H E hr =>
    (pss_cons (ps_if (pt_not (pt_val (pe_callB call_isi (by rfl) G.isinstance (by decide +kernel) (pa_cons (pv 0) (pa_cons (pe_bltn (v := .ty "list") (by rfl) G.list (by decide +kernel) rfl) pa_nil))))) (pss_one (ps_ret pe_bl)) pss_nil)
      (pss_cons (ps_for PassesOwn.never rfl (pi_list (pv 0)) (pg_name (i := 1) sc_has_form.nd rfl (by first | exact Or.inl rfl | exact Or.inr rfl)) (pss_one (ps_if (PW.pt (pw_or (pt_not (pt_val (pe_callB call_isi (by rfl) G.isinstance (by decide +kernel) (pa_cons (pv 1) (pa_cons (pe_bltn (v := .ty "tuple") (by rfl) G.tuple (by decide +kernel) rfl) pa_nil))))) (pw_or (pt_cmpR op_ne (pe_callB p_lenQ (by rfl) G.len (by decide +kernel) (pa_cons (pv 1) pa_nil)) pe_int (nomark _)) (pw_or (pt_not (pt_val (pe_c c_is_name hr (by omega) (by rfl) (pa_cons (pe_ix ix_tup (pv 1) pe_int (fun _ _ => rfl)) pa_nil)))) (pw_or1 (pt_not (pt_val (pe_callB call_isi (by rfl) G.isinstance (by decide +kernel) (pa_cons (pe_ix ix_tup (pv 1) pe_int (fun _ _ => rfl)) (pa_cons (pe_bltn (v := .ty "list") (by rfl) G.list (by decide +kernel) rfl) pa_nil)))))))))) (pss_one (ps_ret pe_bl)) pss_nil)))
      (pss_cons (ps_setLc (i := 2) (own := [("name", 3), ("steps", 4)]) (g := gTup K 2 (gCons (gName 3) (gCons (gName 4) (gNil)))) (tt := tYes) (by rfl) sc_has_form.nd rfl rfl (sw_true rfl rfl rfl (by decide +kernel)) (pi_list (pv 0)) (blkOk_by (own := [("name", 3), ("steps", 4)]) (N := ["thing", "row", "names", "name", "steps", "one", "other"]) (sc := defScope s_has_form) (by decide +kernel)) (fun _ _ _ _ _ => (pg_tup rfl (pgs_cons (pg_name (i := 3) sc_has_form.nd rfl (by first | exact Or.inl rfl | exact Or.inr rfl)) (pgs_cons (pg_name (i := 4) sc_has_form.nd rfl (by first | exact Or.inl rfl | exact Or.inr rfl)) pgs_nil)))) (fun _ _ _ _ _ => pts_nil) (fun _ _ _ _ _ => (pv 3)))
      (pss_one (ps_ret (pe_callB (cr_all rfl) (by rfl) G.all (by decide +kernel) (pa_cons (pe_lc (own := [("one", 5), ("other", 6)]) (g := gTup K 2 (gCons (gName 5) (gCons (gName 6) (gNil)))) (tt := tYes) (by rfl) sc_has_form.nd (pi_zip (by rfl) G.zip (pa_cons (pv 2) (pa_cons (pe_slice sl_list (pv 2) (po_some pe_int) po_none) pa_nil))) (blkOk_by (own := [("one", 5), ("other", 6)]) (N := ["thing", "row", "names", "name", "steps", "one", "other"]) (sc := defScope s_has_form) (by decide +kernel)) (fun _ _ _ _ _ => (pg_tup rfl (pgs_cons (pg_name (i := 5) sc_has_form.nd rfl (by first | exact Or.inl rfl | exact Or.inr rfl)) (pgs_cons (pg_name (i := 6) sc_has_form.nd rfl (by first | exact Or.inl rfl | exact Or.inr rfl)) pgs_nil)))) (fun _ _ _ _ _ => pts_nil) (fun _ _ _ _ _ => (pe_cmpR p_ltS (pv 5) (pv 6) (nomark _)))) pa_nil)))))))
theorem ok_first_wrong (F : FnP K "first_wrong" s_first_wrong [] f fd) (G : Gm w K mg dP es nn) (c_has_form : Cal P w K mg base 2 "has_form" sp_has_form []) (c_is_step : Cal P w K mg base 9 "is_step" (sp_is_step K) []) : FnOk P w K mg base CX0 10 f fd ["program"] sp_first_wrong :=
  FnP.go (k := 9) F sc_first_wrong (fun vs H Q E => by first | (unfold sp_first_wrong; walk_at "len") | walk_at "len") (t_first_wrong K) (fun vs H Q E h => pure_first_wrong (K := K) vs H Q E h) fun cdv A outer s H E hr =>
    (pss_cons (ps_if (pt_not (pt_val (pe_c c_has_form hr (by omega) (by rfl) (pa_cons (pv 0) pa_nil)))) (pss_one (ps_ret (pe_tup (pa_cons pe_non (pa_cons pe_non pa_nil))))) pss_nil)
      (pss_cons (ps_setLc (i := 1) (own := [("name", 2), ("steps", 3)]) (g := gTup K 2 (gCons (gName 2) (gCons (gName 3) (gNil)))) (tt := tYes) (by rfl) sc_first_wrong.nd rfl rfl (sw_true rfl rfl rfl (by decide +kernel)) (pi_list (pv 0)) (blkOk_by (own := [("name", 2), ("steps", 3)]) (N := ["program", "names", "name", "steps", "at", "step"]) (sc := defScope s_first_wrong) (by decide +kernel)) (fun _ _ _ _ _ => (pg_tup rfl (pgs_cons (pg_name (i := 2) sc_first_wrong.nd rfl (by first | exact Or.inl rfl | exact Or.inr rfl)) (pgs_cons (pg_name (i := 3) sc_first_wrong.nd rfl (by first | exact Or.inl rfl | exact Or.inr rfl)) pgs_nil)))) (fun _ _ _ _ _ => pts_nil) (fun _ _ _ _ _ => (pv 2)))
      (pss_cons (ps_for PassesOwn.never rfl (pi_list (pv 0)) (pg_tup rfl (pgs_cons (pg_name (i := 2) sc_first_wrong.nd rfl (by first | exact Or.inl rfl | exact Or.inr rfl)) (pgs_cons (pg_name (i := 3) sc_first_wrong.nd rfl (by first | exact Or.inl rfl | exact Or.inr rfl)) pgs_nil))) (pss_one (ps_for PassesOwn.never rfl (pi_enum (by rfl) G.enumerate (pa_cons (pv 3) pa_nil)) (pg_tup rfl (pgs_cons (pg_name (i := 4) sc_first_wrong.nd rfl (by first | exact Or.inl rfl | exact Or.inr rfl)) (pgs_cons (pg_name (i := 5) sc_first_wrong.nd rfl (by first | exact Or.inl rfl | exact Or.inr rfl)) pgs_nil))) (pss_one (ps_if (pt_not (pt_val (pe_c c_is_step hr (by omega) (by rfl) (pa_cons (pv 5) (pa_cons (pv 1) (pa_cons (pe_op p_sub (pe_op p_sub (pe_callB p_lenQ (by rfl) G.len (by decide +kernel) (pa_cons (pv 3) pa_nil)) (pv 4)) pe_int) pa_nil)))))) (pss_one (ps_ret (pe_tup (pa_cons (pv 2) (pa_cons (pv 4) pa_nil))))) pss_nil)))))
      (pss_one (ps_ret pe_non)))))
theorem ok_is_program (F : FnP K "is_program" s_is_program [] f fd) (G : Gm w K mg dP es nn) (c_first_wrong : Cal P w K mg base 10 "first_wrong" sp_first_wrong []) : FnOk P w K mg base CX0 11 f fd ["thing"] sp_is_program :=
  FnP.go (k := 10) F sc_is_program (fun vs H Q E => by first | (unfold sp_is_program; walk_at "len") | walk_at "len") (t_is_program) (fun vs H Q E h => pure_is_program (K := K) vs H Q E h) fun cdv A outer s H E hr =>
    (pss_one (ps_ret (pe_cmpR p_isN (pe_c c_first_wrong hr (by omega) (by rfl) (pa_cons (pv 0) pa_nil)) pe_non (nomark _))))
theorem ok_show_expression (F : FnP K "show_expression" s_show_expression [] f fd) (G : Gm w K mg dP es nn) (g : mg "show_expression" = some (.ref f))  : ∀ n : Nat, FnOk P w K mg base CX0 (n + 2) f fd ["expression"] ((sp_show_expression K n))
  | 0 => ⟨fun vs H Q E h => absurd h (no_show_expression vs H Q E), fun A outer s H args us vs Q E _ _ _ _ h => absurd h (no_show_expression vs H Q E)⟩
  | n + 1 => by
    have ih := ok_show_expression F G g  n
    have c_show_expression : Cal P w K mg base (n + 2) "show_expression" ((sp_show_expression K n)) [] := F.cal ih g fun _ _ _ _ _ _ us hl => match us, hl with | [_], _ => rfl
    exact FnP.go (k := n + 2) F sc_show_expression (fun vs H Q E => by first | (unfold sp_show_expression; walk_at "len") | walk_at "len") (t_show_expression K n) (fun vs H Q E h => pure_show_expression (K := K) n vs H Q E h) fun cdv A outer s H E hr =>
      (pss_cons (ps_if (pt_val (pe_callB call_isi (by rfl) G.isinstance (by decide +kernel) (pa_cons (pv 0) (pa_cons (pe_bltn (v := .ty "int") (by rfl) G.int (by decide +kernel) rfl) pa_nil)))) (pss_one (ps_ret (pe_callTy (p_strIB (by rfl) G.DG) (by rfl) G.str (by decide +kernel) (pa_cons (pv 0) pa_nil)))) pss_nil)
      (pss_cons (ps_if (pt_cmpR op_eq (pe_callB p_lenQ (by rfl) G.len (by decide +kernel) (pa_cons (pv 0) pa_nil)) pe_int (nomark _)) (pss_one (ps_ret (pe_ix ix_tup (pv 0) pe_int (fun _ _ => rfl)))) pss_nil)
      (pss_one (ps_ret (pe_op p_addS (pe_op p_addS (pe_op p_addS (pe_ix ix_tup (pv 0) pe_int (fun _ _ => rfl)) pe_str) (pe_join pe_str (pe_lc (own := [("one", 1)]) (g := gName 1) (tt := tYes) (by rfl) sc_show_expression.nd (pi_tup (pe_slice sl_tupA (pv 0) (po_some pe_int) po_none)) (blkOk_by (own := [("one", 1)]) (N := ["expression", "one"]) (sc := defScope s_show_expression) (by decide +kernel)) (fun _ _ _ _ _ => (pg_name (i := 1) sc_show_expression.nd rfl (by first | exact Or.inl rfl | exact Or.inr rfl))) (fun _ _ _ _ _ => pts_nil) (fun _ _ _ _ _ => (pe_c c_show_expression hr (by omega) (by rfl) (pa_cons (pv 1) pa_nil)))))) pe_str)))))
theorem ok_show_step (F : FnP K "show_step" s_show_step [] f fd) (G : Gm w K mg dP es nn) (c_show_expression : Cal P w K mg base 8 "show_expression" (sp_show_expression K 6) []) : FnOk P w K mg base CX0 9 f fd ["step"] (sp_show_step K) :=
  FnP.go (k := 8) F sc_show_step (fun vs H Q E => by first | (unfold sp_show_step; walk_at "len") | walk_at "len") (t_show_step K) (fun vs H Q E h => pure_show_step (K := K) vs H Q E h) fun cdv A outer s H E hr =>
    (pss_one (ps_ret (pe_join pe_str (pe_lc (own := [("one", 1)]) (g := gName 1) (tt := tYes) (by rfl) sc_show_step.nd (pi_tup (pv 0)) (blkOk_by (own := [("one", 1)]) (N := ["step", "one"]) (sc := defScope s_show_step) (by decide +kernel)) (fun _ _ _ _ _ => (pg_name (i := 1) sc_show_step.nd rfl (by first | exact Or.inl rfl | exact Or.inr rfl))) (fun _ _ _ _ _ => pts_nil) (fun _ _ _ _ _ => (pe_ifExp (pt_val (pe_callB call_isi (by rfl) G.isinstance (by decide +kernel) (pa_cons (pv 1) (pa_cons (pe_bltn (v := .ty "str") (by rfl) G.str (by decide +kernel) rfl) pa_nil)))) (pv 1) (pe_c c_show_expression hr (by omega) (by rfl) (pa_cons (pv 1) pa_nil))))))))
theorem ok_show_program (F : FnP K "show_program" s_show_program [] f fd) (G : Gm w K mg dP es nn) (c_show_step : Cal P w K mg base 9 "show_step" (sp_show_step K) []) : FnOk P w K mg base CX0 10 f fd ["program"] (sp_show_program K) :=
  FnP.go (k := 9) F sc_show_program (fun vs H Q E => by first | (unfold sp_show_program; walk_at "len") | walk_at "len") (t_show_program K) (fun vs H Q E h => pure_show_program (K := K) vs H Q E h) fun cdv A outer s H E hr =>
    (pss_cons (ps_set (i := 1) sc_show_program.nd rfl (by first | exact Or.inl rfl | exact Or.inr rfl) (pe_lst pa_nil))
      (pss_cons (ps_for PassesOwn.never rfl (pi_list (pv 0)) (pg_tup rfl (pgs_cons (pg_name (i := 2) sc_show_program.nd rfl (by first | exact Or.inl rfl | exact Or.inr rfl)) (pgs_cons (pg_name (i := 3) sc_show_program.nd rfl (by first | exact Or.inl rfl | exact Or.inr rfl)) pgs_nil))) (pss_cons (ps_expr (pe_bm PySem.F.plainAttrs_list PySem.F.slot_list_append PySem.F.type_list_append mt_append (pv 1) (pa_cons (pe_op p_addS (pv 2) pe_str) pa_nil)))
      (pss_one (ps_if (pt_cmpR (p_neE hr.units) (pv 3) (pe_lst pa_nil) (nomark _)) (pss_one (ps_asg (pe_op p_addS (pe_op p_addS (pv 2) pe_str) (pe_join pe_str (pe_lc (own := [("step", 4)]) (g := gName 4) (tt := tYes) (by rfl) sc_show_program.nd (pi_list (pv 3)) (blkOk_by (own := [("step", 4)]) (N := ["program", "rows", "name", "steps", "step"]) (sc := defScope s_show_program) (by decide +kernel)) (fun _ _ _ _ _ => (pg_name (i := 4) sc_show_program.nd rfl (by first | exact Or.inl rfl | exact Or.inr rfl))) (fun _ _ _ _ _ => pts_nil) (fun _ _ _ _ _ => (pe_c c_show_step hr (by omega) (by rfl) (pa_cons (pv 4) pa_nil)))))) (pg_sub (pv 1) (pe_un un_neg pe_int) set_list))) pss_nil))))
      (pss_one (ps_ret (pe_join pe_str (pv 1))))))
theorem ok_read_number (F : FnP K "read_number" s_read_number [] f fd) (G : Gm w K mg dP es nn) (m_NoText : MkN K mg "NoText" (He.ga K "NoText")) : FnOk P w K mg base (L2.CX P w) 3 f fd ["text"] (sp_read_number K) :=
  FnP.goX (k := 2) F sc_read_number (fun vs H Q E => by first | (unfold sp_read_number; walk_at "len") | walk_at "len") (fun E => t_read_number E K) (fun vs H Q E h => pure_read_number (K := K) vs H Q E h) fun cdv A outer s H E hr =>
    (pss_cons (ps_set (i := 1) sc_read_number.nd rfl (by first | exact Or.inl rfl | exact Or.inr rfl) (pv 0))
      (pss_cons (ps_if (pt_cmpR op_eq (pe_slice sl_str (pv 0) po_none (po_some pe_int)) pe_str (nomark _)) (pss_one (ps_set (i := 1) sc_read_number.nd rfl (by first | exact Or.inl rfl | exact Or.inr rfl) (pe_slice sl_str (pv 0) (po_some pe_int) po_none))) pss_nil)
      (pss_cons (ps_if (PW.pt (pw_or (pt_cmpR op_eq (pv 1) pe_str (nomark _)) (pw_or1 (pt_not (pt_val (pe_callB (cr_all rfl) (by rfl) G.all (by decide +kernel) (pa_cons (pe_lc (own := [("sign", 2)]) (g := gName 2) (tt := tYes) (by rfl) sc_read_number.nd (pi_str (pv 1)) (blkOk_by (own := [("sign", 2)]) (N := ["text", "figures", "sign"]) (sc := defScope s_read_number) (by decide +kernel)) (fun _ _ _ _ _ => (pg_name (i := 2) sc_read_number.nd rfl (by first | exact Or.inl rfl | exact Or.inr rfl))) (fun _ _ _ _ _ => pts_nil) (fun _ _ _ _ _ => (pe_cmpR p_inC (pv 2) (pe_gc (by rfl) G.FIGURES) (by rfl)))) pa_nil))))))) (pss_one (ps_raiseN rfl m_NoText (takes_of rfl rfl rfl rfl) (by rfl))) pss_nil)
      (pss_cons (ps_if (PW.pt (pw_and (pt_cmpR op_eq (pe_ix ix_str (pv 1) pe_int (fun _ _ => rfl)) pe_str (nomark _)) (pw_and1 (pt_cmpR op_ne (pv 0) pe_str (nomark _))))) (pss_one (ps_raiseN rfl m_NoText (takes_of rfl rfl rfl rfl) (by rfl))) pss_nil)
      (pss_one (ps_ret (pe_callTy (p_intS G.DG) (by rfl) G.int (by decide +kernel) (pa_cons (pv 0) pa_nil))))))))
theorem ok_parted (F : FnP K "parted" s_parted [] f fd) (G : Gm w K mg dP es nn) (m_NoText : MkN K mg "NoText" (He.ga K "NoText")) : FnOk P w K mg base (L2.CX P w) 3 f fd ["text"] (sp_parted K) :=
  FnP.goX (k := 2) F sc_parted (fun vs H Q E => by first | (unfold sp_parted; walk_at "len") | walk_at "len") (fun E => t_parted E K) (fun vs H Q E h => pure_parted (K := K) vs H Q E h) fun cdv A outer s H E hr =>
    (pss_cons (ps_set (i := 1) sc_parted.nd rfl (by first | exact Or.inl rfl | exact Or.inr rfl) (pe_lst (pa_cons pe_str pa_nil)))
      (pss_cons (ps_set (i := 2) sc_parted.nd rfl (by first | exact Or.inl rfl | exact Or.inr rfl) pe_int)
      (pss_cons (ps_for (passes_of rfl) rfl (pi_str (pv 0)) (pg_name (i := 3) sc_parted.nd rfl (by first | exact Or.inl rfl | exact Or.inr rfl)) (pss_cons (ps_if (pt_cmpR op_eq (pv 3) pe_str (nomark _)) (pss_one (ps_aug (i := 2) sc_parted.nd rfl (by first | exact Or.inl rfl | exact Or.inr rfl) pe_int ip_add)) (pss_one (ps_if (pt_cmpR op_eq (pv 3) pe_str (nomark _)) (pss_one (ps_aug (i := 2) sc_parted.nd rfl (by first | exact Or.inl rfl | exact Or.inr rfl) pe_int ip_sub)) pss_nil)))
      (pss_cons (ps_if (pt_cmpR p_lt (pv 2) pe_int (nomark _)) (pss_one (ps_raiseN rfl m_NoText (takes_of rfl rfl rfl rfl) (by rfl))) pss_nil)
      (pss_one (ps_if (PW.pt (pw_and (pt_cmpR op_eq (pv 3) pe_str (nomark _)) (pw_and1 (pt_cmpR op_eq (pv 2) pe_int (nomark _))))) (pss_one (ps_expr (pe_bm PySem.F.plainAttrs_list PySem.F.slot_list_append PySem.F.type_list_append mt_append (pv 1) (pa_cons pe_str pa_nil)))) (pss_one (ps_asg (pe_op p_addS (pe_ix ix_list (pv 1) (pe_un un_neg pe_int) (fun _ _ => rfl)) (pv 3)) (pg_sub (pv 1) (pe_un un_neg pe_int) set_list))))))))
      (pss_one (ps_ret (pv 1))))))
theorem ok_read_expression (F : FnP K "read_expression" s_read_expression [.int 5] f fd) (G : Gm w K mg dP es nn) (T : Parts K w dP) (g : mg "read_expression" = some (.ref f)) (c_read_number : CalX P w K mg base 3 "read_number" (sp_read_number K) []) (c_parted : CalX P w K mg base 3 "parted" (sp_parted K) []) (m_NoText : MkN K mg "NoText" (He.ga K "NoText")) : ∀ n : Nat, FnOk P w K mg base (L2.CX P w) (n + 3) f fd ["text", "most"] ((sp_read_expression K n))
  | 0 => ⟨fun vs H Q E h => absurd h (no_read_expression vs H Q E), fun A outer s H args us vs Q E _ _ _ _ h => absurd h (no_read_expression vs H Q E)⟩
  | n + 1 => by
    have ih := ok_read_expression F G T g c_read_number c_parted m_NoText n
    have c_read_expression : CalX P w K mg base (n + 3) "read_expression" ((sp_read_expression K n)) [] := FnP.caldX 2 1 F ih g (by simp) rfl fun _ _ _ _ _ _ _ us its h1 h2 => match us, its, h1, h2 with | [_, _], [_], _, _ => ⟨_, rfl, rfl⟩
    exact FnP.goX (k := n + 3) F sc_read_expression (fun vs H Q E => by first | (unfold sp_read_expression; walk_at "len") | walk_at "len") (fun E => t_read_expression E K dP n) (fun vs H Q E h => pure_read_expression (K := K) T n vs H Q E h) fun cdv A outer s H E hr =>
      (pss_cons (ps_if (pt_cmpR p_lt (pv 1) pe_int (nomark _)) (pss_one (ps_raiseN rfl m_NoText (takes_of rfl rfl rfl rfl) (by rfl))) pss_nil)
      (pss_cons (ps_if (pt_cmpR op_eq (pv 0) pe_str (nomark _)) (pss_one (ps_ret (pe_tup (pa_cons pe_str pa_nil)))) pss_nil)
      (pss_cons (ps_if (pt_cmpR op_ne (pe_slice sl_str (pv 0) (po_some (pe_un un_neg pe_int)) po_none) pe_str (nomark _)) (pss_one (ps_ret (pe_cx c_read_number hr (by omega) (by rfl) (takes_of rfl rfl rfl rfl) (pa_cons (pv 0) pa_nil)))) pss_nil)
      (pss_cons (ps_set (i := 2) sc_read_expression.nd rfl (by first | exact Or.inl rfl | exact Or.inr rfl) (pe_ix ix_tup (pe_partition (pv 0) pe_str) pe_int (fun _ _ => rfl)))
      (pss_cons (ps_if (PW.pt (pw_or (pt_cmpR (op_notIn_kd G.dP) (pv 2) (pe_gc (by rfl) G.PARTS) (by rfl)) (pw_or1 (pt_cmpR op_eq (pv 2) pe_str (nomark _))))) (pss_one (ps_raiseN rfl m_NoText (takes_of rfl rfl rfl rfl) (by rfl))) pss_nil)
      (pss_cons (ps_set (i := 3) sc_read_expression.nd rfl (by first | exact Or.inl rfl | exact Or.inr rfl) (pe_cx c_parted hr (by omega) (by rfl) (takes_of rfl rfl rfl rfl) (pa_cons (pe_slice sl_str (pv 0) (po_some (pe_op p_add (pe_callB p_lenS (by rfl) G.len (by decide +kernel) (pa_cons (pv 2) pa_nil)) pe_int)) (po_some (pe_un un_neg pe_int))) pa_nil)))
      (pss_one (ps_ret (pe_callTy p_tupQ (by rfl) G.tuple (by decide +kernel) (pa_cons (pe_op op_cat (pe_lst (pa_cons (pv 2) pa_nil)) (pe_lcX (own := [("one", 4)]) (g := gName 4) (tt := tYes) rfl rfl (takes_of rfl rfl rfl rfl) (by rfl) sc_read_expression.nd (pi_list (pv 3)) (blkOk_by (own := [("one", 4)]) (N := ["text", "most", "word", "inner", "one"]) (sc := defScope s_read_expression) (by decide +kernel)) (fun _ _ _ _ _ => (pg_name (i := 4) sc_read_expression.nd rfl (by first | exact Or.inl rfl | exact Or.inr rfl))) (fun _ _ _ _ _ => pts_nil) (fun _ _ _ _ _ => (pe_cxp c_read_expression hr (by omega) (by rfl) (fun σ => passB E σ) (pa_cons (pv 4) (pa_cons (pe_op p_sub (pv 1) pe_int) pa_nil)))))) pa_nil))))))))))
theorem ok_read_step (F : FnP K "read_step" s_read_step [] f fd) (G : Gm w K mg dP es nn) (c_parted : CalX P w K mg base 3 "parted" (sp_parted K) []) (c_read_expression_d : CalX P w K mg base 9 "read_expression" (sp_read_expression K 6) [.int 5]) (c_read_number : CalX P w K mg base 3 "read_number" (sp_read_number K) []) (m_NoText : MkN K mg "NoText" (He.ga K "NoText")) : FnOk P w K mg base (L2.CX P w) 10 f fd ["text"] (sp_read_step K) :=
  FnP.goX (k := 9) F sc_read_step (fun vs H Q E => by first | (unfold sp_read_step; walk_at "len") | walk_at "len") (fun E => t_read_step E K) (fun vs H Q E h => pure_read_step (K := K) vs H Q E h) fun cdv A outer s H E hr =>
    (pss_cons (ps_set (i := 1) sc_read_step.nd rfl (by first | exact Or.inl rfl | exact Or.inr rfl) (pe_cx c_parted hr (by omega) (by rfl) (takes_of rfl rfl rfl rfl) (pa_cons (pv 0) pa_nil)))
      (pss_cons (ps_if (PW.pt (pw_and (pt_cmpR op_eq (pe_ix ix_list (pv 1) pe_int (fun _ _ => rfl)) pe_str (nomark _)) (pw_and1 (pt_cmpR op_eq (pe_callB p_lenQ (by rfl) G.len (by decide +kernel) (pa_cons (pv 1) pa_nil)) pe_int (nomark _))))) (pss_one (ps_ret (pe_tup (pa_cons pe_str pa_nil)))) pss_nil)
      (pss_cons (ps_if (pt_cmpR op_ne (pe_callB p_lenQ (by rfl) G.len (by decide +kernel) (pa_cons (pv 1) pa_nil)) pe_int (nomark _)) (pss_one (ps_raiseN rfl m_NoText (takes_of rfl rfl rfl rfl) (by rfl))) pss_nil)
      (pss_cons (ps_if (pt_cmpR op_eq (pe_ix ix_list (pv 1) pe_int (fun _ _ => rfl)) pe_str (nomark _)) (pss_one (ps_ret (pe_tup (pa_cons pe_str (pa_cons (pe_cx c_read_expression_d hr (by omega) (by rfl) (takes_of rfl rfl rfl rfl) (pa_cons (pe_ix ix_list (pv 1) pe_int (fun _ _ => rfl)) pa_nil)) (pa_cons (pe_cx c_read_expression_d hr (by omega) (by rfl) (takes_of rfl rfl rfl rfl) (pa_cons (pe_ix ix_list (pv 1) pe_int (fun _ _ => rfl)) pa_nil)) pa_nil)))))) pss_nil)
      (pss_cons (ps_if (pt_cmpR op_eq (pe_ix ix_list (pv 1) pe_int (fun _ _ => rfl)) pe_str (nomark _)) (pss_one (ps_ret (pe_tup (pa_cons pe_str (pa_cons (pe_cx c_read_expression_d hr (by omega) (by rfl) (takes_of rfl rfl rfl rfl) (pa_cons (pe_ix ix_list (pv 1) pe_int (fun _ _ => rfl)) pa_nil)) (pa_cons (pe_cx c_read_number hr (by omega) (by rfl) (takes_of rfl rfl rfl rfl) (pa_cons (pe_ix ix_list (pv 1) pe_int (fun _ _ => rfl)) pa_nil)) pa_nil)))))) pss_nil)
      (pss_one (ps_ret (pe_tup (pa_cons (pe_ix ix_list (pv 1) pe_int (fun _ _ => rfl)) (pa_cons (pe_ix ix_list (pv 1) pe_int (fun _ _ => rfl)) (pa_cons (pe_cx c_read_expression_d hr (by omega) (by rfl) (takes_of rfl rfl rfl rfl) (pa_cons (pe_ix ix_list (pv 1) pe_int (fun _ _ => rfl)) pa_nil)) pa_nil)))))))))))
theorem ok_read_helper (F : FnP K "read_helper" s_read_helper [] f fd) (G : Gm w K mg dP es nn) (c_read_step : CalX P w K mg base 10 "read_step" (sp_read_step K) []) (m_NoText : MkN K mg "NoText" (He.ga K "NoText")) : FnOk P w K mg base (L2.CX P w) 11 f fd ["text"] (sp_read_helper K) :=
  FnP.goX (k := 10) F sc_read_helper (fun vs H Q E => by first | (unfold sp_read_helper; walk_at "len") | walk_at "len") (fun E => t_read_helper E K) (fun vs H Q E h => pure_read_helper (K := K) vs H Q E h) fun cdv A outer s H E hr =>
    (pss_cons (ps_asg (pe_partition (pv 0) pe_str) (pg_tup rfl (pgs_cons (pg_name (i := 1) sc_read_helper.nd rfl (by first | exact Or.inl rfl | exact Or.inr rfl)) (pgs_cons (pg_name (i := 2) sc_read_helper.nd rfl (by first | exact Or.inl rfl | exact Or.inr rfl)) (pgs_cons (pg_name (i := 3) sc_read_helper.nd rfl (by first | exact Or.inl rfl | exact Or.inr rfl)) pgs_nil)))))
      (pss_cons (ps_if (PW.pt (pw_or (pt_cmpR op_eq (pv 2) pe_str (nomark _)) (pw_or1 (PW.pt (pw_and (pt_cmpR op_ne (pv 3) pe_str (nomark _)) (pw_and1 (pt_cmpR op_ne (pe_ix ix_str (pv 3) pe_int (fun _ _ => rfl)) pe_str (nomark _)))))))) (pss_one (ps_raiseN rfl m_NoText (takes_of rfl rfl rfl rfl) (by rfl))) pss_nil)
      (pss_cons (ps_if (pt_cmpR op_eq (pv 3) pe_str (nomark _)) (pss_one (ps_ret (pe_tup (pa_cons (pv 1) (pa_cons (pe_lst pa_nil) pa_nil))))) pss_nil)
      (pss_one (ps_ret (pe_tup (pa_cons (pv 1) (pa_cons (pe_lcX (own := [("one", 4)]) (g := gName 4) (tt := tYes) rfl rfl (takes_of rfl rfl rfl rfl) (by rfl) sc_read_helper.nd (pi_list (pe_split (pe_slice sl_str (pv 3) (po_some pe_int) po_none) pe_str)) (blkOk_by (own := [("one", 4)]) (N := ["text", "name", "between", "further", "one"]) (sc := defScope s_read_helper) (by decide +kernel)) (fun _ _ _ _ _ => (pg_name (i := 4) sc_read_helper.nd rfl (by first | exact Or.inl rfl | exact Or.inr rfl))) (fun _ _ _ _ _ => pts_nil) (fun _ _ _ _ _ => (pe_cxp c_read_step hr (by omega) (by rfl) (fun σ => passB E σ) (pa_cons (pv 4) pa_nil)))) pa_nil))))))))
theorem ok_read_program (F : FnP K "read_program" s_read_program [] f fd) (G : Gm w K mg dP es nn) (c_read_helper : CalX P w K mg base 11 "read_helper" (sp_read_helper K) []) (c_is_program : Cal P w K mg base 11 "is_program" sp_is_program []) (m_NoText : MkN K mg "NoText" (He.ga K "NoText")) : FnOk P w K mg base (L2.CX P w) 12 f fd ["text"] (sp_read_program K) :=
  FnP.goX (k := 11) F sc_read_program (fun vs H Q E => by first | (unfold sp_read_program; walk_at "len") | walk_at "len") (fun E => t_read_program E K) (fun vs H Q E h => pure_read_program (K := K) vs H Q E h) fun cdv A outer s H E hr =>
    (pss_cons (ps_if (pt_not (pt_val (pe_callB call_isi (by rfl) G.isinstance (by decide +kernel) (pa_cons (pv 0) (pa_cons (pe_bltn (v := .ty "str") (by rfl) G.str (by decide +kernel) rfl) pa_nil))))) (pss_one (ps_raiseN rfl m_NoText (takes_of rfl rfl rfl rfl) (by rfl))) pss_nil)
      (pss_cons (ps_set (i := 1) sc_read_program.nd rfl (by first | exact Or.inl rfl | exact Or.inr rfl) (pe_lst pa_nil))
      (pss_cons (ps_if (pt_cmpR op_ne (pv 0) pe_str (nomark _)) (pss_one (ps_setLcX (i := 1) (own := [("one", 2)]) (g := gName 2) (tt := tYes) rfl rfl (takes_of rfl rfl rfl rfl) (by rfl) sc_read_program.nd rfl rfl (sw_true rfl rfl rfl (by decide +kernel)) (pi_list (pe_split (pv 0) pe_str)) (blkOk_by (own := [("one", 2)]) (N := ["text", "program", "one"]) (sc := defScope s_read_program) (by decide +kernel)) (fun _ _ _ _ _ => (pg_name (i := 2) sc_read_program.nd rfl (by first | exact Or.inl rfl | exact Or.inr rfl))) (fun _ _ _ _ _ => pts_nil) (fun _ _ _ _ _ => (pe_cxp c_read_helper hr (by omega) (by rfl) (fun σ => passB E σ) (pa_cons (pv 2) pa_nil))))) pss_nil)
      (pss_cons (ps_if (pt_not (pt_val (pe_c c_is_program hr (by omega) (by rfl) (pa_cons (pv 1) pa_nil)))) (pss_one (ps_raiseN rfl m_NoText (takes_of rfl rfl rfl rfl) (by rfl))) pss_nil)
      (pss_one (ps_ret (pv 1)))))))
theorem ok__law_cell_at (F : FnP K "_law_cell_at" s__law_cell_at [] f fd) (G : Gm w K mg dP es nn)  : FnOk P w K mg base CX0 1 f fd ["script", "k"] (sp__law_cell_at K) :=
  FnP.go (k := 0) F sc__law_cell_at (fun vs H Q E => by first | (unfold sp__law_cell_at; walk_at "len") | walk_at "len") (t__law_cell_at K) (fun vs H Q E h => pure__law_cell_at (K := K) vs H Q E h) fun cdv A outer s H E hr =>
    (pss_cons (ps_if (pt_cmpR p_lt (pv 1) (pe_callB p_lenQ (by rfl) G.len (by decide +kernel) (pa_cons (pv 0) pa_nil)) (nomark _)) (pss_one (ps_ret (pe_ix ix_list (pv 0) (pv 1) (fun _ _ => rfl)))) pss_nil)
      (pss_one (ps_ret pe_int)))
theorem ok__law_bag (F : FnP K "_law_bag" s__law_bag [] f fd) (G : Gm w K mg dP es nn)  : FnOk P w K mg base CX0 1 f fd ["cell", "place"] sp__law_bag :=
  FnP.go (k := 0) F sc__law_bag (fun vs H Q E => by first | (unfold sp__law_bag; walk_at "len") | walk_at "len") (t__law_bag) (fun vs H Q E h => pure__law_bag (K := K) vs H Q E h) fun cdv A outer s H E hr =>
    (pss_one (ps_ret (pe_lst (pa_cons (pe_callB (p_max rfl) (by rfl) G.max (by decide +kernel) (pa_cons pe_int (pa_cons (pe_op p_sub (pv 0) (pe_op p_pow pe_int pe_int)) pa_nil))) (pa_cons (pe_op p_add (pe_op p_mod (pv 0) pe_int) (pe_op p_mul pe_int (pv 1))) (pa_cons pe_int pa_nil))))))
theorem ok__law_draw (F : FnP K "_law_draw" s__law_draw [] f fd) (G : Gm w K mg dP es nn)  : FnOk P w K mg base CX0 1 f fd ["bag", "many"] sp__law_draw :=
  FnP.go (k := 0) F sc__law_draw (fun vs H Q E => by first | (unfold sp__law_draw; walk_at "len") | walk_at "len") (t__law_draw K) (fun vs H Q E h => pure__law_draw (K := K) vs H Q E h) fun cdv A outer s H E hr =>
    (pss_cons (ps_if (pt_cmpR p_gt (pe_ix ix_list (pv 0) pe_int (fun _ _ => rfl)) pe_int (nomark _)) (pss_cons (ps_set (i := 2) sc__law_draw.nd rfl (by first | exact Or.inl rfl | exact Or.inr rfl) (pe_op p_mod (pe_ix ix_list (pv 0) pe_int (fun _ _ => rfl)) (pv 1)))
      (pss_cons (ps_asg (pe_op p_fdiv (pe_ix ix_list (pv 0) pe_int (fun _ _ => rfl)) (pv 1)) (pg_sub (pv 0) pe_int set_list))
      (pss_one (ps_ret (pv 2))))) pss_nil)
      (pss_cons (ps_asg (pe_op p_add (pe_ix ix_list (pv 0) pe_int (fun _ _ => rfl)) pe_int) (pg_sub (pv 0) pe_int set_list))
      (pss_cons (ps_set (i := 3) sc__law_draw.nd rfl (by first | exact Or.inl rfl | exact Or.inr rfl) (pe_op p_mod (pe_op p_pow (pe_op p_add (pe_ix ix_list (pv 0) pe_int (fun _ _ => rfl)) (pe_op p_mul pe_int (pe_ix ix_list (pv 0) pe_int (fun _ _ => rfl)))) pe_int) pe_int))
      (pss_cons (ps_set (i := 3) sc__law_draw.nd rfl (by first | exact Or.inl rfl | exact Or.inr rfl) (pe_op p_mod (pe_op p_pow (pe_op p_add (pv 3) (pe_op p_mul pe_int (pe_ix ix_list (pv 0) pe_int (fun _ _ => rfl)))) pe_int) pe_int))
      (pss_one (ps_ret (pe_op p_mod (pe_op p_fdiv (pv 3) pe_int) (pv 1))))))))
theorem ok__law_sign (F : FnP K "_law_sign" s__law_sign [] f fd) (G : Gm w K mg dP es nn) (c__law_draw : Cal P w K mg base 1 "_law_draw" sp__law_draw []) : FnOk P w K mg base CX0 2 f fd ["bag"] sp__law_sign :=
  FnP.go (k := 1) F sc__law_sign (fun vs H Q E => by first | (unfold sp__law_sign; walk_at "len") | walk_at "len") (t__law_sign) (fun vs H Q E h => pure__law_sign (K := K) vs H Q E h) fun cdv A outer s H E hr =>
    (pss_cons (ps_set (i := 1) sc__law_sign.nd rfl (by first | exact Or.inl rfl | exact Or.inr rfl) pe_str)
      (pss_cons (ps_set (i := 1) sc__law_sign.nd rfl (by first | exact Or.inl rfl | exact Or.inr rfl) (pe_op p_addS (pv 1) pe_str))
      (pss_one (ps_ret (pe_ix ix_str (pv 1) (pe_c c__law_draw hr (by omega) (by rfl) (pa_cons (pv 0) (pa_cons pe_int pa_nil))) (fun _ _ => rfl))))))
theorem ok__law_is_name (F : FnP K "_law_is_name" s__law_is_name [] f fd) (G : Gm w K mg dP es nn)  : FnOk P w K mg base CX0 1 f fd ["thing"] sp__law_is_name :=
  FnP.go (k := 0) F sc__law_is_name (fun vs H Q E => by first | (unfold sp__law_is_name; walk_at "len") | walk_at "len") (t__law_is_name K) (fun vs H Q E h => pure__law_is_name (K := K) vs H Q E h) fun cdv A outer s H E hr =>
    (pss_cons (ps_if (PW.pt (pw_or (pt_not (pt_val (pe_callB call_isi (by rfl) G.isinstance (by decide +kernel) (pa_cons (pv 0) (pa_cons (pe_bltn (v := .ty "str") (by rfl) G.str (by decide +kernel) rfl) pa_nil))))) (pw_or (pt_cmpR op_eq (pv 0) pe_str (nomark _)) (pw_or1 (pt_cmpR p_gt (pe_callB p_lenS (by rfl) G.len (by decide +kernel) (pa_cons (pv 0) pa_nil)) pe_int (nomark _)))))) (pss_one (ps_ret pe_bl)) pss_nil)
      (pss_one (ps_ret (pe_cmpR (p_eqE hr.units) (pe_lc (own := [("sign", 1)]) (g := gName 1) (tt := tTest (tOp oNotInC (tVar 1) (tC (.str "abcdefghijklmnopqrstuvwxyz")))) (by rfl) sc__law_is_name.nd (pi_str (pv 0)) (blkOk_by (own := [("sign", 1)]) (N := ["thing", "sign"]) (sc := defScope s__law_is_name) (by decide +kernel)) (fun _ _ _ _ _ => (pg_name (i := 1) sc__law_is_name.nd rfl (by first | exact Or.inl rfl | exact Or.inr rfl))) (fun _ _ _ _ _ => (pts_one (pt_cmpR p_notInC (pv 1) pe_str (by rfl)))) (fun _ _ _ _ _ => (pv 1))) (pe_lst pa_nil) (nomark _)))))
theorem ok__law_is_whole (F : FnP K "_law_is_whole" s__law_is_whole [] f fd) (G : Gm w K mg dP es nn)  : FnOk P w K mg base CX0 1 f fd ["thing"] sp__law_is_whole :=
  FnP.go (k := 0) F sc__law_is_whole (fun vs H Q E => by first | (unfold sp__law_is_whole; walk_at "len") | walk_at "len") (t__law_is_whole K) (fun vs H Q E h => pure__law_is_whole (K := K) vs H Q E h) fun cdv A outer s H E hr =>
    (pss_one (ps_ret (pe_and (pe_callB call_isi (by rfl) G.isinstance (by decide +kernel) (pa_cons (pv 0) (pa_cons (pe_bltn (v := .ty "int") (by rfl) G.int (by decide +kernel) rfl) pa_nil))) (pe_one (pe_not (pe_callB call_isi (by rfl) G.isinstance (by decide +kernel) (pa_cons (pv 0) (pa_cons (pe_bltn (v := .ty "bool") (by rfl) G.bool (by decide +kernel) rfl) pa_nil))))))))
theorem ok__law_is_expression (F : FnP K "_law_is_expression" s__law_is_expression [] f fd) (G : Gm w K mg dP es nn) (g : mg "_law_is_expression" = some (.ref f)) (c__law_is_whole : Cal P w K mg base 1 "_law_is_whole" sp__law_is_whole []) : ∀ n : Nat, FnOk P w K mg base CX0 (n + 2) f fd ["thing", "most"] ((sp__law_is_expression n))
  | 0 => ⟨fun vs H Q E h => absurd h (no__law_is_expression vs H Q E), fun A outer s H args us vs Q E _ _ _ _ h => absurd h (no__law_is_expression vs H Q E)⟩
  | n + 1 => by
    have ih := ok__law_is_expression F G g c__law_is_whole n
    have c__law_is_expression : Cal P w K mg base (n + 2) "_law_is_expression" ((sp__law_is_expression n)) [] := F.cal ih g fun _ _ _ _ _ _ us hl => match us, hl with | [_, _], _ => rfl
    exact FnP.go (k := n + 2) F sc__law_is_expression (fun vs H Q E => by first | (unfold sp__law_is_expression; walk_at "len") | walk_at "len") (t__law_is_expression K n) (fun vs H Q E h => pure__law_is_expression (K := K) n vs H Q E h) fun cdv A outer s H E hr =>
      (pss_cons (ps_if (PW.pt (pw_or (pt_cmpR op_eq (pv 1) pe_int (nomark _)) (pw_or1 (pt_val (pe_c c__law_is_whole hr (by omega) (by rfl) (pa_cons (pv 0) pa_nil)))))) (pss_one (ps_ret (pe_cmpR p_gt (pv 1) pe_int (nomark _)))) pss_nil)
      (pss_cons (ps_if (PW.pt (pw_or (pt_not (pt_val (pe_callB call_isi (by rfl) G.isinstance (by decide +kernel) (pa_cons (pv 0) (pa_cons (pe_bltn (v := .ty "tuple") (by rfl) G.tuple (by decide +kernel) rfl) pa_nil))))) (pw_or (pt_cmpR (p_eqE hr.units) (pv 0) (pe_tup pa_nil) (nomark _)) (pw_or1 (pt_not (pt_val (pe_callB call_isi (by rfl) G.isinstance (by decide +kernel) (pa_cons (pe_ix ix_tup (pv 0) pe_int (fun _ _ => rfl)) (pa_cons (pe_bltn (v := .ty "str") (by rfl) G.str (by decide +kernel) rfl) pa_nil))))))))) (pss_one (ps_ret pe_bl)) pss_nil)
      (pss_cons (ps_set (i := 2) sc__law_is_expression.nd rfl (by first | exact Or.inl rfl | exact Or.inr rfl) (pe_dget2 (hu_of hr) (pe_disp (pps_cons pe_str pe_int (pps_cons pe_str pe_int (pps_cons pe_str pe_int (pps_cons pe_str pe_int (pps_cons pe_str pe_int pps_nil))))) (by rfl) (by rfl) (fun z => by cases z) (by decide)) (pe_ix ix_tup (pv 0) pe_int (fun _ _ => rfl)) (pe_un un_neg pe_int) ⟨rfl, rfl, rfl, rfl⟩))
      (pss_cons (ps_if (pt_cmpR op_ne (pe_callB p_lenQ (by rfl) G.len (by decide +kernel) (pa_cons (pv 0) pa_nil)) (pe_op p_add (pv 2) pe_int) (nomark _)) (pss_one (ps_ret pe_bl)) pss_nil)
      (pss_one (ps_ret (pe_cmpR (p_eqE hr.units) (pe_lc (own := [("one", 3)]) (g := gName 3) (tt := tNot (tB (tCall (sp__law_is_expression n) [] E0 (tCons (tVar 3) (tCons (tOp oSub (tVar 1) (tC (.int 1))) (tNil)))))) (by rfl) sc__law_is_expression.nd (pi_tup (pe_slice sl_tupA (pv 0) (po_some pe_int) po_none)) (blkOk_by (own := [("one", 3)]) (N := ["thing", "most", "parts", "one"]) (sc := defScope s__law_is_expression) (by decide +kernel)) (fun _ _ _ _ _ => (pg_name (i := 3) sc__law_is_expression.nd rfl (by first | exact Or.inl rfl | exact Or.inr rfl))) (fun _ _ _ _ _ => (pts_one (pt_not (pt_val (pe_c c__law_is_expression hr (by omega) (by rfl) (pa_cons (pv 3) (pa_cons (pe_op p_sub (pv 1) pe_int) pa_nil))))))) (fun _ _ _ _ _ => (pv 3))) (pe_lst pa_nil) (nomark _))))))))
theorem ok__law_is_step (F : FnP K "_law_is_step" s__law_is_step [] f fd) (G : Gm w K mg dP es nn) (c__law_is_expression : Cal P w K mg base 8 "_law_is_expression" (sp__law_is_expression 6) []) (c__law_is_whole : Cal P w K mg base 1 "_law_is_whole" sp__law_is_whole []) (c__law_is_name : Cal P w K mg base 1 "_law_is_name" sp__law_is_name []) : FnOk P w K mg base CX0 9 f fd ["thing", "names", "behind"] (sp__law_is_step K) :=
  FnP.go (k := 8) F sc__law_is_step (fun vs H Q E => by first | (unfold sp__law_is_step; walk_at "len") | walk_at "len") (t__law_is_step K) (fun vs H Q E h => pure__law_is_step (K := K) vs H Q E h) fun cdv A outer s H E hr =>
    (pss_cons (ps_if (pt_cmpR (p_eqT1 hr.units) (pv 0) (pe_tup (pa_cons pe_str pa_nil)) (nomark _)) (pss_one (ps_ret pe_bl)) pss_nil)
      (pss_cons (ps_if (PW.pt (pw_or (pt_not (pt_val (pe_callB call_isi (by rfl) G.isinstance (by decide +kernel) (pa_cons (pv 0) (pa_cons (pe_bltn (v := .ty "tuple") (by rfl) G.tuple (by decide +kernel) rfl) pa_nil))))) (pw_or (pt_cmpR op_ne (pe_callB p_lenQ (by rfl) G.len (by decide +kernel) (pa_cons (pv 0) pa_nil)) pe_int (nomark _)) (pw_or1 (pt_not (pt_val (pe_callB call_isi (by rfl) G.isinstance (by decide +kernel) (pa_cons (pe_ix ix_tup (pv 0) pe_int (fun _ _ => rfl)) (pa_cons (pe_bltn (v := .ty "str") (by rfl) G.str (by decide +kernel) rfl) pa_nil))))))))) (pss_one (ps_ret pe_bl)) pss_nil)
      (pss_cons (ps_asg (pv 0) (pg_tup rfl (pgs_cons (pg_name (i := 3) sc__law_is_step.nd rfl (by first | exact Or.inl rfl | exact Or.inr rfl)) (pgs_cons (pg_name (i := 4) sc__law_is_step.nd rfl (by first | exact Or.inl rfl | exact Or.inr rfl)) (pgs_cons (pg_name (i := 5) sc__law_is_step.nd rfl (by first | exact Or.inl rfl | exact Or.inr rfl)) pgs_nil)))))
      (pss_cons (ps_if (pt_cmpR op_eq (pv 3) pe_str (nomark _)) (pss_one (ps_ret (pe_and (pe_c c__law_is_expression hr (by omega) (by rfl) (pa_cons (pv 4) (pa_cons pe_int pa_nil))) (pe_and (pe_c c__law_is_whole hr (by omega) (by rfl) (pa_cons (pv 5) pa_nil)) (pe_and (pe_cmpR p_gt (pv 5) pe_int (nomark _)) (pe_one (pe_cmpR p_le (pv 5) (pv 2) (nomark _)))))))) pss_nil)
      (pss_cons (ps_if (pt_cmpR op_eq (pv 3) pe_str (nomark _)) (pss_one (ps_ret (pe_and (pe_c c__law_is_expression hr (by omega) (by rfl) (pa_cons (pv 4) (pa_cons pe_int pa_nil))) (pe_one (pe_c c__law_is_expression hr (by omega) (by rfl) (pa_cons (pv 5) (pa_cons pe_int pa_nil))))))) pss_nil)
      (pss_cons (ps_if (pt_cmpR op_eq (pv 3) pe_str (nomark _)) (pss_one (ps_ret (pe_and (pe_c c__law_is_name hr (by omega) (by rfl) (pa_cons (pv 4) pa_nil)) (pe_one (pe_c c__law_is_expression hr (by omega) (by rfl) (pa_cons (pv 5) (pa_cons pe_int pa_nil))))))) pss_nil)
      (pss_one (ps_ret (pe_and (pe_cmpR op_in_seq (pv 3) (pe_lst (pa_cons pe_str (pa_cons pe_str pa_nil))) (by rfl)) (pe_and (pe_c c__law_is_name hr (by omega) (by rfl) (pa_cons (pv 4) pa_nil)) (pe_and (pe_cmpR op_in_seq (pv 4) (pv 1) (by rfl)) (pe_one (pe_c c__law_is_expression hr (by omega) (by rfl) (pa_cons (pv 5) (pa_cons pe_int pa_nil)))))))))))))))
theorem ok__law_wrong (F : FnP K "_law_wrong" s__law_wrong [] f fd) (G : Gm w K mg dP es nn) (c__law_is_name : Cal P w K mg base 1 "_law_is_name" sp__law_is_name []) (c__law_is_step : Cal P w K mg base 9 "_law_is_step" (sp__law_is_step K) []) : FnOk P w K mg base CX0 10 f fd ["program"] sp__law_wrong :=
  FnP.go (k := 9) F sc__law_wrong (fun vs H Q E => by first | (unfold sp__law_wrong; walk_at "len") | walk_at "len") (t__law_wrong K) (fun vs H Q E h => pure__law_wrong (K := K) vs H Q E h) fun cdv A outer s H E hr =>
    (pss_cons (ps_if (pt_not (pt_val (pe_callB call_isi (by rfl) G.isinstance (by decide +kernel) (pa_cons (pv 0) (pa_cons (pe_bltn (v := .ty "list") (by rfl) G.list (by decide +kernel) rfl) pa_nil))))) (pss_one (ps_ret (pe_tup (pa_cons pe_non (pa_cons pe_non pa_nil))))) pss_nil)
      (pss_cons (ps_set (i := 1) sc__law_wrong.nd rfl (by first | exact Or.inl rfl | exact Or.inr rfl) pe_str)
      (pss_cons (ps_for PassesOwn.never rfl (pi_list (pv 0)) (pg_name (i := 2) sc__law_wrong.nd rfl (by first | exact Or.inl rfl | exact Or.inr rfl)) (pss_cons (ps_if (PW.pt (pw_or (pt_not (pt_val (pe_callB call_isi (by rfl) G.isinstance (by decide +kernel) (pa_cons (pv 2) (pa_cons (pe_bltn (v := .ty "tuple") (by rfl) G.tuple (by decide +kernel) rfl) pa_nil))))) (pw_or (pt_cmpR op_ne (pe_callB p_lenQ (by rfl) G.len (by decide +kernel) (pa_cons (pv 2) pa_nil)) pe_int (nomark _)) (pw_or1 (pt_not (pt_val (pe_c c__law_is_name hr (by omega) (by rfl) (pa_cons (pe_ix ix_tup (pv 2) pe_int (fun _ _ => rfl)) pa_nil)))))))) (pss_one (ps_ret (pe_tup (pa_cons pe_non (pa_cons pe_non pa_nil))))) pss_nil)
      (pss_cons (ps_if (PW.pt (pw_or (pt_not (pt_val (pe_callB call_isi (by rfl) G.isinstance (by decide +kernel) (pa_cons (pe_ix ix_tup (pv 2) pe_int (fun _ _ => rfl)) (pa_cons (pe_bltn (v := .ty "list") (by rfl) G.list (by decide +kernel) rfl) pa_nil))))) (pw_or1 (pt_cmpR p_geS (pv 1) (pe_ix ix_tup (pv 2) pe_int (fun _ _ => rfl)) (nomark _))))) (pss_one (ps_ret (pe_tup (pa_cons pe_non (pa_cons pe_non pa_nil))))) pss_nil)
      (pss_one (ps_set (i := 1) sc__law_wrong.nd rfl (by first | exact Or.inl rfl | exact Or.inr rfl) (pe_ix ix_tup (pv 2) pe_int (fun _ _ => rfl)))))))
      (pss_cons (ps_setLc (i := 3) (own := [("name", 4), ("steps", 5)]) (g := gTup K 2 (gCons (gName 4) (gCons (gName 5) (gNil)))) (tt := tYes) (by rfl) sc__law_wrong.nd rfl rfl (sw_true rfl rfl rfl (by decide +kernel)) (pi_list (pv 0)) (blkOk_by (own := [("name", 4), ("steps", 5)]) (N := ["program", "ahead", "row", "names", "name", "steps", "k"]) (sc := defScope s__law_wrong) (by decide +kernel)) (fun _ _ _ _ _ => (pg_tup rfl (pgs_cons (pg_name (i := 4) sc__law_wrong.nd rfl (by first | exact Or.inl rfl | exact Or.inr rfl)) (pgs_cons (pg_name (i := 5) sc__law_wrong.nd rfl (by first | exact Or.inl rfl | exact Or.inr rfl)) pgs_nil)))) (fun _ _ _ _ _ => pts_nil) (fun _ _ _ _ _ => (pv 4)))
      (pss_cons (ps_for PassesOwn.never rfl (pi_list (pv 0)) (pg_tup rfl (pgs_cons (pg_name (i := 4) sc__law_wrong.nd rfl (by first | exact Or.inl rfl | exact Or.inr rfl)) (pgs_cons (pg_name (i := 5) sc__law_wrong.nd rfl (by first | exact Or.inl rfl | exact Or.inr rfl)) pgs_nil))) (pss_one (ps_for PassesOwn.never rfl (pi_range1 (by rfl) G.range (pa_cons (pe_callB p_lenQ (by rfl) G.len (by decide +kernel) (pa_cons (pv 5) pa_nil)) pa_nil)) (pg_name (i := 6) sc__law_wrong.nd rfl (by first | exact Or.inl rfl | exact Or.inr rfl)) (pss_one (ps_if (pt_not (pt_val (pe_c c__law_is_step hr (by omega) (by rfl) (pa_cons (pe_ix ix_list (pv 5) (pv 6) (fun _ _ => rfl)) (pa_cons (pv 3) (pa_cons (pe_op p_sub (pe_op p_sub (pe_callB p_lenQ (by rfl) G.len (by decide +kernel) (pa_cons (pv 5) pa_nil)) pe_int) (pv 6)) pa_nil)))))) (pss_one (ps_ret (pe_tup (pa_cons (pv 4) (pa_cons (pv 6) pa_nil))))) pss_nil)))))
      (pss_one (ps_ret pe_non)))))))
theorem ok__law_number_read (F : FnP K "_law_number_read" s__law_number_read [] f fd) (G : Gm w K mg dP es nn)  : FnOk P w K mg base CX0 1 f fd ["text", "at"] sp__law_number_read :=
  FnP.go (k := 0) F sc__law_number_read (fun vs H Q E => by first | (unfold sp__law_number_read; walk_at "len") | walk_at "len") (t__law_number_read) (fun vs H Q E h => pure__law_number_read (K := K) vs H Q E h) fun cdv A outer s H E hr =>
    (pss_cons (ps_set (i := 2) sc__law_number_read.nd rfl (by first | exact Or.inl rfl | exact Or.inr rfl) (pe_op p_add (pv 1) (pe_callTy p_int (by rfl) G.int (by decide +kernel) (pa_cons (pe_cmpR op_eq (pe_slice sl_str (pv 0) (po_some (pv 1)) (po_some (pe_op p_add (pv 1) pe_int))) pe_str (nomark _)) pa_nil))))
      (pss_cons (ps_set (i := 3) sc__law_number_read.nd rfl (by first | exact Or.inl rfl | exact Or.inr rfl) (pv 2))
      (pss_cons (ps_while PassesOwn.never (PW.pt (pw_and (pt_cmpR p_lt (pv 2) (pe_callB p_lenS (by rfl) G.len (by decide +kernel) (pa_cons (pv 0) pa_nil)) (nomark _)) (pw_and1 (pt_cmpR p_inC (pe_ix ix_str (pv 0) (pv 2) (fun _ _ => rfl)) pe_str (by rfl))))) (pss_one (ps_set (i := 2) sc__law_number_read.nd rfl (by first | exact Or.inl rfl | exact Or.inr rfl) (pe_op p_add (pv 2) pe_int))))
      (pss_cons (ps_if (PW.pt (pw_or (pt_cmpR op_eq (pv 2) (pv 3) (nomark _)) (pw_or1 (PW.pt (pw_and (pt_cmpR op_eq (pe_ix ix_str (pv 0) (pv 3) (fun _ _ => rfl)) pe_str (nomark _)) (pw_and1 (PW.pt (pw_or (pt_cmpR p_gt (pv 2) (pe_op p_add (pv 3) pe_int) (nomark _)) (pw_or1 (pt_cmpR p_gt (pv 3) (pv 1) (nomark _))))))))))) (pss_one (ps_ret pe_non)) pss_nil)
      (pss_one (ps_ret (pe_tup (pa_cons (pe_callTy (p_intS G.DG) (by rfl) G.int (by decide +kernel) (pa_cons (pe_slice sl_str (pv 0) (po_some (pv 1)) (po_some (pv 2))) pa_nil)) (pa_cons (pv 2) pa_nil)))))))))
theorem ok__law_expression_read (F : FnP K "_law_expression_read" s__law_expression_read [] f fd) (G : Gm w K mg dP es nn) (g : mg "_law_expression_read" = some (.ref f)) (c__law_number_read : Cal P w K mg base 1 "_law_number_read" sp__law_number_read []) : ∀ n : Nat, FnOk P w K mg base CX0 (n + 2) f fd ["text", "at", "most"] ((sp__law_expression_read n))
  | 0 => ⟨fun vs H Q E h => absurd h (no__law_expression_read vs H Q E), fun A outer s H args us vs Q E _ _ _ _ h => absurd h (no__law_expression_read vs H Q E)⟩
  | n + 1 => by
    have ih := ok__law_expression_read F G g c__law_number_read n
    have c__law_expression_read : Cal P w K mg base (n + 2) "_law_expression_read" ((sp__law_expression_read n)) [] := F.cal ih g fun _ _ _ _ _ _ us hl => match us, hl with | [_, _, _], _ => rfl
    exact FnP.go (k := n + 2) F sc__law_expression_read (fun vs H Q E => by first | (unfold sp__law_expression_read; walk_at "len") | walk_at "len") (t__law_expression_read K n) (fun vs H Q E h => pure__law_expression_read (K := K) n vs H Q E h) fun cdv A outer s H E hr =>
      (pss_cons (ps_if (pt_cmpR op_eq (pv 2) pe_int (nomark _)) (pss_one (ps_ret pe_non)) pss_nil)
      (pss_cons (ps_if (pt_cmpR op_eq (pe_slice sl_str (pv 0) (po_some (pv 1)) (po_some (pe_op p_add (pv 1) pe_int))) pe_str (nomark _)) (pss_one (ps_ret (pe_tup (pa_cons (pe_tup (pa_cons pe_str pa_nil)) (pa_cons (pe_op p_add (pv 1) pe_int) pa_nil))))) pss_nil)
      (pss_cons (ps_for PassesOwn.never rfl (pi_list (pe_lst (pa_cons (pe_tup (pa_cons pe_str (pa_cons pe_int pa_nil))) (pa_cons (pe_tup (pa_cons pe_str (pa_cons pe_int pa_nil))) (pa_cons (pe_tup (pa_cons pe_str (pa_cons pe_int pa_nil))) (pa_cons (pe_tup (pa_cons pe_str (pa_cons pe_int pa_nil))) pa_nil)))))) (pg_tup rfl (pgs_cons (pg_name (i := 3) sc__law_expression_read.nd rfl (by first | exact Or.inl rfl | exact Or.inr rfl)) (pgs_cons (pg_name (i := 4) sc__law_expression_read.nd rfl (by first | exact Or.inl rfl | exact Or.inr rfl)) pgs_nil))) (pss_one (ps_if (pt_cmpR op_eq (pe_slice sl_str (pv 0) (po_some (pv 1)) (po_some (pe_op p_add (pe_op p_add (pv 1) (pe_callB p_lenS (by rfl) G.len (by decide +kernel) (pa_cons (pv 3) pa_nil))) pe_int))) (pe_op p_addS (pv 3) pe_str) (nomark _)) (pss_cons (ps_set (i := 5) sc__law_expression_read.nd rfl (by first | exact Or.inl rfl | exact Or.inr rfl) (pe_lst (pa_cons (pv 3) pa_nil)))
      (pss_cons (ps_set (i := 6) sc__law_expression_read.nd rfl (by first | exact Or.inl rfl | exact Or.inr rfl) (pe_op p_add (pe_op p_add (pv 1) (pe_callB p_lenS (by rfl) G.len (by decide +kernel) (pa_cons (pv 3) pa_nil))) pe_int))
      (pss_cons (ps_for PassesOwn.never rfl (pi_range1 (by rfl) G.range (pa_cons (pv 4) pa_nil)) (pg_name (i := 7) sc__law_expression_read.nd rfl (by first | exact Or.inl rfl | exact Or.inr rfl)) (pss_cons (ps_if (PW.pt (pw_and (pt_cmpR op_eq (pv 7) pe_int (nomark _)) (pw_and1 (pt_cmpR op_ne (pe_slice sl_str (pv 0) (po_some (pv 6)) (po_some (pe_op p_add (pv 6) pe_int))) pe_str (nomark _))))) (pss_one (ps_ret pe_non)) pss_nil)
      (pss_cons (ps_set (i := 8) sc__law_expression_read.nd rfl (by first | exact Or.inl rfl | exact Or.inr rfl) (pe_c c__law_expression_read hr (by omega) (by rfl) (pa_cons (pv 0) (pa_cons (pe_op p_add (pv 6) (pe_callTy p_int (by rfl) G.int (by decide +kernel) (pa_cons (pe_cmpR op_eq (pv 7) pe_int (nomark _)) pa_nil))) (pa_cons (pe_op p_sub (pv 2) pe_int) pa_nil)))))
      (pss_cons (ps_if (pt_cmpR p_isN (pv 8) pe_non (nomark _)) (pss_one (ps_ret pe_non)) pss_nil)
      (pss_cons (ps_expr (pe_bm PySem.F.plainAttrs_list PySem.F.slot_list_append PySem.F.type_list_append mt_append (pv 5) (pa_cons (pe_ix ix_tup (pv 8) pe_int (fun _ _ => rfl)) pa_nil)))
      (pss_one (ps_set (i := 6) sc__law_expression_read.nd rfl (by first | exact Or.inl rfl | exact Or.inr rfl) (pe_ix ix_tup (pv 8) pe_int (fun _ _ => rfl)))))))))
      (pss_one (ps_ret (pe_ifExp (pt_cmpR op_eq (pe_slice sl_str (pv 0) (po_some (pv 6)) (po_some (pe_op p_add (pv 6) pe_int))) pe_str (nomark _)) (pe_tup (pa_cons (pe_callTy p_tupQ (by rfl) G.tuple (by decide +kernel) (pa_cons (pv 5) pa_nil)) (pa_cons (pe_op p_add (pv 6) pe_int) pa_nil))) pe_non)))))) pss_nil)))
      (pss_one (ps_ret (pe_c c__law_number_read hr (by omega) (by rfl) (pa_cons (pv 0) (pa_cons (pv 1) pa_nil))))))))
theorem ok__law_letters (F : FnP K "_law_letters" s__law_letters [] f fd) (G : Gm w K mg dP es nn)  : FnOk P w K mg base CX0 1 f fd ["text", "at"] sp__law_letters :=
  FnP.go (k := 0) F sc__law_letters (fun vs H Q E => by first | (unfold sp__law_letters; walk_at "len") | walk_at "len") (t__law_letters) (fun vs H Q E h => pure__law_letters (K := K) vs H Q E h) fun cdv A outer s H E hr =>
    (pss_cons (ps_while PassesOwn.never (PW.pt (pw_and (pt_cmpR p_lt (pv 1) (pe_callB p_lenS (by rfl) G.len (by decide +kernel) (pa_cons (pv 0) pa_nil)) (nomark _)) (pw_and1 (pt_cmpR p_inC (pe_ix ix_str (pv 0) (pv 1) (fun _ _ => rfl)) pe_str (by rfl))))) (pss_one (ps_set (i := 1) sc__law_letters.nd rfl (by first | exact Or.inl rfl | exact Or.inr rfl) (pe_op p_add (pv 1) pe_int))))
      (pss_one (ps_ret (pv 1))))
theorem ok__law_step_read (F : FnP K "_law_step_read" s__law_step_read [] f fd) (G : Gm w K mg dP es nn) (c__law_letters : Cal P w K mg base 1 "_law_letters" sp__law_letters []) (c__law_expression_read : Cal P w K mg base 8 "_law_expression_read" (sp__law_expression_read 6) []) (c__law_number_read : Cal P w K mg base 1 "_law_number_read" sp__law_number_read []) : FnOk P w K mg base CX0 9 f fd ["text", "at"] sp__law_step_read :=
  FnP.go (k := 8) F sc__law_step_read (fun vs H Q E => by first | (unfold sp__law_step_read; walk_at "len") | walk_at "len") (t__law_step_read K) (fun vs H Q E h => pure__law_step_read (K := K) vs H Q E h) fun cdv A outer s H E hr =>
    (pss_cons (ps_set (i := 2) sc__law_step_read.nd rfl (by first | exact Or.inl rfl | exact Or.inr rfl) (pe_c c__law_letters hr (by omega) (by rfl) (pa_cons (pv 0) (pa_cons (pv 1) pa_nil))))
      (pss_cons (ps_set (i := 3) sc__law_step_read.nd rfl (by first | exact Or.inl rfl | exact Or.inr rfl) (pe_slice sl_str (pv 0) (po_some (pv 1)) (po_some (pv 2))))
      (pss_cons (ps_if (pt_cmpR op_eq (pv 3) pe_str (nomark _)) (pss_one (ps_ret (pe_tup (pa_cons (pe_tup (pa_cons pe_str pa_nil)) (pa_cons (pv 2) pa_nil))))) pss_nil)
      (pss_cons (ps_if (PW.pt (pw_or (pt_cmpR op_notIn_seq (pv 3) (pe_lst (pa_cons pe_str (pa_cons pe_str (pa_cons pe_str (pa_cons pe_str (pa_cons pe_str pa_nil)))))) (by rfl)) (pw_or1 (pt_cmpR op_ne (pe_slice sl_str (pv 0) (po_some (pv 2)) (po_some (pe_op p_add (pv 2) pe_int))) pe_str (nomark _))))) (pss_one (ps_ret pe_non)) pss_nil)
      (pss_cons (ps_set (i := 4) sc__law_step_read.nd rfl (by first | exact Or.inl rfl | exact Or.inr rfl) (pe_c c__law_letters hr (by omega) (by rfl) (pa_cons (pv 0) (pa_cons (pe_op p_add (pv 2) pe_int) pa_nil))))
      (pss_cons (ps_set (i := 5) sc__law_step_read.nd rfl (by first | exact Or.inl rfl | exact Or.inr rfl) (pe_tup (pa_cons (pe_slice sl_str (pv 0) (po_some (pe_op p_add (pv 2) pe_int)) (po_some (pv 4))) (pa_cons (pv 4) pa_nil))))
      (pss_cons (ps_if (PW.pt (pw_or (pt_cmpR op_eq (pv 3) pe_str (nomark _)) (pw_or1 (pt_cmpR op_eq (pv 3) pe_str (nomark _))))) (pss_one (ps_set (i := 5) sc__law_step_read.nd rfl (by first | exact Or.inl rfl | exact Or.inr rfl) (pe_c c__law_expression_read hr (by omega) (by rfl) (pa_cons (pv 0) (pa_cons (pe_op p_add (pv 2) pe_int) (pa_cons pe_int pa_nil)))))) pss_nil)
      (pss_cons (ps_if (PW.pt (pw_or (pt_cmpR p_isN (pv 5) pe_non (nomark _)) (pw_or1 (pt_cmpR op_ne (pe_slice sl_str (pv 0) (po_some (pe_ix ix_tup (pv 5) pe_int (fun _ _ => rfl))) (po_some (pe_op p_add (pe_ix ix_tup (pv 5) pe_int (fun _ _ => rfl)) pe_int))) pe_str (nomark _))))) (pss_one (ps_ret pe_non)) pss_nil)
      (pss_cons (ps_set (i := 6) sc__law_step_read.nd rfl (by first | exact Or.inl rfl | exact Or.inr rfl) (pe_c c__law_expression_read hr (by omega) (by rfl) (pa_cons (pv 0) (pa_cons (pe_op p_add (pe_ix ix_tup (pv 5) pe_int (fun _ _ => rfl)) pe_int) (pa_cons pe_int pa_nil)))))
      (pss_cons (ps_if (pt_cmpR op_eq (pv 3) pe_str (nomark _)) (pss_one (ps_set (i := 6) sc__law_step_read.nd rfl (by first | exact Or.inl rfl | exact Or.inr rfl) (pe_c c__law_number_read hr (by omega) (by rfl) (pa_cons (pv 0) (pa_cons (pe_op p_add (pe_ix ix_tup (pv 5) pe_int (fun _ _ => rfl)) pe_int) pa_nil))))) pss_nil)
      (pss_one (ps_ret (pe_ifExp (pt_cmpR p_isN (pv 6) pe_non (nomark _)) pe_non (pe_tup (pa_cons (pe_tup (pa_cons (pv 3) (pa_cons (pe_ix ix_tup (pv 5) pe_int (fun _ _ => rfl)) (pa_cons (pe_ix ix_tup (pv 6) pe_int (fun _ _ => rfl)) pa_nil)))) (pa_cons (pe_ix ix_tup (pv 6) pe_int (fun _ _ => rfl)) pa_nil))))))))))))))))
theorem ok__law_helper_read (F : FnP K "_law_helper_read" s__law_helper_read [] f fd) (G : Gm w K mg dP es nn) (c__law_letters : Cal P w K mg base 1 "_law_letters" sp__law_letters []) (c__law_step_read : Cal P w K mg base 9 "_law_step_read" sp__law_step_read []) : FnOk P w K mg base CX0 10 f fd ["text", "at"] sp__law_helper_read :=
  FnP.go (k := 9) F sc__law_helper_read (fun vs H Q E => by first | (unfold sp__law_helper_read; walk_at "len") | walk_at "len") (t__law_helper_read K) (fun vs H Q E h => pure__law_helper_read (K := K) vs H Q E h) fun cdv A outer s H E hr =>
    (pss_cons (ps_set (i := 2) sc__law_helper_read.nd rfl (by first | exact Or.inl rfl | exact Or.inr rfl) (pe_c c__law_letters hr (by omega) (by rfl) (pa_cons (pv 0) (pa_cons (pv 1) pa_nil))))
      (pss_cons (ps_set (i := 3) sc__law_helper_read.nd rfl (by first | exact Or.inl rfl | exact Or.inr rfl) (pe_slice sl_str (pv 0) (po_some (pv 1)) (po_some (pv 2))))
      (pss_cons (ps_if (pt_cmpR op_ne (pe_slice sl_str (pv 0) (po_some (pv 2)) (po_some (pe_op p_add (pv 2) pe_int))) pe_str (nomark _)) (pss_one (ps_ret pe_non)) pss_nil)
      (pss_cons (ps_set (i := 2) sc__law_helper_read.nd rfl (by first | exact Or.inl rfl | exact Or.inr rfl) (pe_op p_add (pv 2) pe_int))
      (pss_cons (ps_set (i := 4) sc__law_helper_read.nd rfl (by first | exact Or.inl rfl | exact Or.inr rfl) (pe_lst pa_nil))
      (pss_cons (ps_while PassesOwn.never (pt_cmpR op_eq (pe_slice sl_str (pv 0) (po_some (pv 2)) (po_some (pe_op p_add (pv 2) pe_int))) (pe_ix ix_list (pe_lst (pa_cons pe_str (pa_cons pe_str pa_nil))) (pe_callTy p_int (by rfl) G.int (by decide +kernel) (pa_cons (pe_cmpR (p_neE hr.units) (pv 4) (pe_lst pa_nil) (nomark _)) pa_nil)) (fun _ _ => rfl)) (nomark _)) (pss_cons (ps_set (i := 5) sc__law_helper_read.nd rfl (by first | exact Or.inl rfl | exact Or.inr rfl) (pe_c c__law_step_read hr (by omega) (by rfl) (pa_cons (pv 0) (pa_cons (pe_op p_add (pe_op p_add (pv 2) pe_int) (pe_callTy p_int (by rfl) G.int (by decide +kernel) (pa_cons (pe_cmpR (p_neE hr.units) (pv 4) (pe_lst pa_nil) (nomark _)) pa_nil))) pa_nil))))
      (pss_cons (ps_if (PW.pt (pw_or (pt_cmpR p_isN (pv 5) pe_non (nomark _)) (pw_or1 (PW.pt (pw_and (pt_cmpR (p_neE hr.units) (pv 4) (pe_lst pa_nil) (nomark _)) (pw_and1 (pt_cmpR op_ne (pe_slice sl_str (pv 0) (po_some (pv 2)) (po_some (pe_op p_add (pv 2) pe_int))) pe_str (nomark _)))))))) (pss_one (ps_ret pe_non)) pss_nil)
      (pss_cons (ps_expr (pe_bm PySem.F.plainAttrs_list PySem.F.slot_list_append PySem.F.type_list_append mt_append (pv 4) (pa_cons (pe_ix ix_tup (pv 5) pe_int (fun _ _ => rfl)) pa_nil)))
      (pss_one (ps_set (i := 2) sc__law_helper_read.nd rfl (by first | exact Or.inl rfl | exact Or.inr rfl) (pe_ix ix_tup (pv 5) pe_int (fun _ _ => rfl))))))))
      (pss_one (ps_ret (pe_tup (pa_cons (pe_tup (pa_cons (pv 3) (pa_cons (pv 4) pa_nil))) (pa_cons (pv 2) pa_nil)))))))))))
theorem ok__law_read (F : FnP K "_law_read" s__law_read [] f fd) (G : Gm w K mg dP es nn) (c__law_helper_read : Cal P w K mg base 10 "_law_helper_read" sp__law_helper_read []) (c__law_wrong : Cal P w K mg base 10 "_law_wrong" sp__law_wrong []) : FnOk P w K mg base CX0 11 f fd ["text"] sp__law_read :=
  FnP.go (k := 10) F sc__law_read (fun vs H Q E => by first | (unfold sp__law_read; walk_at "len") | walk_at "len") (t__law_read K) (fun vs H Q E h => pure__law_read (K := K) vs H Q E h) fun cdv A outer s H E hr =>
    (pss_cons (ps_if (pt_not (pt_val (pe_callB call_isi (by rfl) G.isinstance (by decide +kernel) (pa_cons (pv 0) (pa_cons (pe_bltn (v := .ty "str") (by rfl) G.str (by decide +kernel) rfl) pa_nil))))) (pss_one (ps_ret pe_non)) pss_nil)
      (pss_cons (ps_set (i := 1) sc__law_read.nd rfl (by first | exact Or.inl rfl | exact Or.inr rfl) (pe_lst pa_nil))
      (pss_cons (ps_set (i := 2) sc__law_read.nd rfl (by first | exact Or.inl rfl | exact Or.inr rfl) pe_int)
      (pss_cons (ps_while PassesOwn.never (PW.pt (pw_and (pt_cmpR op_ne (pv 0) pe_str (nomark _)) (pw_and1 (pt_cmpR p_ge (pv 2) pe_int (nomark _))))) (pss_cons (ps_set (i := 3) sc__law_read.nd rfl (by first | exact Or.inl rfl | exact Or.inr rfl) (pe_c c__law_helper_read hr (by omega) (by rfl) (pa_cons (pv 0) (pa_cons (pv 2) pa_nil))))
      (pss_cons (ps_if (PW.pt (pw_or (pt_cmpR p_isN (pv 3) pe_non (nomark _)) (pw_or1 (PW.pt (pw_and (pt_cmpR p_lt (pe_ix ix_tup (pv 3) pe_int (fun _ _ => rfl)) (pe_callB p_lenS (by rfl) G.len (by decide +kernel) (pa_cons (pv 0) pa_nil)) (nomark _)) (pw_and1 (pt_cmpR op_ne (pe_slice sl_str (pv 0) (po_some (pe_ix ix_tup (pv 3) pe_int (fun _ _ => rfl))) (po_some (pe_op p_add (pe_ix ix_tup (pv 3) pe_int (fun _ _ => rfl)) pe_int))) pe_str (nomark _)))))))) (pss_one (ps_ret pe_non)) pss_nil)
      (pss_cons (ps_expr (pe_bm PySem.F.plainAttrs_list PySem.F.slot_list_append PySem.F.type_list_append mt_append (pv 1) (pa_cons (pe_ix ix_tup (pv 3) pe_int (fun _ _ => rfl)) pa_nil)))
      (pss_one (ps_set (i := 2) sc__law_read.nd rfl (by first | exact Or.inl rfl | exact Or.inr rfl) (pe_ifExp (pt_cmpR p_lt (pe_ix ix_tup (pv 3) pe_int (fun _ _ => rfl)) (pe_callB p_lenS (by rfl) G.len (by decide +kernel) (pa_cons (pv 0) pa_nil)) (nomark _)) (pe_op p_add (pe_ix ix_tup (pv 3) pe_int (fun _ _ => rfl)) pe_int) (pe_un un_neg pe_int))))))))
      (pss_one (ps_ret (pe_ifExp (pt_cmpR p_isN (pe_c c__law_wrong hr (by omega) (by rfl) (pa_cons (pv 1) pa_nil)) pe_non (nomark _)) (pv 1) pe_non)))))))
theorem ok__law_plain_refusal (F : FnP K "_law_plain_refusal" s__law_plain_refusal [] f fd) (G : Gm w K mg dP es nn) (NT : NTf K)  : FnOk P w K mg base CX0 1 f fd ["caught"] (sp__law_plain_refusal K) :=
  FnP.go (k := 0) F sc__law_plain_refusal (fun vs H Q E => by first | (unfold sp__law_plain_refusal; walk_at "len") | walk_at "len") (t__law_plain_refusal K) (fun vs H Q E h => pure__law_plain_refusal (K := K) NT vs H Q E h) fun cdv A outer s H E hr =>
    (pss_cons (ps_if (pt_val (pe_callB call_isNT (by rfl) G.isinstance (by decide +kernel) (pa_cons (pv 0) (pa_cons (pe_tup (pa_cons (pe_glob (by rfl) G.NoHand rfl) (pa_cons (pe_glob (by rfl) G.NoHelper rfl) (pa_cons (pe_glob (by rfl) G.NoMark rfl) (pa_cons (pe_glob (by rfl) G.NoProgram rfl) (pa_cons (pe_glob (by rfl) G.NotOver rfl) (pa_cons (pe_glob (by rfl) G.TooLong rfl) pa_nil))))))) pa_nil)))) (pss_one (ps_ret pe_bl)) pss_nil)
      (pss_one (ps_ret (pe_and (pe_callB call_isN (by rfl) G.isinstance (by decide +kernel) (pa_cons (pv 0) (pa_cons (pe_glob (by rfl) G.NoText rfl) pa_nil))) (pe_one (pe_callB call_isN (by rfl) G.isinstance (by decide +kernel) (pa_cons (pv 0) (pa_cons (pe_bltn (v := .ty "ValueError") (by rfl) G.ValueError (by decide +kernel) rfl) pa_nil))))))))
theorem ok__law_asked (F : FnP K "_law_asked" s__law_asked [] f fd) (G : Gm w K mg dP es nn) (NT : NTf K) (c_read_program : CalX P w K mg base 12 "read_program" (sp_read_program K) []) (c__law_read : Cal P w K mg base 11 "_law_read" sp__law_read []) (c__law_plain_refusal : Cal P w K mg base 1 "_law_plain_refusal" (sp__law_plain_refusal K) []) : FnOk P w K mg base CX0 13 f fd ["text"] (sp__law_asked53 K) :=
  FnP.go (k := 12) F sc__law_asked (fun vs H Q E => by first | (unfold sp__law_asked53; walk_at "len") | walk_at "len") (t__law_asked53 K) (fun vs H Q E h => pure__law_asked53 (K := K) NT vs H Q E h) fun cdv A outer s H E hr =>
    (pss_cons (ps_set (i := 1) sc__law_asked.nd rfl (by first | exact Or.inl rfl | exact Or.inr rfl) pe_non)
      (pss_cons (ps_set (i := 2) sc__law_asked.nd rfl (by first | exact Or.inl rfl | exact Or.inr rfl) pe_non)
      (pss_cons (ps_try_hold (i := 3) (tb := fun W => tAsg (tCallSD (sp_read_program K) [] (WE (W)) (tCons (tVar 0) (tNil))) (gName 1)) (ts := fun a cls d => tAsg (tVar 3) (gName 2)) (Wout := fun _ _ _ _ => False) rfl rfl rfl sc__law_asked.nd rfl rfl ⟨rfl, by decide, Or.inl G.WorkError⟩ takes0 (fun W pn xe tk _ => (pss_one (ps_set (i := 1) sc__law_asked.nd rfl (by first | exact Or.inl rfl | exact Or.inr rfl) (pe_cx c_read_program hr (by omega) (by rfl) tk (pa_cons (pv 0) pa_nil))))) (fun a oe cls d pn hz hf => (pss_one (ps_set (i := 2) sc__law_asked.nd rfl (by first | exact Or.inl rfl | exact Or.inr rfl) (pv 3)))))
      (pss_cons (ps_set (i := 4) sc__law_asked.nd rfl (by first | exact Or.inl rfl | exact Or.inr rfl) (pe_c c__law_read hr (by omega) (by rfl) (pa_cons (pv 0) pa_nil)))
      (pss_cons (ps_if (pt_cmpR p_isN (pv 4) pe_non (nomark _)) (pss_one (ps_ret (pe_and (pe_cmpR p_notN (pv 2) pe_non (nomark _)) (pe_one (pe_c c__law_plain_refusal hr (by omega) (by rfl) (pa_cons (pv 2) pa_nil)))))) pss_nil)
      (pss_one (ps_ret (pe_and (pe_cmpR p_isN (pv 2) pe_non (nomark _)) (pe_and (pe_callB call_isi (by rfl) G.isinstance (by decide +kernel) (pa_cons (pv 1) (pa_cons (pe_bltn (v := .ty "list") (by rfl) G.list (by decide +kernel) rfl) pa_nil))) (pe_one (pe_cmpR (p_eqD hr.units) (pv 1) (pv 4) (nomark _))))))))))))
theorem ok__law_long (F : FnP K "_law_long" s__law_long [] f fd) (G : Gm w K mg dP es nn) (c__law_draw : Cal P w K mg base 1 "_law_draw" sp__law_draw []) : FnOk P w K mg base CX0 2 f fd ["bag"] sp__law_long :=
  FnP.go (k := 1) F sc__law_long (fun vs H Q E => by first | (unfold sp__law_long; walk_at "len") | walk_at "len") (t__law_long K) (fun vs H Q E h => pure__law_long (K := K) vs H Q E h) fun cdv A outer s H E hr =>
    (pss_cons (ps_set (i := 1) sc__law_long.nd rfl (by first | exact Or.inl rfl | exact Or.inr rfl) pe_str)
      (pss_cons (ps_set (i := 2) sc__law_long.nd rfl (by first | exact Or.inl rfl | exact Or.inr rfl) (pe_op p_add pe_int (pe_c c__law_draw hr (by omega) (by rfl) (pa_cons (pv 0) (pa_cons pe_int pa_nil)))))
      (pss_cons (ps_set (i := 3) sc__law_long.nd rfl (by first | exact Or.inl rfl | exact Or.inr rfl) (pe_c c__law_draw hr (by omega) (by rfl) (pa_cons (pv 0) (pa_cons pe_int pa_nil))))
      (pss_cons (ps_if (pt_cmpR op_eq (pv 3) pe_int (nomark _)) (pss_cons (ps_set (i := 4) sc__law_long.nd rfl (by first | exact Or.inl rfl | exact Or.inr rfl) (pe_ix ix_list (pe_lst (pa_cons pe_str (pa_cons pe_str (pa_cons pe_str (pa_cons pe_str (pa_cons pe_str (pa_cons pe_str (pa_cons pe_str (pa_cons pe_str (pa_cons pe_str (pa_cons pe_str (pa_cons pe_str pa_nil)))))))))))) (pe_c c__law_draw hr (by omega) (by rfl) (pa_cons (pv 0) (pa_cons pe_int pa_nil))) (fun _ _ => rfl)))
      (pss_one (ps_ret (pe_slice sl_str (pe_op p_mulA (pv 4) (pv 2)) po_none (po_some pe_int))))) pss_nil)
      (pss_cons (ps_if (pt_cmpR op_eq (pv 3) pe_int (nomark _)) (pss_cons (ps_set (i := 5) sc__law_long.nd rfl (by first | exact Or.inl rfl | exact Or.inr rfl) (pe_op p_mod (pv 2) pe_int))
      (pss_one (ps_ret (pe_slice sl_str (pe_op p_addS (pe_op p_addS (pe_op p_addS (pe_op p_addS pe_str (pe_op p_mulA pe_str (pv 5))) pe_str) (pe_op p_mulA pe_str (pv 5))) pe_str) po_none (po_some pe_int))))) pss_nil)
      (pss_cons (ps_if (pt_cmpR op_eq (pv 3) pe_int (nomark _)) (pss_one (ps_ret (pe_op p_addS (pe_op p_addS pe_str (pe_op p_mulA pe_str (pe_op p_mod (pv 2) pe_int))) (pe_op p_mulA pe_str (pe_op p_mod (pv 2) pe_int))))) pss_nil)
      (pss_cons (ps_if (pt_cmpR op_eq (pv 3) pe_int (nomark _)) (pss_one (ps_ret (pe_op p_addS pe_str (pe_join pe_str (pe_op op_cat (pe_lc (own := [("k", 7)]) (g := gName 7) (tt := tYes) (by rfl) sc__law_long.nd (pi_range1 (by rfl) G.range (pa_cons (pe_op p_mod (pv 2) pe_int) pa_nil)) (blkOk_by (own := [("k", 7)]) (N := ["bag", "letters", "many", "pick", "piece", "deep", "long", "k"]) (sc := defScope s__law_long) (by decide +kernel)) (fun _ _ _ _ _ => (pg_name (i := 7) sc__law_long.nd rfl (by first | exact Or.inl rfl | exact Or.inr rfl))) (fun _ _ _ _ _ => pts_nil) (fun _ _ _ _ _ => (pe_ix ix_list (pe_lst (pa_cons pe_str (pa_cons pe_str (pa_cons pe_str pa_nil)))) (pe_op p_mod (pv 7) pe_int) (fun _ _ => rfl)))) (pe_lst (pa_cons pe_str pa_nil))))))) pss_nil)
      (pss_cons (ps_if (pt_cmpR op_eq (pv 3) pe_int (nomark _)) (pss_one (ps_ret (pe_join pe_str (pe_lc (own := [("k", 7)]) (g := gName 7) (tt := tYes) (by rfl) sc__law_long.nd (pi_range1 (by rfl) G.range (pa_cons (pe_op p_mod (pv 2) pe_int) pa_nil)) (blkOk_by (own := [("k", 7)]) (N := ["bag", "letters", "many", "pick", "piece", "deep", "long", "k"]) (sc := defScope s__law_long) (by decide +kernel)) (fun _ _ _ _ _ => (pg_name (i := 7) sc__law_long.nd rfl (by first | exact Or.inl rfl | exact Or.inr rfl))) (fun _ _ _ _ _ => pts_nil) (fun _ _ _ _ _ => (pe_op p_addS (pe_op p_addS (pe_ix ix_str (pv 1) (pe_op p_fdiv (pv 7) pe_int) (fun _ _ => rfl)) (pe_ix ix_str (pv 1) (pe_op p_mod (pv 7) pe_int) (fun _ _ => rfl))) pe_str)))))) pss_nil)
      (pss_cons (ps_set (i := 6) sc__law_long.nd rfl (by first | exact Or.inl rfl | exact Or.inr rfl) (pe_op p_mod (pv 2) pe_int))
      (pss_cons (ps_if (pt_cmpR p_lt (pv 6) pe_int (nomark _)) (pss_one (ps_ret (pe_op p_addS pe_str (pe_join pe_str (pe_op op_cat (pe_lc (own := [("k", 7)]) (g := gName 7) (tt := tYes) (by rfl) sc__law_long.nd (pi_range1 (by rfl) G.range (pa_cons (pv 6) pa_nil)) (blkOk_by (own := [("k", 7)]) (N := ["bag", "letters", "many", "pick", "piece", "deep", "long", "k"]) (sc := defScope s__law_long) (by decide +kernel)) (fun _ _ _ _ _ => (pg_name (i := 7) sc__law_long.nd rfl (by first | exact Or.inl rfl | exact Or.inr rfl))) (fun _ _ _ _ _ => pts_nil) (fun _ _ _ _ _ => (pe_joined (PJ.cons pe_str (PJ.cons (pe_fmt (pe_op p_add pe_int (pe_op p_mod (pe_op p_mul (pv 7) (pv 7)) (pe_op p_sub (pv 6) (pv 7))))) PJ.nil))))) (pe_lst (pa_cons pe_str pa_nil))))))) pss_nil)
      (pss_one (ps_ret (pe_op p_addS (pe_op p_addS pe_str (pe_op p_mulA pe_str (pv 6))) pe_str)))))))))))))
theorem ok_law (F : FnP K "law" s_law [] f fd) (G : Gm w K mg dP es nn) (c__law_cell_at : Cal P w K mg base 1 "_law_cell_at" (sp__law_cell_at K) []) (c__law_bag : Cal P w K mg base 1 "_law_bag" sp__law_bag []) (c__law_long : Cal P w K mg base 2 "_law_long" sp__law_long []) (c__law_draw : Cal P w K mg base 1 "_law_draw" sp__law_draw []) (c__law_sign : Cal P w K mg base 2 "_law_sign" sp__law_sign []) (c__law_asked : Cal P w K mg base 13 "_law_asked" (sp__law_asked53 K) []) (c__law_read : Cal P w K mg base 11 "_law_read" sp__law_read []) (c_show_program : Cal P w K mg base 10 "show_program" (sp_show_program K) []) : FnOk P w K mg base CX0 14 f fd ["script"] (sp_law K) :=
  FnP.go (k := 13) F sc_law (fun vs H Q E => by first | (unfold sp_law; walk_at "len") | walk_at "len") (t_law K) (fun vs H Q E h => pure_law (K := K) vs H Q E h) fun cdv A outer s H E hr =>
    (pss_cons (ps_set (i := 1) sc_law.nd rfl (by first | exact Or.inl rfl | exact Or.inr rfl) (pe_c c__law_bag hr (by omega) (by rfl) (pa_cons (pe_c c__law_cell_at hr (by omega) (by rfl) (pa_cons (pv 0) (pa_cons pe_int pa_nil))) (pa_cons pe_int pa_nil))))
      (pss_cons (ps_set (i := 2) sc_law.nd rfl (by first | exact Or.inl rfl | exact Or.inr rfl) (pe_c c__law_long hr (by omega) (by rfl) (pa_cons (pv 1) pa_nil)))
      (pss_cons (ps_set (i := 3) sc_law.nd rfl (by first | exact Or.inl rfl | exact Or.inr rfl) (pe_c c__law_draw hr (by omega) (by rfl) (pa_cons (pv 1) (pa_cons (pe_op p_add (pe_callB p_lenS (by rfl) G.len (by decide +kernel) (pa_cons (pv 2) pa_nil)) pe_int) pa_nil))))
      (pss_cons (ps_set (i := 4) sc_law.nd rfl (by first | exact Or.inl rfl | exact Or.inr rfl) (pe_op p_addS (pe_op p_addS (pe_slice sl_str (pv 2) po_none (po_some (pv 3))) (pe_c c__law_sign hr (by omega) (by rfl) (pa_cons (pv 1) pa_nil))) (pe_slice sl_str (pv 2) (po_some (pe_op p_add (pv 3) pe_int)) po_none)))
      (pss_cons (ps_for PassesOwn.never rfl (pi_list (pe_lst (pa_cons (pv 2) (pa_cons (pe_slice sl_str (pv 4) po_none (po_some pe_int)) pa_nil)))) (pg_name (i := 5) sc_law.nd rfl (by first | exact Or.inl rfl | exact Or.inr rfl)) (pss_cons (ps_if (pt_not (pt_val (pe_c c__law_asked hr (by omega) (by rfl) (pa_cons (pv 5) pa_nil)))) (pss_one (ps_ret pe_bl)) pss_nil)
      (pss_cons (ps_set (i := 6) sc_law.nd rfl (by first | exact Or.inl rfl | exact Or.inr rfl) (pe_c c__law_read hr (by omega) (by rfl) (pa_cons (pv 5) pa_nil)))
      (pss_one (ps_if (PW.pt (pw_and (pt_cmpR p_notN (pv 6) pe_non (nomark _)) (pw_and1 (pt_cmpR op_ne (pe_c c_show_program hr (by omega) (by rfl) (pa_cons (pv 6) pa_nil)) (pv 5) (nomark _))))) (pss_one (ps_ret pe_bl)) pss_nil)))))
      (pss_one (ps_ret pe_bl)))))))
end
theorem facts {P : Program} {w : World} {K : PySem.W.Frag} {h : Heap} {mg : Str → Option Value} {f : Addr} (X : K.In h) (G0 : h.Ns mainGlobals mg) (hfa : mg ("law" : Str) = some (.ref f)) (c0 : He.SaysX fa fn ts [] ex w h K) :
    ∃ fd : FuncData, (∀ (s : Shared) (v : Value), BindsTo s fd ⟨[v], []⟩ [("script", v)]) ∧ ∀ base : Heap, K.In base → base.Ns mainGlobals mg → FnOk P w K mg base CX0 14 f fd ["script"] (sp_law K) := by
  have c := c0.t.d
  have hd : He.dicW K (He.ga K "PARTS") = some (He.keysIn w.params partK) := (List.cons.inj (congrArg (fun z : He.AlT => z.2) c0.t)).1
  have c0m : (He.valsB K (He.ga K "PARTS") partV && (mknB K (He.ga K "NoText") && (ntfB K && (decide (PySem.W.nsIn K cStatics "sys.int_max_str_digits" = some none))))) = true := c0.more
  obtain ⟨c0more, c0r0⟩ := Bool.and_eq_true_iff.mp c0m
  obtain ⟨mn_NoText, c0r1⟩ := Bool.and_eq_true_iff.mp c0r0
  obtain ⟨ntf0, c0r2⟩ := Bool.and_eq_true_iff.mp c0r1
  have dg00 := c0r2
  have dg0 : DgK K := of_decide_eq_true (p := PySem.W.nsIn K cStatics "sys.int_max_str_digits" = some none) dg00
  have NT : NTf K := ntfB_ok ntf0
  have T : Parts K w (He.ga K "PARTS") := parts_of hd c0more
  obtain ⟨es, nn, kd⟩ := T.kd
  obtain ⟨fd_is_whole, F_is_whole⟩ : ∃ fd, FnP K "is_whole" s_is_whole [] (He.ga K "is_whole") fd := c.def_ 0 (d := d_is_whole) rfl
  obtain ⟨fd_is_name, F_is_name⟩ : ∃ fd, FnP K "is_name" s_is_name [] (He.ga K "is_name") fd := c.def_ 1 (d := d_is_name) rfl
  obtain ⟨fd_is_expression, F_is_expression⟩ : ∃ fd, FnP K "is_expression" s_is_expression [.int 5] (He.ga K "is_expression") fd := c.def_ 2 (d := d_is_expression) rfl
  obtain ⟨fd_is_step, F_is_step⟩ : ∃ fd, FnP K "is_step" s_is_step [] (He.ga K "is_step") fd := c.def_ 3 (d := d_is_step) rfl
  obtain ⟨fd_has_form, F_has_form⟩ : ∃ fd, FnP K "has_form" s_has_form [] (He.ga K "has_form") fd := c.def_ 4 (d := d_has_form) rfl
  obtain ⟨fd_first_wrong, F_first_wrong⟩ : ∃ fd, FnP K "first_wrong" s_first_wrong [] (He.ga K "first_wrong") fd := c.def_ 5 (d := d_first_wrong) rfl
  obtain ⟨fd_is_program, F_is_program⟩ : ∃ fd, FnP K "is_program" s_is_program [] (He.ga K "is_program") fd := c.def_ 6 (d := d_is_program) rfl
  obtain ⟨fd_show_expression, F_show_expression⟩ : ∃ fd, FnP K "show_expression" s_show_expression [] (He.ga K "show_expression") fd := c.def_ 7 (d := d_show_expression) rfl
  obtain ⟨fd_show_step, F_show_step⟩ : ∃ fd, FnP K "show_step" s_show_step [] (He.ga K "show_step") fd := c.def_ 8 (d := d_show_step) rfl
  obtain ⟨fd_show_program, F_show_program⟩ : ∃ fd, FnP K "show_program" s_show_program [] (He.ga K "show_program") fd := c.def_ 9 (d := d_show_program) rfl
  obtain ⟨fd_read_number, F_read_number⟩ : ∃ fd, FnP K "read_number" s_read_number [] (He.ga K "read_number") fd := c.def_ 10 (d := d_read_number) rfl
  obtain ⟨fd_parted, F_parted⟩ : ∃ fd, FnP K "parted" s_parted [] (He.ga K "parted") fd := c.def_ 11 (d := d_parted) rfl
  obtain ⟨fd_read_expression, F_read_expression⟩ : ∃ fd, FnP K "read_expression" s_read_expression [.int 5] (He.ga K "read_expression") fd := c.def_ 12 (d := d_read_expression) rfl
  obtain ⟨fd_read_step, F_read_step⟩ : ∃ fd, FnP K "read_step" s_read_step [] (He.ga K "read_step") fd := c.def_ 13 (d := d_read_step) rfl
  obtain ⟨fd_read_helper, F_read_helper⟩ : ∃ fd, FnP K "read_helper" s_read_helper [] (He.ga K "read_helper") fd := c.def_ 14 (d := d_read_helper) rfl
  obtain ⟨fd_read_program, F_read_program⟩ : ∃ fd, FnP K "read_program" s_read_program [] (He.ga K "read_program") fd := c.def_ 15 (d := d_read_program) rfl
  obtain ⟨fd__law_cell_at, F__law_cell_at⟩ : ∃ fd, FnP K "_law_cell_at" s__law_cell_at [] (He.ga K "_law_cell_at") fd := c.def_ 16 (d := d__law_cell_at) rfl
  obtain ⟨fd__law_bag, F__law_bag⟩ : ∃ fd, FnP K "_law_bag" s__law_bag [] (He.ga K "_law_bag") fd := c.def_ 17 (d := d__law_bag) rfl
  obtain ⟨fd__law_draw, F__law_draw⟩ : ∃ fd, FnP K "_law_draw" s__law_draw [] (He.ga K "_law_draw") fd := c.def_ 18 (d := d__law_draw) rfl
  obtain ⟨fd__law_sign, F__law_sign⟩ : ∃ fd, FnP K "_law_sign" s__law_sign [] (He.ga K "_law_sign") fd := c.def_ 19 (d := d__law_sign) rfl
  obtain ⟨fd__law_is_name, F__law_is_name⟩ : ∃ fd, FnP K "_law_is_name" s__law_is_name [] (He.ga K "_law_is_name") fd := c.def_ 20 (d := d__law_is_name) rfl
  obtain ⟨fd__law_is_whole, F__law_is_whole⟩ : ∃ fd, FnP K "_law_is_whole" s__law_is_whole [] (He.ga K "_law_is_whole") fd := c.def_ 21 (d := d__law_is_whole) rfl
  obtain ⟨fd__law_is_expression, F__law_is_expression⟩ : ∃ fd, FnP K "_law_is_expression" s__law_is_expression [] (He.ga K "_law_is_expression") fd := c.def_ 22 (d := d__law_is_expression) rfl
  obtain ⟨fd__law_is_step, F__law_is_step⟩ : ∃ fd, FnP K "_law_is_step" s__law_is_step [] (He.ga K "_law_is_step") fd := c.def_ 23 (d := d__law_is_step) rfl
  obtain ⟨fd__law_wrong, F__law_wrong⟩ : ∃ fd, FnP K "_law_wrong" s__law_wrong [] (He.ga K "_law_wrong") fd := c.def_ 24 (d := d__law_wrong) rfl
  obtain ⟨fd__law_number_read, F__law_number_read⟩ : ∃ fd, FnP K "_law_number_read" s__law_number_read [] (He.ga K "_law_number_read") fd := c.def_ 25 (d := d__law_number_read) rfl
  obtain ⟨fd__law_expression_read, F__law_expression_read⟩ : ∃ fd, FnP K "_law_expression_read" s__law_expression_read [] (He.ga K "_law_expression_read") fd := c.def_ 26 (d := d__law_expression_read) rfl
  obtain ⟨fd__law_letters, F__law_letters⟩ : ∃ fd, FnP K "_law_letters" s__law_letters [] (He.ga K "_law_letters") fd := c.def_ 27 (d := d__law_letters) rfl
  obtain ⟨fd__law_step_read, F__law_step_read⟩ : ∃ fd, FnP K "_law_step_read" s__law_step_read [] (He.ga K "_law_step_read") fd := c.def_ 28 (d := d__law_step_read) rfl
  obtain ⟨fd__law_helper_read, F__law_helper_read⟩ : ∃ fd, FnP K "_law_helper_read" s__law_helper_read [] (He.ga K "_law_helper_read") fd := c.def_ 29 (d := d__law_helper_read) rfl
  obtain ⟨fd__law_read, F__law_read⟩ : ∃ fd, FnP K "_law_read" s__law_read [] (He.ga K "_law_read") fd := c.def_ 30 (d := d__law_read) rfl
  obtain ⟨fd__law_plain_refusal, F__law_plain_refusal⟩ : ∃ fd, FnP K "_law_plain_refusal" s__law_plain_refusal [] (He.ga K "_law_plain_refusal") fd := c.def_ 31 (d := d__law_plain_refusal) rfl
  obtain ⟨fd__law_asked, F__law_asked⟩ : ∃ fd, FnP K "_law_asked" s__law_asked [] (He.ga K "_law_asked") fd := c.def_ 32 (d := d__law_asked) rfl
  obtain ⟨fd__law_long, F__law_long⟩ : ∃ fd, FnP K "_law_long" s__law_long [] (He.ga K "_law_long") fd := c.def_ 33 (d := d__law_long) rfl
  obtain ⟨fd_law, F_law⟩ : ∃ fd, FnP K "law" s_law [] (He.ga K "law") fd := c.def_ 34 (d := d_law) rfl
  have G : Gm w K mg (He.ga K "PARTS") es nn := ⟨He.free_ok X G0 (c.fact 43 (f := .free "ValueError") rfl), He.free_ok X G0 (c.fact 44 (f := .free "all") rfl), He.free_ok X G0 (c.fact 45 (f := .free "isinstance") rfl), He.free_ok X G0 (c.fact 46 (f := .free "int") rfl), He.free_ok X G0 (c.fact 47 (f := .free "tuple") rfl), He.free_ok X G0 (c.fact 48 (f := .free "len") rfl), He.free_ok X G0 (c.fact 49 (f := .free "list") rfl), He.free_ok X G0 (c.fact 50 (f := .free "enumerate") rfl), He.free_ok X G0 (c.fact 51 (f := .free "str") rfl), He.free_ok X G0 (c.fact 52 (f := .free "max") rfl), He.free_ok X G0 (c.fact 53 (f := .free "range") rfl), He.free_ok X G0 (c.fact 54 (f := .free "bool") rfl), He.free_ok X G0 (c.fact 55 (f := .free "zip") rfl), (let ⟨t, e⟩ := He.str_ok X G0 (c.fact 56 (f := .str "LETTERS" letters) rfl); ⟨_, e, t, rfl⟩), (let ⟨t, e⟩ := He.int_ok X G0 (c.fact 57 (f := .int "LONGEST_NAME" 8) rfl); ⟨_, e, t, rfl⟩), ⟨_, He.glo_ok X G0 (c.fact 58 (f := .glo "PARTS") rfl), rfl⟩, (let ⟨t, e⟩ := He.str_ok X G0 (c.fact 59 (f := .str "FIGURES" "0123456789") rfl); ⟨_, e, t, rfl⟩), He.glo_ok X G0 (c.fact 35 (f := .glo "WorkError") rfl), He.glo_ok X G0 (c.fact 36 (f := .glo "NoProgram") rfl), He.glo_ok X G0 (c.fact 37 (f := .glo "NoHelper") rfl), He.glo_ok X G0 (c.fact 38 (f := .glo "TooLong") rfl), He.glo_ok X G0 (c.fact 39 (f := .glo "NoMark") rfl), He.glo_ok X G0 (c.fact 40 (f := .glo "NoHand") rfl), He.glo_ok X G0 (c.fact 41 (f := .glo "NotOver") rfl), He.glo_ok X G0 (c.fact 42 (f := .glo "NoText") rfl), kd, dg0⟩
  have g_is_whole := He.glo_ok X G0 (c.fact 0 (f := .glo "is_whole") rfl)
  have g_is_name := He.glo_ok X G0 (c.fact 1 (f := .glo "is_name") rfl)
  have g_is_expression := He.glo_ok X G0 (c.fact 2 (f := .glo "is_expression") rfl)
  have g_is_step := He.glo_ok X G0 (c.fact 3 (f := .glo "is_step") rfl)
  have g_has_form := He.glo_ok X G0 (c.fact 4 (f := .glo "has_form") rfl)
  have g_first_wrong := He.glo_ok X G0 (c.fact 5 (f := .glo "first_wrong") rfl)
  have g_is_program := He.glo_ok X G0 (c.fact 6 (f := .glo "is_program") rfl)
  have g_show_expression := He.glo_ok X G0 (c.fact 7 (f := .glo "show_expression") rfl)
  have g_show_step := He.glo_ok X G0 (c.fact 8 (f := .glo "show_step") rfl)
  have g_show_program := He.glo_ok X G0 (c.fact 9 (f := .glo "show_program") rfl)
  have g_read_number := He.glo_ok X G0 (c.fact 10 (f := .glo "read_number") rfl)
  have g_parted := He.glo_ok X G0 (c.fact 11 (f := .glo "parted") rfl)
  have g_read_expression := He.glo_ok X G0 (c.fact 12 (f := .glo "read_expression") rfl)
  have g_read_step := He.glo_ok X G0 (c.fact 13 (f := .glo "read_step") rfl)
  have g_read_helper := He.glo_ok X G0 (c.fact 14 (f := .glo "read_helper") rfl)
  have g_read_program := He.glo_ok X G0 (c.fact 15 (f := .glo "read_program") rfl)
  have g__law_cell_at := He.glo_ok X G0 (c.fact 16 (f := .glo "_law_cell_at") rfl)
  have g__law_bag := He.glo_ok X G0 (c.fact 17 (f := .glo "_law_bag") rfl)
  have g__law_draw := He.glo_ok X G0 (c.fact 18 (f := .glo "_law_draw") rfl)
  have g__law_sign := He.glo_ok X G0 (c.fact 19 (f := .glo "_law_sign") rfl)
  have g__law_is_name := He.glo_ok X G0 (c.fact 20 (f := .glo "_law_is_name") rfl)
  have g__law_is_whole := He.glo_ok X G0 (c.fact 21 (f := .glo "_law_is_whole") rfl)
  have g__law_is_expression := He.glo_ok X G0 (c.fact 22 (f := .glo "_law_is_expression") rfl)
  have g__law_is_step := He.glo_ok X G0 (c.fact 23 (f := .glo "_law_is_step") rfl)
  have g__law_wrong := He.glo_ok X G0 (c.fact 24 (f := .glo "_law_wrong") rfl)
  have g__law_number_read := He.glo_ok X G0 (c.fact 25 (f := .glo "_law_number_read") rfl)
  have g__law_expression_read := He.glo_ok X G0 (c.fact 26 (f := .glo "_law_expression_read") rfl)
  have g__law_letters := He.glo_ok X G0 (c.fact 27 (f := .glo "_law_letters") rfl)
  have g__law_step_read := He.glo_ok X G0 (c.fact 28 (f := .glo "_law_step_read") rfl)
  have g__law_helper_read := He.glo_ok X G0 (c.fact 29 (f := .glo "_law_helper_read") rfl)
  have g__law_read := He.glo_ok X G0 (c.fact 30 (f := .glo "_law_read") rfl)
  have g__law_plain_refusal := He.glo_ok X G0 (c.fact 31 (f := .glo "_law_plain_refusal") rfl)
  have g__law_asked := He.glo_ok X G0 (c.fact 32 (f := .glo "_law_asked") rfl)
  have g__law_long := He.glo_ok X G0 (c.fact 33 (f := .glo "_law_long") rfl)
  have g_law := He.glo_ok X G0 (c.fact 34 (f := .glo "law") rfl)
  have e := hfa.symm.trans g_law
  cases e
  have b := FunD.bindsA (ps := ["script"]) F_law fun _ _ _ _ _ _ us hl => match us, hl with | [_], _ => rfl
  refine ⟨fd_law, fun s v => b s [v] rfl, fun base _ _ => ?_⟩
  have m_NoText := mknB_ok mn_NoText G.NoText
  have o_is_whole := ok_is_whole (P := P) (base := base) F_is_whole G 
  have c_is_whole := F_is_whole.cal o_is_whole g_is_whole fun _ _ _ _ _ _ us hl => match us, hl with | [_], _ => rfl
  have o_is_name := ok_is_name (P := P) (base := base) F_is_name G 
  have c_is_name := F_is_name.cal o_is_name g_is_name fun _ _ _ _ _ _ us hl => match us, hl with | [_], _ => rfl
  have o_is_expression := ok_is_expression (P := P) (base := base) F_is_expression G T g_is_expression c_is_whole 6
  have c_is_expression_d := FnP.cald 1 0 F_is_expression o_is_expression g_is_expression (by simp) rfl fun _ _ _ _ _ _ _ us its h1 h2 => match us, its, h1, h2 with | [_], [_], _, _ => ⟨_, rfl, rfl⟩
  have o_is_step := ok_is_step (P := P) (base := base) F_is_step G c_is_expression_d c_is_whole c_is_name
  have c_is_step := F_is_step.cal o_is_step g_is_step fun _ _ _ _ _ _ us hl => match us, hl with | [_, _, _], _ => rfl
  have o_has_form := ok_has_form (P := P) (base := base) F_has_form G c_is_name
  have c_has_form := F_has_form.cal o_has_form g_has_form fun _ _ _ _ _ _ us hl => match us, hl with | [_], _ => rfl
  have o_first_wrong := ok_first_wrong (P := P) (base := base) F_first_wrong G c_has_form c_is_step
  have c_first_wrong := F_first_wrong.cal o_first_wrong g_first_wrong fun _ _ _ _ _ _ us hl => match us, hl with | [_], _ => rfl
  have o_is_program := ok_is_program (P := P) (base := base) F_is_program G c_first_wrong
  have c_is_program := F_is_program.cal o_is_program g_is_program fun _ _ _ _ _ _ us hl => match us, hl with | [_], _ => rfl
  have o_show_expression := ok_show_expression (P := P) (base := base) F_show_expression G g_show_expression  6
  have c_show_expression := F_show_expression.cal o_show_expression g_show_expression fun _ _ _ _ _ _ us hl => match us, hl with | [_], _ => rfl
  have o_show_step := ok_show_step (P := P) (base := base) F_show_step G c_show_expression
  have c_show_step := F_show_step.cal o_show_step g_show_step fun _ _ _ _ _ _ us hl => match us, hl with | [_], _ => rfl
  have o_show_program := ok_show_program (P := P) (base := base) F_show_program G c_show_step
  have c_show_program := F_show_program.cal o_show_program g_show_program fun _ _ _ _ _ _ us hl => match us, hl with | [_], _ => rfl
  have o_read_number := ok_read_number (P := P) (base := base) F_read_number G m_NoText
  have c_read_number := F_read_number.calX o_read_number g_read_number fun _ _ _ _ _ _ us hl => match us, hl with | [_], _ => rfl
  have o_parted := ok_parted (P := P) (base := base) F_parted G m_NoText
  have c_parted := F_parted.calX o_parted g_parted fun _ _ _ _ _ _ us hl => match us, hl with | [_], _ => rfl
  have o_read_expression := ok_read_expression (P := P) (base := base) F_read_expression G T g_read_expression c_read_number c_parted m_NoText 6
  have c_read_expression_d := FnP.caldX 1 0 F_read_expression o_read_expression g_read_expression (by simp) rfl fun _ _ _ _ _ _ _ us its h1 h2 => match us, its, h1, h2 with | [_], [_], _, _ => ⟨_, rfl, rfl⟩
  have o_read_step := ok_read_step (P := P) (base := base) F_read_step G c_parted c_read_expression_d c_read_number m_NoText
  have c_read_step := F_read_step.calX o_read_step g_read_step fun _ _ _ _ _ _ us hl => match us, hl with | [_], _ => rfl
  have o_read_helper := ok_read_helper (P := P) (base := base) F_read_helper G c_read_step m_NoText
  have c_read_helper := F_read_helper.calX o_read_helper g_read_helper fun _ _ _ _ _ _ us hl => match us, hl with | [_], _ => rfl
  have o_read_program := ok_read_program (P := P) (base := base) F_read_program G c_read_helper c_is_program m_NoText
  have c_read_program := F_read_program.calX o_read_program g_read_program fun _ _ _ _ _ _ us hl => match us, hl with | [_], _ => rfl
  have o__law_cell_at := ok__law_cell_at (P := P) (base := base) F__law_cell_at G 
  have c__law_cell_at := F__law_cell_at.cal o__law_cell_at g__law_cell_at fun _ _ _ _ _ _ us hl => match us, hl with | [_, _], _ => rfl
  have o__law_bag := ok__law_bag (P := P) (base := base) F__law_bag G 
  have c__law_bag := F__law_bag.cal o__law_bag g__law_bag fun _ _ _ _ _ _ us hl => match us, hl with | [_, _], _ => rfl
  have o__law_draw := ok__law_draw (P := P) (base := base) F__law_draw G 
  have c__law_draw := F__law_draw.cal o__law_draw g__law_draw fun _ _ _ _ _ _ us hl => match us, hl with | [_, _], _ => rfl
  have o__law_sign := ok__law_sign (P := P) (base := base) F__law_sign G c__law_draw
  have c__law_sign := F__law_sign.cal o__law_sign g__law_sign fun _ _ _ _ _ _ us hl => match us, hl with | [_], _ => rfl
  have o__law_is_name := ok__law_is_name (P := P) (base := base) F__law_is_name G 
  have c__law_is_name := F__law_is_name.cal o__law_is_name g__law_is_name fun _ _ _ _ _ _ us hl => match us, hl with | [_], _ => rfl
  have o__law_is_whole := ok__law_is_whole (P := P) (base := base) F__law_is_whole G 
  have c__law_is_whole := F__law_is_whole.cal o__law_is_whole g__law_is_whole fun _ _ _ _ _ _ us hl => match us, hl with | [_], _ => rfl
  have o__law_is_expression := ok__law_is_expression (P := P) (base := base) F__law_is_expression G g__law_is_expression c__law_is_whole 6
  have c__law_is_expression := F__law_is_expression.cal o__law_is_expression g__law_is_expression fun _ _ _ _ _ _ us hl => match us, hl with | [_, _], _ => rfl
  have o__law_is_step := ok__law_is_step (P := P) (base := base) F__law_is_step G c__law_is_expression c__law_is_whole c__law_is_name
  have c__law_is_step := F__law_is_step.cal o__law_is_step g__law_is_step fun _ _ _ _ _ _ us hl => match us, hl with | [_, _, _], _ => rfl
  have o__law_wrong := ok__law_wrong (P := P) (base := base) F__law_wrong G c__law_is_name c__law_is_step
  have c__law_wrong := F__law_wrong.cal o__law_wrong g__law_wrong fun _ _ _ _ _ _ us hl => match us, hl with | [_], _ => rfl
  have o__law_number_read := ok__law_number_read (P := P) (base := base) F__law_number_read G 
  have c__law_number_read := F__law_number_read.cal o__law_number_read g__law_number_read fun _ _ _ _ _ _ us hl => match us, hl with | [_, _], _ => rfl
  have o__law_expression_read := ok__law_expression_read (P := P) (base := base) F__law_expression_read G g__law_expression_read c__law_number_read 6
  have c__law_expression_read := F__law_expression_read.cal o__law_expression_read g__law_expression_read fun _ _ _ _ _ _ us hl => match us, hl with | [_, _, _], _ => rfl
  have o__law_letters := ok__law_letters (P := P) (base := base) F__law_letters G 
  have c__law_letters := F__law_letters.cal o__law_letters g__law_letters fun _ _ _ _ _ _ us hl => match us, hl with | [_, _], _ => rfl
  have o__law_step_read := ok__law_step_read (P := P) (base := base) F__law_step_read G c__law_letters c__law_expression_read c__law_number_read
  have c__law_step_read := F__law_step_read.cal o__law_step_read g__law_step_read fun _ _ _ _ _ _ us hl => match us, hl with | [_, _], _ => rfl
  have o__law_helper_read := ok__law_helper_read (P := P) (base := base) F__law_helper_read G c__law_letters c__law_step_read
  have c__law_helper_read := F__law_helper_read.cal o__law_helper_read g__law_helper_read fun _ _ _ _ _ _ us hl => match us, hl with | [_, _], _ => rfl
  have o__law_read := ok__law_read (P := P) (base := base) F__law_read G c__law_helper_read c__law_wrong
  have c__law_read := F__law_read.cal o__law_read g__law_read fun _ _ _ _ _ _ us hl => match us, hl with | [_], _ => rfl
  have o__law_plain_refusal := ok__law_plain_refusal (P := P) (base := base) F__law_plain_refusal G NT 
  have c__law_plain_refusal := F__law_plain_refusal.cal o__law_plain_refusal g__law_plain_refusal fun _ _ _ _ _ _ us hl => match us, hl with | [_], _ => rfl
  have o__law_asked := ok__law_asked (P := P) (base := base) F__law_asked G NT c_read_program c__law_read c__law_plain_refusal
  have c__law_asked := F__law_asked.cal o__law_asked g__law_asked fun _ _ _ _ _ _ us hl => match us, hl with | [_], _ => rfl
  have o__law_long := ok__law_long (P := P) (base := base) F__law_long G c__law_draw
  have c__law_long := F__law_long.cal o__law_long g__law_long fun _ _ _ _ _ _ us hl => match us, hl with | [_], _ => rfl
  exact ok_law (P := P) (base := base) F_law G c__law_cell_at c__law_bag c__law_long c__law_draw c__law_sign c__law_asked c__law_read c_show_program
end Fg
open PySem PySem.W PySem.Calls PyProof.Rows
theorem PySem.Challenge.cw_forkgather_k55_long_texts_holds : PySem.Challenge.rw_forkgather_k55_long_texts.Holds :=
  Fg.close (fun K => Fg.sp_law K) (fun K H a ns hl hS => ⟨a, ns, rfl, hS, hl, fun _ => rfl⟩) fun X G0 hfa c0 => Fg.facts X G0 hfa c0
